import PyProof.Rows.All
import Wide.All
import OpenK.AllK
import Wide.FinOn
import KE.SortKeyHeap
import HandS.ForMost
import HandS.ForExc
import HandS.More
import HandS.IsInst
import HandS.Style
import HandS.TupAny
import HandS.DictComp
import HandS.StrMore
import HandS.SortKw
import HandS.OwnEq
import PyProof.InstNe
import KE.DataEq
import HandS.Walk
import KE.KDictPairs
import HandS.ExcOwn
import HandS.TryOnly
import HandS.WordsExc
import HandS.ExcIs
import HandS.ExcCtx
import PyProof.StrLaws
import PyProof.StrOps2
import HandS.ExcInit
import KE.KExcSuper
import HandS.ExcValue
import KE.KExcIs
import HandS.TryMany
import HandS.Text
import HandS.Set
import HandS.Strs
import PyProof.Rows.SetFrom
import PyProof.Rows.SortStr
import PyProof.StrWalks
import HandS.SetBool
import PySem.Challenge.RW_frontparts_k72_beginnings_refused
set_option Elab.async false
set_option maxRecDepth 100000
set_option maxHeartbeats 4000000
set_option linter.all false
/-! Bags as lists of words with numbers: the mirror of the dicts, and its algebra. -/
namespace Fp
open PySem

abbrev Bg := List (Str × Int)
def getS (s : Bg) (w : Str) : Option Int := (s.find? fun kv => decide (kv.1 = w)).map (·.2)
def cf (s : Bg) (w : Str) : Int := (getS s w).getD 0
def putS (s : Bg) (w : Str) (n : Int) : Bg := if (s.any fun kv => decide (kv.1 = w)) = true then s.map (fun kv => if kv.1 = w then (kv.1, n) else kv) else s ++ [(w, n)]
def dropS (s : Bg) (w : Str) : Bg := s.filter fun kv => decide (kv.1 ≠ w)
def addTo (p : Int) (s : Bg) (w : Str) (n : Int) : Bg :=
  if (cf s w + n) % p = 0 then dropS s w else putS s w ((cf s w + n) % p)
def plusS (p : Int) (s t : Bg) (f : Int) : Bg := t.foldl (fun acc kv => addTo p acc kv.1 (f * kv.2)) s
def prodRow (p : Int) (acc : Bg) (a : Str × Int) (t : Bg) : Bg := t.foldl (fun acc b => addTo p acc (a.1 ++ b.1) (a.2 * b.2)) acc
def prodS (p : Int) (s t : Bg) : Bg := s.foldl (fun acc a => prodRow p acc a t) []
def keys (s : Bg) : List Str := s.map (·.1)

structure Good (p : Int) (s : Bg) : Prop where
  nd : (keys s).Nodup
  lo : ∀ kv ∈ s, 0 < kv.2
  hi : ∀ kv ∈ s, kv.2 < p

theorem getS_nil (w : Str) : getS [] w = none := rfl
theorem getS_pos {q : Str × Int} {r : Bg} {w : Str} (e : q.1 = w) : getS (q :: r) w = some q.2 := by simp [getS, List.find?_cons, e]
theorem getS_neg {q : Str × Int} {r : Bg} {w : Str} (e : ¬ q.1 = w) : getS (q :: r) w = getS r w := by simp [getS, List.find?_cons, e]
theorem cf_nil (w : Str) : cf [] w = 0 := rfl
theorem cf_pos {q : Str × Int} {r : Bg} {w : Str} (e : q.1 = w) : cf (q :: r) w = q.2 := by unfold cf; rw [getS_pos e]; rfl
theorem cf_neg {q : Str × Int} {r : Bg} {w : Str} (e : ¬ q.1 = w) : cf (q :: r) w = cf r w := by unfold cf; rw [getS_neg e]
theorem getS_any (w : Str) : ∀ s : Bg, (s.any fun kv => decide (kv.1 = w)) = (getS s w).isSome
  | [] => rfl
  | q :: r => by
    rw [List.any_cons]
    by_cases e : q.1 = w
    · simp only [getS_pos e, decide_eq_true e, Bool.true_or, Option.isSome_some]
    · rw [getS_neg e, decide_eq_false e, Bool.false_or]; exact getS_any w r
theorem getS_mem {w : Str} {n : Int} : ∀ {s : Bg}, getS s w = some n → (w, n) ∈ s
  | q :: r, h => by
    by_cases e : q.1 = w
    · rw [getS_pos e] at h
      cases h
      subst e
      exact List.mem_cons_self
    · rw [getS_neg e] at h
      exact List.mem_cons_of_mem _ (getS_mem h)
theorem getS_of_mem {w : Str} {n : Int} : ∀ {s : Bg}, (keys s).Nodup → (w, n) ∈ s → getS s w = some n
  | q :: r, hn, h => by
    have hn' := List.nodup_cons.mp (show (q.1 :: keys r).Nodup from hn)
    rcases List.mem_cons.mp h with e | h
    · subst e
      exact getS_pos rfl
    · have ne : ¬ q.1 = w := fun e => hn'.1 (e ▸ List.mem_map.mpr ⟨_, h, rfl⟩)
      rw [getS_neg ne]
      exact getS_of_mem hn'.2 h
theorem getS_none {w : Str} : ∀ {s : Bg}, getS s w = none ↔ w ∉ keys s
  | [] => by simp [getS, keys]
  | q :: r => by
    by_cases e : q.1 = w
    · rw [getS_pos e]
      constructor
      · intro h; cases h
      · intro h; exact absurd (by rw [← e]; exact List.mem_cons_self) h
    · rw [getS_neg e]
      have ih := getS_none (w := w) (s := r)
      rw [ih]
      unfold keys
      rw [List.map_cons, List.mem_cons]
      constructor
      · intro h z
        rcases z with z | z
        · exact e z.symm
        · exact h z
      · intro h z
        exact h (.inr z)
theorem mem_keys {w : Str} {s : Bg} : w ∈ keys s ↔ ∃ n, (w, n) ∈ s := by
  unfold keys
  rw [List.mem_map]
  constructor
  · rintro ⟨⟨u, n⟩, h, rfl⟩
    exact ⟨n, h⟩
  · rintro ⟨n, h⟩
    exact ⟨_, h, rfl⟩

theorem getS_map (w u : Str) (n : Int) : ∀ s : Bg, getS (s.map fun kv => if kv.1 = w then (kv.1, n) else kv) u = (getS s u).map fun x => if u = w then n else x
  | [] => rfl
  | q :: r => by
    have ih := getS_map w u n r
    rw [List.map_cons]
    by_cases h : q.1 = w
    · rw [if_pos h]
      by_cases h2 : q.1 = u
      · rw [getS_pos (q := (q.1, n)) h2, getS_pos h2]
        have e : u = w := h2 ▸ h
        simp [e]
      · rw [getS_neg (q := (q.1, n)) h2, getS_neg h2, ih]
    · rw [if_neg h]
      by_cases h2 : q.1 = u
      · rw [getS_pos h2, getS_pos h2]
        have e : ¬ u = w := fun z => h (h2.trans z)
        simp [e]
      · rw [getS_neg h2, getS_neg h2, ih]
theorem getS_snoc (w u : Str) (n : Int) : ∀ s : Bg, getS s w = none → getS (s ++ [(w, n)]) u = if u = w then some n else getS s u
  | [], _ => by
    by_cases e : w = u
    · rw [if_pos e.symm]; exact getS_pos (q := (w, n)) e
    · rw [if_neg (fun z => e z.symm)]; exact getS_neg (q := (w, n)) e
  | q :: r, hn => by
    rw [List.cons_append]
    by_cases h : q.1 = w
    · rw [getS_pos h] at hn; cases hn
    · rw [getS_neg h] at hn
      by_cases h2 : q.1 = u
      · rw [getS_pos h2, getS_pos h2, if_neg (fun z => h (h2.trans z))]
      · rw [getS_neg h2, getS_neg h2]
        exact getS_snoc w u n r hn
theorem getS_put (s : Bg) (w u : Str) (n : Int) : getS (putS s w n) u = if u = w then some n else getS s u := by
  unfold putS
  by_cases a : (s.any fun kv => decide (kv.1 = w)) = true
  · rw [if_pos a, getS_map]
    rw [getS_any] at a
    by_cases e : u = w
    · obtain ⟨x, hx⟩ := Option.isSome_iff_exists.mp a
      subst e
      rw [hx]
      simp
    · simp [e]
  · rw [if_neg a]
    rw [getS_any] at a
    exact getS_snoc w u n s (by cases h : getS s w with | none => rfl | some x => rw [h] at a; exact absurd rfl a)
theorem getS_drop (w u : Str) : ∀ s : Bg, getS (dropS s w) u = if u = w then none else getS s u
  | [] => by
    show getS [] u = _
    rw [getS_nil]
    split <;> rfl
  | q :: r => by
    have ih := getS_drop w u r
    unfold dropS at ih ⊢
    rw [List.filter_cons]
    by_cases h : q.1 = w
    · rw [if_neg (by simp [h])]
      rw [ih]
      by_cases e : u = w
      · rw [if_pos e, if_pos e]
      · rw [if_neg e, if_neg e, getS_neg (fun z => e (z.symm.trans h))]
    · rw [if_pos (by simp [h])]
      by_cases h2 : q.1 = u
      · rw [getS_pos h2, getS_pos h2, if_neg (fun z => h (h2.trans z))]
      · rw [getS_neg h2, getS_neg h2, ih]
theorem cf_put (s : Bg) (w u : Str) (n : Int) : cf (putS s w n) u = if u = w then n else cf s u := by
  unfold cf
  rw [getS_put]
  split <;> rfl
theorem cf_drop (s : Bg) (w u : Str) : cf (dropS s w) u = if u = w then 0 else cf s u := by
  unfold cf
  rw [getS_drop]
  split <;> rfl
theorem cf_addTo (p : Int) (s : Bg) (w u : Str) (n : Int) : cf (addTo p s w n) u = if u = w then (cf s w + n) % p else cf s u := by
  unfold addTo
  split
  · rename_i h
    rw [cf_drop, h]
  · rw [cf_put]

theorem keys_drop (s : Bg) (w : Str) : keys (dropS s w) = (keys s).filter fun u => decide (u ≠ w) := by
  unfold keys dropS
  induction s with
  | nil => rfl
  | cons q r ih =>
    rw [List.filter_cons, List.map_cons, List.filter_cons]
    by_cases h : q.1 = w
    · rw [if_neg (by simp [h]), if_neg (by simp [h])]
      exact ih
    · rw [if_pos (by simp [h]), if_pos (by simp [h]), List.map_cons, ih]
theorem keys_map_put (s : Bg) (w : Str) (n : Int) : keys (s.map fun kv => if kv.1 = w then (kv.1, n) else kv) = keys s := by
  unfold keys
  rw [List.map_map]
  refine List.map_congr_left fun q _ => ?_
  show (if q.1 = w then (q.1, n) else q).1 = q.1
  split <;> rfl
theorem keys_put (s : Bg) (w : Str) (n : Int) : keys (putS s w n) = if w ∈ keys s then keys s else keys s ++ [w] := by
  unfold putS
  rw [getS_any]
  by_cases h : w ∈ keys s
  · rw [if_pos h, if_pos (by cases e : getS s w with | none => exact absurd h (getS_none.mp e) | some x => rfl)]
    exact keys_map_put s w n
  · rw [if_neg h, if_neg (by rw [getS_none.mpr h]; simp)]
    unfold keys
    rw [List.map_append]
    rfl
theorem len_put (s : Bg) (w : Str) (n : Int) : (putS s w n).length ≤ s.length + 1 := by
  have e : (keys (putS s w n)).length ≤ (keys s).length + 1 := by
    rw [keys_put]
    split
    · omega
    · rw [List.length_append]; simp
  unfold keys at e
  rw [List.length_map, List.length_map] at e
  exact e
theorem len_drop (s : Bg) (w : Str) : (dropS s w).length ≤ s.length := List.length_filter_le _ _
theorem len_addTo (p : Int) (s : Bg) (w : Str) (n : Int) : (addTo p s w n).length ≤ s.length + 1 := by
  unfold addTo
  split
  · exact Nat.le_trans (len_drop s w) (Nat.le_succ _)
  · exact len_put _ _ _
theorem mem_keys_addTo {p : Int} {s : Bg} {w u : Str} {n : Int} (h : u ∈ keys (addTo p s w n)) : u ∈ keys s ∨ u = w := by
  unfold addTo at h
  split at h
  · rw [keys_drop] at h
    exact .inl (List.mem_filter.mp h).1
  · rw [keys_put] at h
    split at h
    · exact .inl h
    · rcases List.mem_append.mp h with h | h
      · exact .inl h
      · exact .inr (by simpa using h)

theorem nodup_put {s : Bg} {w : Str} {n : Int} (h : (keys s).Nodup) : (keys (putS s w n)).Nodup := by
  rw [keys_put]
  split
  · exact h
  · rename_i hn
    refine List.nodup_append.mpr ⟨h, by simp, ?_⟩
    intro a ha b hb
    have e : b = w := by simpa using hb
    subst e
    rintro rfl
    exact hn ha
theorem mem_put {s : Bg} {w : Str} {n : Int} {kv : Str × Int} (h : kv ∈ putS s w n) : kv ∈ s ∨ kv = (w, n) := by
  unfold putS at h
  split at h
  · obtain ⟨q, hq, e⟩ := List.mem_map.mp h
    split at e
    · rename_i hw
      exact .inr (by rw [← e, hw])
    · exact .inl (e ▸ hq)
  · rcases List.mem_append.mp h with h | h
    · exact .inl h
    · exact .inr (by simpa using h)

section
variable {p : Int} {s t u : Bg}
theorem Good.nil : Good p [] := ⟨List.nodup_nil, (fun _ h => nomatch h), (fun _ h => nomatch h)⟩
theorem Good.put {w : Str} {n : Int} (g : Good p s) (h0 : 0 < n) (h1 : n < p) : Good p (putS s w n) :=
  ⟨nodup_put g.nd, fun kv h => by
    rcases mem_put h with h | h
    · exact g.lo kv h
    · rw [h]; exact h0, fun kv h => by
    rcases mem_put h with h | h
    · exact g.hi kv h
    · rw [h]; exact h1⟩
theorem Good.drop {w : Str} (g : Good p s) : Good p (dropS s w) :=
  ⟨by rw [keys_drop]; exact g.nd.filter _, fun kv h => g.lo kv (List.mem_filter.mp h).1, fun kv h => g.hi kv (List.mem_filter.mp h).1⟩
theorem Good.addTo {w : Str} {n : Int} (hp : 0 < p) (g : Good p s) : Good p (addTo p s w n) := by
  unfold Fp.addTo
  split
  · exact g.drop
  · rename_i h
    have h1 := Int.emod_nonneg (cf s w + n) (Int.ne_of_gt hp)
    have h2 := Int.emod_lt_of_pos (cf s w + n) hp
    exact g.put (by omega) h2
theorem Good.plus {f : Int} (hp : 0 < p) (g : Good p s) (t : Bg) : Good p (plusS p s t f) := by
  unfold plusS
  induction t generalizing s with
  | nil => exact g
  | cons q r ih => exact ih (g.addTo hp)
theorem Good.row {a : Str × Int} (hp : 0 < p) (g : Good p s) (t : Bg) : Good p (prodRow p s a t) := by
  unfold prodRow
  induction t generalizing s with
  | nil => exact g
  | cons q r ih => exact ih (g.addTo hp)
theorem Good.prod (hp : 0 < p) (s t : Bg) : Good p (prodS p s t) := by
  unfold prodS
  have key : ∀ (s acc : Bg), Good p acc → Good p (s.foldl (fun acc a => prodRow p acc a t) acc) := by
    intro s
    induction s with
    | nil => intro acc g; exact g
    | cons q r ih => intro acc g; exact ih _ (g.row hp t)
  exact key s [] Good.nil

theorem cf_nonneg (g : Good p s) (w : Str) : 0 ≤ cf s w := by
  unfold cf
  cases e : getS s w with
  | none => exact Int.le_refl 0
  | some n => exact Int.le_of_lt (g.lo _ (getS_mem e))
theorem cf_lt (hp : 0 < p) (g : Good p s) (w : Str) : cf s w < p := by
  unfold cf
  cases e : getS s w with
  | none => exact hp
  | some n => exact g.hi _ (getS_mem e)
theorem cf_mod (hp : 0 < p) (g : Good p s) (w : Str) : cf s w % p = cf s w := Int.emod_eq_of_lt (cf_nonneg g w) (cf_lt hp g w)
theorem cf_ne (g : Good p s) {w : Str} : w ∈ keys s ↔ cf s w ≠ 0 := by
  constructor
  · intro h
    obtain ⟨n, hn⟩ := mem_keys.mp h
    have e := getS_of_mem g.nd hn
    have := g.lo _ hn
    unfold cf
    rw [e]
    show n ≠ 0
    have h0 : 0 < n := this
    omega
  · intro h
    apply Classical.byContradiction
    intro hn
    apply h
    unfold cf
    rw [getS_none.mpr hn]
    rfl
end

/-! ### sums over lists -/
def sumL {α : Type} (l : List α) (f : α → Int) : Int := (l.map f).sum
section
variable {α β : Type}
theorem sumL_nil (f : α → Int) : sumL [] f = 0 := rfl
theorem sumL_cons (a : α) (l : List α) (f : α → Int) : sumL (a :: l) f = f a + sumL l f := by unfold sumL; rw [List.map_cons, List.sum_cons]
theorem sumL_append (l m : List α) (f : α → Int) : sumL (l ++ m) f = sumL l f + sumL m f := by unfold sumL; rw [List.map_append, List.sum_append]
theorem sumL_map (l : List β) (g : β → α) (f : α → Int) : sumL (l.map g) f = sumL l fun b => f (g b) := by unfold sumL; rw [List.map_map]; rfl
theorem sumL_congr {l : List α} {f g : α → Int} (h : ∀ a ∈ l, f a = g a) : sumL l f = sumL l g := by unfold sumL; rw [List.map_congr_left h]
theorem sumL_zero {l : List α} {f : α → Int} (h : ∀ a ∈ l, f a = 0) : sumL l f = 0 := by
  induction l with
  | nil => rfl
  | cons a l ih => rw [sumL_cons, h a List.mem_cons_self, ih fun b hb => h b (List.mem_cons_of_mem _ hb)]; rfl
theorem sumL_add (l : List α) (f g : α → Int) : sumL l (fun a => f a + g a) = sumL l f + sumL l g := by
  induction l with
  | nil => rfl
  | cons a l ih => rw [sumL_cons, sumL_cons, sumL_cons, ih]; omega
theorem sumL_mul (l : List α) (c : Int) (f : α → Int) : sumL l (fun a => c * f a) = c * sumL l f := by
  induction l with
  | nil => rw [sumL_nil, sumL_nil, Int.mul_zero]
  | cons a l ih => rw [sumL_cons, sumL_cons, ih, Int.mul_add]
theorem sumL_mulr (l : List α) (c : Int) (f : α → Int) : sumL l (fun a => f a * c) = sumL l f * c := by
  induction l with
  | nil => rw [sumL_nil, sumL_nil, Int.zero_mul]
  | cons a l ih => rw [sumL_cons, sumL_cons, ih, Int.add_mul]
theorem sumL_swap (l : List α) (m : List β) (f : α → β → Int) : sumL l (fun a => sumL m fun b => f a b) = sumL m fun b => sumL l fun a => f a b := by
  induction l with
  | nil => rw [sumL_nil]; exact (sumL_zero fun b _ => rfl).symm
  | cons a l ih =>
    rw [sumL_cons, ih, ← sumL_add]
    exact sumL_congr fun b _ => (sumL_cons a l fun a => f a b).symm
theorem sumL_perm {l m : List α} (h : l.Perm m) (f : α → Int) : sumL l f = sumL m f := by
  induction h with
  | nil => rfl
  | cons a _ ih => rw [sumL_cons, sumL_cons, ih]
  | swap a b l => rw [sumL_cons, sumL_cons, sumL_cons, sumL_cons]; omega
  | trans _ _ i1 i2 => exact i1.trans i2
end
theorem emod_emod_add (a b p : Int) : (a % p + b) % p = (a + b) % p := by rw [Int.emod_add_emod]

/-! ### what an operation makes of the numbers -/
section
variable {p : Int} {s t u : Bg}
/-- the number at w of t, by all its entries -/
theorem sum_ind (hn : (keys t).Nodup) (w : Str) : sumL t (fun kv => if kv.1 = w then kv.2 else 0) = cf t w := by
  induction t with
  | nil => rfl
  | cons q r ih =>
    have hn' := List.nodup_cons.mp (show (q.1 :: keys r).Nodup from hn)
    rw [sumL_cons, ih hn'.2]
    by_cases e : q.1 = w
    · rw [if_pos e, cf_pos e]
      have : cf r w = 0 := by
        unfold cf
        rw [getS_none.mpr (e ▸ hn'.1)]
        rfl
      omega
    · rw [if_neg e, cf_neg e]; omega
theorem cf_fold (hp : 0 < p) {α : Type} (k : α → Str) (v : α → Int) (w : Str) : ∀ (l : List α) (s : Bg), Good p s →
    cf (l.foldl (fun acc a => addTo p acc (k a) (v a)) s) w = (cf s w + sumL l fun a => if k a = w then v a else 0) % p
  | [], s, g => by
    show cf s w = _
    rw [sumL_nil, Int.add_zero, cf_mod hp g]
  | a :: l, s, g => by
    rw [List.foldl_cons, cf_fold hp k v w l _ (g.addTo hp), cf_addTo, sumL_cons]
    by_cases e : k a = w
    · subst e
      rw [if_pos rfl, if_pos rfl, emod_emod_add, Int.add_assoc]
    · rw [if_neg (fun z => e z.symm), if_neg e, Int.zero_add]
theorem cf_plus (hp : 0 < p) (g : Good p s) (hn : (keys t).Nodup) (f : Int) (w : Str) : cf (plusS p s t f) w = (cf s w + f * cf t w) % p := by
  unfold plusS
  rw [cf_fold hp (fun kv : Str × Int => kv.1) (fun kv => f * kv.2) w t s g, ← sum_ind hn w, ← sumL_mul]
  congr 2
  refine sumL_congr fun kv _ => ?_
  split
  · rfl
  · rw [Int.mul_zero]
/-- all products that come to w -/
def cvS (s t : Bg) (w : Str) : Int := sumL s fun a => sumL t fun b => if a.1 ++ b.1 = w then a.2 * b.2 else 0
theorem cf_row (hp : 0 < p) (g : Good p s) (a : Str × Int) (w : Str) : cf (prodRow p s a t) w = (cf s w + sumL t fun b => if a.1 ++ b.1 = w then a.2 * b.2 else 0) % p := by
  unfold prodRow
  exact cf_fold hp (fun b : Str × Int => a.1 ++ b.1) (fun b => a.2 * b.2) w t s g
theorem cf_prod (hp : 0 < p) (s t : Bg) (w : Str) : cf (prodS p s t) w = cvS s t w % p := by
  unfold prodS cvS
  have key : ∀ (s acc : Bg), Good p acc → cf (s.foldl (fun acc a => prodRow p acc a t) acc) w = (cf acc w + sumL s fun a => sumL t fun b => if a.1 ++ b.1 = w then a.2 * b.2 else 0) % p := by
    intro s
    induction s with
    | nil => intro acc g; show cf acc w = _; rw [sumL_nil, Int.add_zero, cf_mod hp g]
    | cons q r ih =>
      intro acc g
      rw [List.foldl_cons, ih _ (g.row hp t), cf_row hp g, sumL_cons, emod_emod_add, Int.add_assoc]
  rw [key s [] Good.nil, cf_nil, Int.zero_add]

/-! ### sizes -/
theorem len_fold {α : Type} (k : α → Str) (v : α → Int) : ∀ (l : List α) (s : Bg), (l.foldl (fun acc a => addTo p acc (k a) (v a)) s).length ≤ s.length + l.length
  | [], s => Nat.le_refl _
  | a :: l, s => by
    rw [List.foldl_cons, List.length_cons]
    have h1 := len_fold k v l (addTo p s (k a) (v a))
    have h2 := len_addTo p s (k a) (v a)
    omega
theorem len_plus (f : Int) : (plusS p s t f).length ≤ s.length + t.length := len_fold (fun kv : Str × Int => kv.1) (fun kv => f * kv.2) t s
theorem len_row (a : Str × Int) : (prodRow p s a t).length ≤ s.length + t.length := len_fold (fun b : Str × Int => a.1 ++ b.1) (fun b => a.2 * b.2) t s
theorem len_prod : (prodS p s t).length ≤ s.length * t.length := by
  unfold prodS
  have key : ∀ (s acc : Bg), (s.foldl (fun acc a => prodRow p acc a t) acc).length ≤ acc.length + s.length * t.length := by
    intro s
    induction s with
    | nil => intro acc; show acc.length ≤ _; simp
    | cons q r ih =>
      intro acc
      rw [List.foldl_cons, List.length_cons, Nat.add_mul, Nat.one_mul]
      have h1 := ih (prodRow p acc q t)
      have h2 := len_row (p := p) (s := acc) (t := t) q
      omega
  have := key s []
  simpa using this
theorem keys_fold {α : Type} (k : α → Str) (v : α → Int) {w : Str} : ∀ (l : List α) (s : Bg), w ∈ keys (l.foldl (fun acc a => addTo p acc (k a) (v a)) s) → w ∈ keys s ∨ ∃ a ∈ l, w = k a
  | [], s, h => .inl h
  | a :: l, s, h => by
    rw [List.foldl_cons] at h
    rcases keys_fold k v l _ h with h | ⟨b, hb, e⟩
    · rcases mem_keys_addTo h with h | h
      · exact .inl h
      · exact .inr ⟨a, List.mem_cons_self, h⟩
    · exact .inr ⟨b, List.mem_cons_of_mem _ hb, e⟩
theorem keys_plus {f : Int} {w : Str} (h : w ∈ keys (plusS p s t f)) : w ∈ keys s ∨ w ∈ keys t := by
  rcases keys_fold (fun kv : Str × Int => kv.1) (fun kv => f * kv.2) t s h with h | ⟨a, ha, e⟩
  · exact .inl h
  · exact .inr (e ▸ List.mem_map.mpr ⟨a, ha, rfl⟩)
theorem keys_prod {w : Str} (h : w ∈ keys (prodS p s t)) : ∃ a ∈ keys s, ∃ b ∈ keys t, w = a ++ b := by
  unfold prodS at h
  have key : ∀ (s acc : Bg), w ∈ keys (s.foldl (fun acc a => prodRow p acc a t) acc) → w ∈ keys acc ∨ ∃ a ∈ keys s, ∃ b ∈ keys t, w = a ++ b := by
    intro s
    induction s with
    | nil => intro acc h; exact .inl h
    | cons q r ih =>
      intro acc h
      rw [List.foldl_cons] at h
      rcases ih _ h with h | ⟨a, ha, b, hb, e⟩
      · rcases keys_fold (fun b : Str × Int => q.1 ++ b.1) (fun b => q.2 * b.2) t acc h with h | ⟨b, hb, e⟩
        · exact .inl h
        · exact .inr ⟨q.1, List.mem_cons_self, b.1, List.mem_map.mpr ⟨b, hb, rfl⟩, e⟩
      · exact .inr ⟨a, List.mem_cons_of_mem _ ha, b, hb, e⟩
  rcases key s [] h with h | h
  · exact nomatch h
  · exact h
end
end Fp

/-! The order of words, the tuple of the words of a bag, and products as sums over partings. -/
namespace Fp
open PySem PySem.W

/-- what ahead_key tells -/
def keyD (w : Str) : PyData := .tuple [.int (-(w.length : Int)), .str w]
def leW : Str → Str → Bool := dataLe false keyD
theorem leW_eq (a b : Str) : leW a b = decide (b.length < a.length ∨ (a.length = b.length ∧ a.cps.toList ≤ b.cps.toList)) := by
  show (!dataLt (keyD b) (keyD a)) = _
  unfold keyD
  rw [dataLt_pair (by simp [alike]) (by simp [alike]), dataLt_int, dataLt_str]
  simp only [PyData.eqv, beq_iff_eq]
  by_cases h1 : (-(b.length : Int)) = -(a.length : Int)
  · rw [if_pos h1]
    have e : a.length = b.length := by omega
    by_cases h2 : b = a
    · subst h2
      simp
    · rw [if_neg h2, not_lt_str]
      have : ¬ b.length < a.length := by omega
      simp [e]
  · rw [if_neg h1]
    by_cases h3 : b.length < a.length
    · have : ¬ (-(b.length : Int)) < -(a.length : Int) := by omega
      simp [h3]
      omega
    · have : (-(b.length : Int)) < -(a.length : Int) := by omega
      simp [this, h3]
      omega
theorem leW_total : TotalLe leW := by
  unfold leW dataLe
  exact sortLe_total _ _ _
theorem str_ext {a b : Str} (h : a.cps.toList = b.cps.toList) : a = b := by
  have hc : a.cps = b.cps := Array.toList_inj.mp h
  cases a
  cases b
  cases hc
  rfl
theorem leW_anti {a b : Str} (h1 : leW a b = true) (h2 : leW b a = true) : a = b := by
  rw [leW_eq] at h1 h2
  have k1 := of_decide_eq_true h1
  have k2 := of_decide_eq_true h2
  have l1 : a.cps.toList ≤ b.cps.toList := by
    rcases k1 with k1 | k1
    · rcases k2 with k2 | k2 <;> omega
    · exact k1.2
  have l2 : b.cps.toList ≤ a.cps.toList := by
    rcases k2 with k2 | k2
    · rcases k1 with k1 | k1 <;> omega
    · exact k2.2
  exact str_ext (List.le_antisymm l1 l2)
/-- the words, each ahead of the next one -/
def ordW (ws : List Str) : List Str := ws.mergeSort leW
theorem ordW_perm (ws : List Str) : (ordW ws).Perm ws := List.mergeSort_perm _ _
theorem ordW_sorted (ws : List Str) : (ordW ws).Pairwise (fun a b => leW a b = true) := sort_pairwise leW_total ws
theorem ordW_congr {ws us : List Str} (h : ws.Perm us) : ordW ws = ordW us := by
  have hp : (ordW ws).Perm (ordW us) := ((ordW_perm ws).trans h).trans (ordW_perm us).symm
  exact List.Perm.eq_of_pairwise (le := fun a b => leW a b = true) (fun a b _ _ h1 h2 => leW_anti h1 h2) (ordW_sorted ws) (ordW_sorted us) hp
theorem ordW_len (ws : List Str) : (ordW ws).length = ws.length := (ordW_perm ws).length_eq
/-- the words of a bag with their numbers, in order -/
def wordsS (s : Bg) : Bg := (ordW (keys s)).map fun w => (w, cf s w)
theorem wordsS_len (s : Bg) : (wordsS s).length = s.length := by
  unfold wordsS
  rw [List.length_map, ordW_len]
  unfold keys
  rw [List.length_map]
/-- two bags with the same numbers have the same words -/
theorem keys_perm {p : Int} {s t : Bg} (gs : Good p s) (gt : Good p t) (h : ∀ w, cf s w = cf t w) : (keys s).Perm (keys t) := by
  refine (List.perm_ext_iff_of_nodup gs.nd gt.nd).mpr fun w => ?_
  rw [cf_ne gs, cf_ne gt, h w]
theorem wordsS_congr {p : Int} {s t : Bg} (gs : Good p s) (gt : Good p t) (h : ∀ w, cf s w = cf t w) : wordsS s = wordsS t := by
  unfold wordsS
  rw [ordW_congr (keys_perm gs gt h)]
  exact List.map_congr_left fun w _ => by rw [h w]
theorem wordsS_keys (s : Bg) : keys (wordsS s) = ordW (keys s) := by
  unfold wordsS keys
  rw [List.map_map]
  exact List.map_id' _
theorem wordsS_nodup {s : Bg} (h : (keys s).Nodup) : (keys (wordsS s)).Nodup := by
  rw [wordsS_keys]
  exact (ordW_perm _).nodup_iff.mpr h
theorem mem_wordsS {s : Bg} {w : Str} {n : Int} : (w, n) ∈ wordsS s ↔ w ∈ keys s ∧ n = cf s w := by
  unfold wordsS
  rw [List.mem_map]
  constructor
  · rintro ⟨u, hu, e⟩
    cases e
    exact ⟨(ordW_perm _).mem_iff.mp hu, rfl⟩
  · rintro ⟨h, rfl⟩
    exact ⟨w, (ordW_perm _).mem_iff.mpr h, rfl⟩
theorem cf_of_mem {s : Bg} {w : Str} {n : Int} (h : (keys s).Nodup) (m : (w, n) ∈ s) : cf s w = n := by
  unfold cf
  rw [getS_of_mem h m]
  rfl
theorem cf_not_mem {s : Bg} {w : Str} (h : w ∉ keys s) : cf s w = 0 := by
  unfold cf
  rw [getS_none.mpr h]
  rfl
theorem cf_wordsS {s : Bg} (h : (keys s).Nodup) (w : Str) : cf (wordsS s) w = cf s w := by
  by_cases hw : w ∈ keys s
  · exact cf_of_mem (wordsS_nodup h) (mem_wordsS.mpr ⟨hw, rfl⟩)
  · rw [cf_not_mem hw, cf_not_mem]
    rw [wordsS_keys]
    exact fun z => hw ((ordW_perm _).mem_iff.mp z)
theorem cf_congr_words {s t : Bg} (hs : (keys s).Nodup) (ht : (keys t).Nodup) (h : wordsS s = wordsS t) (w : Str) : cf s w = cf t w := by
  rw [← cf_wordsS hs, ← cf_wordsS ht, h]

/-! ### partings -/
/-- all ways to part a word in two -/
def parts : List Nat → List (List Nat × List Nat)
  | [] => [([], [])]
  | c :: v => ([], c :: v) :: (parts v).map fun q => (c :: q.1, q.2)
/-- F G at v -/
def conv (F G : List Nat → Int) (v : List Nat) : Int := sumL (parts v) fun q => F q.1 * G q.2
theorem conv_cons (F G : List Nat → Int) (c : Nat) (v : List Nat) : conv F G (c :: v) = F [] * G (c :: v) + conv (fun x => F (c :: x)) G v := by
  unfold conv
  rw [parts, sumL_cons, sumL_map]
theorem conv_nil (F G : List Nat → Int) : conv F G [] = F [] * G [] := by
  unfold conv
  rw [parts, sumL_cons, sumL_nil, Int.add_zero]
theorem conv_addl (F F' G : List Nat → Int) (v : List Nat) : conv (fun x => F x + F' x) G v = conv F G v + conv F' G v := by
  unfold conv
  rw [← sumL_add]
  exact sumL_congr fun q _ => Int.add_mul _ _ _
theorem conv_addr (F G G' : List Nat → Int) (v : List Nat) : conv F (fun x => G x + G' x) v = conv F G v + conv F G' v := by
  unfold conv
  rw [← sumL_add]
  exact sumL_congr fun q _ => Int.mul_add _ _ _
theorem conv_mull (c : Int) (F G : List Nat → Int) (v : List Nat) : conv (fun x => c * F x) G v = c * conv F G v := by
  unfold conv
  rw [← sumL_mul]
  exact sumL_congr fun q _ => Int.mul_assoc _ _ _
theorem conv_mulr (c : Int) (F G : List Nat → Int) (v : List Nat) : conv F (fun x => c * G x) v = c * conv F G v := by
  unfold conv
  rw [← sumL_mul]
  exact sumL_congr fun q _ => by rw [← Int.mul_assoc, Int.mul_comm (F q.1) c, Int.mul_assoc]
theorem conv_assoc (F G K : List Nat → Int) : ∀ v, conv (conv F G) K v = conv F (conv G K) v := by
  intro v
  induction v generalizing F with
  | nil => rw [conv_nil, conv_nil, conv_nil, conv_nil, Int.mul_assoc]
  | cons c v ih =>
    rw [conv_cons, conv_cons (F := F)]
    have e : (fun x => conv F G (c :: x)) = fun x => F [] * G (c :: x) + conv (fun y => F (c :: y)) G x := funext fun x => conv_cons F G c x
    rw [e, conv_addl, conv_mull, ih, conv_nil, conv_cons (F := G), Int.mul_add, Int.mul_assoc, Int.add_assoc]
theorem conv_congr {F F' G G' : List Nat → Int} (h1 : ∀ x, F x = F' x) (h2 : ∀ x, G x = G' x) (v : List Nat) : conv F G v = conv F' G' v := by
  rw [funext h1, funext h2]
theorem sumL_mod {α : Type} (p : Int) {l : List α} {f g : α → Int} (h : ∀ a ∈ l, f a % p = g a % p) : sumL l f % p = sumL l g % p := by
  induction l with
  | nil => rfl
  | cons a l ih =>
    rw [sumL_cons, sumL_cons, Int.add_emod, h a List.mem_cons_self, ih fun b hb => h b (List.mem_cons_of_mem _ hb), ← Int.add_emod]
theorem conv_mod {p : Int} {F F' G G' : List Nat → Int} (h1 : ∀ x, F x % p = F' x % p) (h2 : ∀ x, G x % p = G' x % p) (v : List Nat) : conv F G v % p = conv F' G' v % p := by
  refine sumL_mod p fun q _ => ?_
  rw [Int.mul_emod, h1, h2, ← Int.mul_emod]
def ofL (l : List Nat) : Str := ⟨l.toArray⟩
theorem ofL_toList (w : Str) : ofL w.cps.toList = w := by
  unfold ofL
  rw [Array.toArray_toList]
theorem toList_ofL (l : List Nat) : (ofL l).cps.toList = l := rfl
theorem ofL_inj {a b : List Nat} : ofL a = ofL b ↔ a = b := by
  constructor
  · intro h
    have := congrArg (fun w : Str => w.cps.toList) h
    exact this
  · rintro rfl
    rfl
theorem app_toList (a b : Str) : (a ++ b).cps.toList = a.cps.toList ++ b.cps.toList := by
  show (a.cps ++ b.cps).toList = _
  rw [Array.toList_append]
theorem ofL_app (a b : List Nat) : ofL (a ++ b) = ofL a ++ ofL b := str_ext (by rw [app_toList]; rfl)
theorem app_assoc (a b c : Str) : a ++ b ++ c = a ++ (b ++ c) := str_ext (by rw [app_toList, app_toList, app_toList, app_toList, List.append_assoc])
theorem app_empty (a : Str) : a ++ Str.empty = a := str_ext (by rw [app_toList]; exact List.append_nil _)
theorem empty_app (a : Str) : Str.empty ++ a = a := str_ext (by rw [app_toList]; rfl)
theorem len_app (a b : Str) : (a ++ b).length = a.length + b.length := by
  show (a.cps ++ b.cps).size = _
  rw [Array.size_append]
  rfl
/-- the number of a word told as a list -/
def cl (s : Bg) (l : List Nat) : Int := cf s (ofL l)
/-- one pair of words comes to v at just one parting -/
theorem parts_one (a b : List Nat) (x : Int) : ∀ v, sumL (parts v) (fun q => if a = q.1 ∧ b = q.2 then x else 0) = if a ++ b = v then x else 0 := by
  intro v
  induction v generalizing a with
  | nil =>
    rw [parts, sumL_cons, sumL_nil, Int.add_zero]
    cases a with
    | nil => simp
    | cons c r => simp
  | cons c v ih =>
    rw [parts, sumL_cons, sumL_map]
    cases a with
    | nil =>
      have z : sumL (parts v) (fun q => if ([] : List Nat) = c :: q.1 ∧ b = q.2 then x else 0) = 0 := sumL_zero fun q _ => by simp
      rw [z]
      simp
    | cons d r =>
      by_cases e : d = c
      · subst e
        have z : sumL (parts v) (fun q => if d :: r = d :: q.1 ∧ b = q.2 then x else 0) = sumL (parts v) fun q => if r = q.1 ∧ b = q.2 then x else 0 := sumL_congr fun q _ => by simp
        rw [z, ih]
        simp
      · have z : sumL (parts v) (fun q => if d :: r = c :: q.1 ∧ b = q.2 then x else 0) = 0 := sumL_zero fun q _ => by simp [e]
        rw [z]
        simp [e]
theorem cl_sum {s : Bg} (hn : (keys s).Nodup) (l : List Nat) : cl s l = sumL s fun kv => if kv.1.cps.toList = l then kv.2 else 0 := by
  unfold cl
  rw [← sum_ind hn]
  refine sumL_congr fun kv _ => ?_
  have : kv.1 = ofL l ↔ kv.1.cps.toList = l := by
    constructor
    · intro h; rw [h]; rfl
    · intro h; exact str_ext h
  simp only [this]
/-- products by partings -/
theorem cvS_conv {s t : Bg} (hs : (keys s).Nodup) (ht : (keys t).Nodup) (w : Str) : cvS s t w = conv (cl s) (cl t) w.cps.toList := by
  unfold conv cvS
  have e : ∀ q ∈ parts w.cps.toList, cl s q.1 * cl t q.2 = sumL s fun a => sumL t fun b => if a.1.cps.toList = q.1 ∧ b.1.cps.toList = q.2 then a.2 * b.2 else 0 := by
    intro q _
    rw [cl_sum hs, cl_sum ht, ← sumL_mulr]
    refine sumL_congr fun a _ => ?_
    rw [← sumL_mul]
    refine sumL_congr fun b _ => ?_
    by_cases h1 : a.1.cps.toList = q.1 <;> by_cases h2 : b.1.cps.toList = q.2 <;> simp [h1, h2]
  rw [sumL_congr e, sumL_swap (parts w.cps.toList) s]
  refine sumL_congr fun a _ => ?_
  rw [sumL_swap (parts w.cps.toList) t]
  refine sumL_congr fun b _ => ?_
  rw [parts_one]
  have : a.1 ++ b.1 = w ↔ a.1.cps.toList ++ b.1.cps.toList = w.cps.toList := by
    rw [← app_toList]
    constructor
    · intro h; rw [h]
    · intro h; exact str_ext h
  simp only [this]
theorem cl_prod {p : Int} (hp : 0 < p) {s t : Bg} (hs : (keys s).Nodup) (ht : (keys t).Nodup) (l : List Nat) : cl (prodS p s t) l = conv (cl s) (cl t) l % p := by
  unfold cl
  rw [cf_prod hp, cvS_conv hs ht]
  rfl
theorem cl_plus {p : Int} (hp : 0 < p) {s t : Bg} (hs : Good p s) (ht : (keys t).Nodup) (f : Int) (l : List Nat) : cl (plusS p s t f) l = (cl s l + f * cl t l) % p := cf_plus hp hs ht f _
theorem cl_mod {p : Int} (hp : 0 < p) {s : Bg} (hs : Good p s) (l : List Nat) : cl s l % p = cl s l := cf_mod hp hs _
theorem words_cl {p : Int} {s t : Bg} (gs : Good p s) (gt : Good p t) (h : ∀ l, cl s l = cl t l) : wordsS s = wordsS t :=
  wordsS_congr gs gt fun w => by
    have := h w.cps.toList
    unfold cl at this
    rw [ofL_toList] at this
    exact this
/-- put behind one another in either order of doing -/
theorem prod_assoc {p : Int} (hp : 0 < p) {s t u : Bg} (gs : Good p s) (gt : Good p t) (gu : Good p u) : wordsS (prodS p (prodS p s t) u) = wordsS (prodS p s (prodS p t u)) := by
  have g1 := Good.prod hp s t
  have g2 := Good.prod hp t u
  refine words_cl (Good.prod hp _ _) (Good.prod hp _ _) fun l => ?_
  rw [cl_prod hp g1.nd gu.nd, cl_prod hp gs.nd g2.nd]
  have e1 : conv (cl (prodS p s t)) (cl u) l % p = conv (conv (cl s) (cl t)) (cl u) l % p := conv_mod (fun x => by rw [cl_prod hp gs.nd gt.nd, Int.emod_emod]) (fun _ => rfl) l
  have e2 : conv (cl s) (cl (prodS p t u)) l % p = conv (cl s) (conv (cl t) (cl u)) l % p := conv_mod (fun _ => rfl) (fun x => by rw [cl_prod hp gt.nd gu.nd, Int.emod_emod]) l
  rw [e1, e2, conv_assoc]
end Fp

/-! Rules of our own over the hand layer: defs by name, steps of a reading. -/
namespace Fp
open PySem L2

/-! ### a def of the module, called by its name -/
structure DefOk (P : Program) (w : World) (K : PySem.W.Frag) (mg : Str → Option Value) (base : Heap) (CX : CXT) (k : Nat) (nm : Str) (ps : List Str) (sp : Sp) : Prop where
  ex : ∃ f fd, mg nm = some (.ref f) ∧ PySem.W.keepIn K (.ref f) = true ∧ Binds K fd ps [] ∧ FnOk P w K mg base CX k f fd ps sp
section
variable {X : Cx} {CX : CXT} {k : Nat} {ps : List Str} {sp : Sp} {E : XK} {x : Str} {p pos apos : Pos} {e o : Expr} {es : List Expr} {t : TA} {ta : TE}
theorem pe_callD (D : DefOk X.prog X.w X.K X.mg X.base CX k x ps sp) (hr : Room k X.A) (hg : Gl X x) (hx : Passes CX X E) (ha : PA X (e :: es) t)
    (hdb : (x == ("__debug__" : Str)) = false := by decide) (he : starEach (e :: es) X.env = (false, eval e X.env) :: starEach es X.env := by rfl) (hpl : (backTo pos (starEach es X.env)).any (·.1) = false := by rfl) :
    PE X (.Call (.Name x p) (e :: es) [] pos) (tCall sp [] E t) := by
  obtain ⟨f, fd, hm, hk, hb, F⟩ := D.ex
  exact pe_call F hr hg hm hk hb .nil hx ha hdb he hpl
theorem pe_callD0 (D : DefOk X.prog X.w X.K X.mg X.base CX k x ps sp) (hr : Room k X.A) (hg : Gl X x) (hx : Passes CX X E)
    (hdb : (x == ("__debug__" : Str)) = false := by decide) : PE X (.Call (.Name x p) [] [] pos) (tCall sp [] E tNil) := by
  obtain ⟨f, fd, hm, hk, hb, F⟩ := D.ex
  exact pe_call0 F hr hg hm hk hb .nil hx hdb
/-- C(..) -/
structure MkOk (P : Program) (w : World) (K : PySem.W.Frag) (mg : Str → Option Value) (base : Heap) (CX : CXT) (k : Nat) (nm : Str) (C : Addr) (ps : List Str) (sp : Sp) : Prop where
  ex : ∃ f fd, Mk K C f ∧ mg nm = some (.ref C) ∧ Binds K fd ps [] ∧ FnOk P w K mg base CX k f fd ps sp
theorem pe_mkD {C : Addr} (D : MkOk X.prog X.w X.K X.mg X.base CX k x C ps sp) (hr : Room (k + 1) X.A) (hg : Gl X x) (hx : Passes CX X E) (ha : PA X (e :: es) t)
    (hdb : (x == ("__debug__" : Str)) = false := by decide) (he : starEach (e :: es) X.env = (false, eval e X.env) :: starEach es X.env := by rfl) (hpl : (backTo pos (starEach es X.env)).any (·.1) = false := by rfl) :
    PE X (.Call (.Name x p) (e :: es) [] pos) (tMake C sp [] E t) := by
  obtain ⟨f, fd, M, hm, hb, F⟩ := D.ex
  exact pe_make M F hr hg hm hb .nil hx ha hdb he hpl
/-- o.m(..) -/
structure MtOk (P : Program) (w : World) (K : PySem.W.Frag) (mg : Str → Option Value) (base : Heap) (CX : CXT) (k : Nat) (C : Addr) (m : Str) (ps : List Str) (sp : Sp) : Prop where
  ex : ∃ f fd, Cls K C ∧ Meth K C m f ∧ Binds K fd ps [] ∧ FnOk P w K mg base CX k f fd ps sp
theorem pe_mtD {pl : Sem Bool} {C : Addr} {m : Str} (D : MtOk X.prog X.w X.K X.mg X.base CX k C m ps sp) (hr : Room k X.A) (hx : Passes CX X E) (he : PE X o ta) (ha : PA X (e :: es) t)
    (hst : starEach (e :: es) X.env = (false, eval e X.env) :: starEach es X.env := by rfl) (hpl : (backTo pos (starEach es X.env)).any (·.1) = false := by rfl)
    (ht : eval (.Call (.Attribute o m apos) (e :: es) [] pos) X.env = (do
      let ov ← eval o X.env
      standAt apos.atName
      let (f, first) ← holding [ov] (getMethod ov m pl)
      callWith pos f first (backTo pos (starEach (e :: es) X.env)) (backToKw pos (keywordEach [] X.env))) := by rfl) :
    PE X (.Call (.Attribute o m apos) (e :: es) [] pos) (tMeth C m sp [] E ta t) := by
  obtain ⟨f, fd, c, hm, hb, F⟩ := D.ex
  exact pe_meth he c hm F hr hb .nil hx ha hst hpl ht
/-- a callee that may raise, called where it does not -/
theorem passX0 {P : Program} {w : World} {X : Cx} : Passes (L2.CX P w) X E0 := fun _ _ _ _ _ _ _ h => by
  obtain ⟨_, _, _, _, _, _, _, _, _, _, _, _, q⟩ := h
  exact q.elim

/-! ### a loop over a dict that may be locked already -/
def tLockR (t : TS) : TS := fun D σ H => tLock t D σ H ∨ t D σ H
theorem ps_lockR {st : Stmt} {t : TS} (h : PS X st t) : PS X st (tLockR t) := ⟨fun pins s σ H D I q => q.elim ((ps_lock h).run pins s σ H D I) (h.run pins s σ H D I)⟩
def tLockRE (t : TE) : TE := fun σ H Q => tLockE t σ H Q ∨ t σ H Q
theorem pe_lockR {t : TE} (h : PE X e t) : PE X e (tLockRE t) := ⟨fun pins s σ H Q I q => q.elim ((pe_lock h).run pins s σ H Q I) (h.run pins s σ H Q I)⟩

/-! ### displays of dicts -/
end
/-- len of a list, a tuple, a text, a dict -/
def rLenA (K : PySem.W.Frag) : List V → Hp → VK → Prop := fun xs H Q => (∃ x n, xs = [x] ∧ LenV K x H n ∧ Q (.int n) H) ∨ (∃ a kvs, xs = [V.ref a] ∧ H a = some (.dK kvs) ∧ Q (.int kvs.length) H)
theorem call_lenA {X : Cx} : CallR X (.builtin "len") (rLenA X.K) := CallR.or call_len call_lenD

/-! ### what stands -/
def Ex (H H' : Hp) : Prop := ∀ a o, H a = some o → H' a = some o
theorem Ex.refl (H : Hp) : Ex H H := fun _ _ h => h
theorem Ex.trans {H H1 H2 : Hp} (a : Ex H H1) (b : Ex H1 H2) : Ex H H2 := fun x o h => b x o (a x o h)
theorem Ex.new {H : Hp} {p : Addr} {o : HO} (h : H p = none) : Ex H (upd H p o) := fun a u e => by
  rw [upd_ne (ne_of_none e h)]
  exact e
theorem Ex.free {H H' : Hp} (e : Ex H H') {p : Addr} (h : H' p = none) : H p = none := by
  cases q : H p with
  | none => rfl
  | some o => rw [e p o q] at h; cases h
/-- a new object may change -/
theorem Ex.mut {H H' : Hp} {p : Addr} {o : HO} (e : Ex H H') (h : H p = none) : Ex H (upd H' p o) := fun a u q => by
  rw [upd_ne (ne_of_none q h)]
  exact e a u q
theorem Ex.rd {H H' : Hp} {a : Addr} {u : HO} (e : Ex H H') (h : Rd H a u) : Rd H' a u := by
  rcases h with h | ⟨o, h⟩
  · exact .inl (e a _ h)
  · exact .inr ⟨o, e a _ h⟩
theorem Ex.sql {K : PySem.W.Frag} {H H' : Hp} {a : Addr} {xs : List V} (e : Ex H H') (h : SqL K H a xs) : SqL K H' a xs := h.elim (fun h => .inl (e.rd h)) .inr
theorem Ex.sqt {K : PySem.W.Frag} {H H' : Hp} {a : Addr} {xs : List V} (e : Ex H H') (h : SqT K H a xs) : SqT K H' a xs := h.elim (fun h => .inl (e.rd h)) .inr

/-! ### steps of a reading -/
/-- what a list comprehension over J asks -/
def LcG (J : It) (g : TG) (tt : TT) (te : TE) (vs : List Nat) (σ : St) (H1 : Hp) (Q : VK) : Prop := ∀ D, H1 D = none → ∃ W : Nat → Nat → Hp → Prop, (∃ m, W 0 m (upd H1 D (.lst []))) ∧ ∀ i m H, W i m H →
      (J.stop i H ∧ Q (.ref D) H) ∨ (J.go i H ∧ ∃ Nx : Hp → Prop, (∀ H', Nx H' → ∃ m', m' < m ∧ W (i + 1) m' H') ∧ ∀ x H', J.yld i H x H' → g x (wipe σ vs) H' fun σ2 H2 => wipe σ2 vs = wipe σ vs ∧ tt σ2 H2 fun b H3 =>
        if b = true then te σ2 H3 fun y H4 => ∃ acc, H4 D = some (.lst acc) ∧ acc.length < sizeLine ∧ Nx (upd H4 D (.lst (acc ++ [y]))) else Nx H3)
/-- what a loop over J asks -/
def ForG (J : It) (g : TG) (t : TS) (D : Ends) (σ : St) (H1 : Hp) : Prop := ∃ W : Nat → Nat → St → Hp → Prop, (∃ m, W 0 m σ H1) ∧ ∀ i m σ H, W i m σ H →
  (J.stop i H ∧ D.nx σ H) ∨ (J.go i H ∧ ∃ N : St → Hp → Prop, (∀ σ' H', N σ' H' → ∃ m', m' < m ∧ W (i + 1) m' σ' H') ∧ ∀ x H', J.yld i H x H' → g x σ H' fun σ2 H2 => t { D with nx := N, ct := N, bk := D.nx } σ2 H2)
section
variable {σ : St} {H H1 : Hp} {Q : VK} {D : Ends} {i : Nat} {v x y : V} {ta tb te tc : TE} {K : PySem.W.Frag} {tt tu : TT} {t u : TS} {QB : Bool → Hp → Prop}
theorem g_seq (h : t { D with nx := u D } σ H) : tSeq t u D σ H := h
theorem g_next (h : D.nx σ H) : tNext D σ H := h
theorem g_asg {g : TG} (h : te σ H fun x H1 => g x σ H1 D.nx) : tAsg te g D σ H := h
theorem g_name {QS : St → Hp → Prop} (h : QS (σ.set i (some v)) H) : gName i v σ H QS := h
theorem g_ret (h : te σ H D.rt) : tRet te D σ H := h
theorem g_retN (h : D.rt .non H) : tRetN D σ H := h
theorem g_drop (h : te σ H fun _ H1 => D.nx σ H1) : tDrop te D σ H := h
theorem g_ifs {c : TT} (h : c σ H fun b H1 => if b = true then t D σ H1 else u D σ H1) : tIfS c t u D σ H := h
theorem g_var (e : σ[i]? = some (some v)) (h : Q v H) : tVar i σ H Q := ⟨v, e, h⟩
theorem g_c (h : Q v H) : tC v σ H Q := h
theorem g_op {r : R2} (h : ta σ H fun x H1 => tb σ H1 fun y H2 => r x y H2 Q) : tOp r ta tb σ H Q := h
theorem g_un {r : V → Hp → VK → Prop} (h : ta σ H fun x H1 => r x H1 Q) : tUn r ta σ H Q := h
theorem g_I0 {g : Int → Int → V} {a b : Int} (h : Q (g a b) H) : rI0 g (.int a) (.int b) H Q := ⟨a, b, rfl, rfl, h⟩
theorem g_I {C : Int → Int → Prop} {g : Int → Int → V} {a b : Int} (c : C a b) (h : Q (g a b) H) : rI C g (.int a) (.int b) H Q := ⟨a, b, rfl, rfl, c, h⟩
theorem g_U {g : Int → V} {a : Int} (h : Q (g a) H) : rU g (.int a) H Q := ⟨a, rfl, h⟩
theorem g_eq (s : scal x y = true) (h : Q (.bl (decide (x = y))) H) : rEq x y H Q := ⟨s, h⟩
theorem g_ne (s : scal x y = true) (h : Q (.bl (!decide (x = y))) H) : rNe x y H Q := ⟨s, h⟩
theorem g_test (h : te σ H fun x H' => ∃ k, x = .bl k ∧ QB k H') : tTest te σ H QB := h
theorem g_tB (h : te σ H fun x H' => ∃ k, x = .bl k ∧ QB k H') : tB te σ H QB := h
theorem g_bl {b : Bool} {R : Bool → Prop} (h : R b) : ∃ k, (V.bl b) = .bl k ∧ R k := ⟨b, rfl, h⟩
theorem g_and (h : tt σ H fun c H1 => if c = true then tu σ H1 QB else QB false H1) : tAnd tt tu σ H QB := h
theorem g_or (h : tt σ H fun c H1 => if c = true then QB true H1 else tu σ H1 QB) : tOr tt tu σ H QB := h
theorem g_not (h : tt σ H fun c H1 => QB (!c) H1) : tNot tt σ H QB := h
theorem g_andV (h : ta σ H fun x H1 => ∃ c, x = .bl c ∧ if c = true then tb σ H1 Q else Q (.bl false) H1) : tAndV ta tb σ H Q := h
theorem g_orV (h : ta σ H fun x H1 => ∃ c, x = .bl c ∧ if c = true then Q (.bl true) H1 else tb σ H1 Q) : tOrV ta tb σ H Q := h
theorem g_notV (h : ta σ H fun x H1 => ∃ c, x = .bl c ∧ Q (.bl (!c)) H1) : tNotV ta σ H Q := h
theorem g_if (h : tt σ H fun c H1 => if c = true then ta σ H1 Q else tb σ H1 Q) : tIf tt ta tb σ H Q := h
theorem g_nil {QA : List V → Hp → Prop} (h : QA [] H) : tNil σ H QA := h
theorem g_cons {tr : TA} {QA : List V → Hp → Prop} (h : ta σ H fun x H1 => tr σ H1 fun xs H2 => QA (x :: xs) H2) : tCons ta tr σ H QA := h
theorem g_cb {r : List V → Hp → VK → Prop} {tA : TA} (h : tA σ H fun vs H1 => r vs H1 Q) : tCB r tA σ H Q := h
theorem g_call {sp : Sp} {E : XK} {tA : TA} (h : tA σ H fun vs H1 => sp (vs ++ []) H1 Q E) : tCall sp [] E tA σ H Q := h
theorem g_ite {b : Bool} {A B : Prop} (h1 : b = true → A) (h2 : b = false → B) : if b = true then A else B := by
  cases b with
  | true => rw [if_pos rfl]; exact h1 rfl
  | false => rw [if_neg Bool.false_ne_true]; exact h2 rfl
theorem g_ift {b : Bool} {A B : Prop} (hb : b = true) (h : A) : if b = true then A else B := by rw [if_pos hb]; exact h
theorem g_iff {b : Bool} {A B : Prop} (hb : b = false) (h : B) : if b = true then A else B := by rw [hb, if_neg Bool.false_ne_true]; exact h
theorem g_itT {A B : Prop} (h : A) : if true = true then A else B := by rw [if_pos rfl]; exact h
theorem g_itF {A B : Prop} (h : B) : if false = true then A else B := by rw [if_neg Bool.false_ne_true]; exact h
theorem g_lc {wi : TI} {g : TG} {te : TE} {vs : List Nat} (h : wi σ H fun J H1 => LcG J g tt te vs σ H1 Q) : tLc wi g tt te vs σ H Q := h
theorem g_yes (h : QB true H) : tYes σ H QB := h
theorem g_iStr {R : It → Hp → Prop} (h : te σ H fun v H1 => ∃ x, v = .str x ∧ R (Its x) H1) : iStr te σ H R := h
theorem g_exs {z : Str} {R : Str → Prop} (h : R z) : ∃ x, (V.str z) = .str x ∧ R x := ⟨z, rfl, h⟩
theorem g_lst {tA : TA} (h : tA σ H fun xs H1 => xs.length ≤ sizeLine ∧ ∀ p, H1 p = none → Q (.ref p) (upd H1 p (.lst xs))) : tLst tA σ H Q := h
theorem g_tup {tA : TA} (h : tA σ H fun xs H1 => xs.length ≤ sizeLine ∧ ∀ p, H1 p = none → Q (.ref p) (upd H1 p (.tup xs))) : tTup tA σ H Q := h
end
end Fp

/-! sorted by the key (-len(word), word). -/
namespace Fp
open PySem L2 PySem.W
section
variable {X : L2.Cx} {wn nm qual : Str} {st : PySem.Stmt} {f : Addr} {fd : FuncData} {pins : List (Addr × Obj)} {σ : St} {H : Hp} {s : Shared} {p1 p2 p3 p4 p5 p6 p7 : Pos} 
theorem ahead_call {kk : _} (F : Fun X.K nm qual st f fd) (S : FnScope [wn] [wn] (defScope st))
    (hbody : defBody st = [.Return (some (.Tuple [.UnaryOp .USub (.Call (.Name "len" p1) [.Name wn p2] [] p3) p4, .Name wn p5] kk p6)) p7])
    (hwn : (defScope st).names.lookup wn = some .local) (hlen : (defScope st).names.lookup ("len" : Str) = some .globalImplicit) (hwd : (wn == ("__debug__" : Str)) = false) (bn : Binds X.K fd [wn] []) (bl : X.mg "len" = none) (I : Inv X pins σ H s) {A' : Around} (hr : Room 1 A')
    (x : Str) (t : Tok) (hx : x.length ≤ sizeLine) (h : Heap) (tk : Nat) (keep : ∀ b o, s.heap.get? b = some o → h.get? b = some o) :
    wpAny (model X.prog X.w) A' (call (.ref f) [.str x t]) (KeyPure (keyD x) { s with heap := h, toks := tk }) (fun _ _ => False) { s with heap := h, toks := tk } := by
  obtain ⟨oc, od, kV, doc, pm, an, cdv, ct, osl, rfl, lk, hcd⟩ := F.ex
  have KX : X.K.In h := I.kIn.keeps keep
  have lim : h.NoLimit := I.nolimit.keeps keep
  have hb := bn { s with heap := h, toks := tk } [.str x t] KX rfl
  refine wpAny_call (codeAny_call_function hr.depth (KX _ _ lk) rfl S.co S.gen rfl (PySem.W.codeRec_of KX hcd) (hb _ _ _ _ ?_))
  have hkind : ∀ y ∈ [wn].zip ([Value.str x t] ++ []), (defScope st).names.lookup y.1 = some .local ∨ ((defScope st).names.lookup y.1 = some .cell ∧ ((cellsFrom (h.objs.size + 1) (defScope st).names []).lookup y.1).isSome = true) := fun y hy => by
    have e : y = (wn, Value.str x t) := by simpa using hy
    rw [e]
    exact .inl hwn
  refine wpAny_newFunctionEnv_cells S.kind hkind fun env he s1 xx => ?_
  obtain ⟨h1, tk1, rfl, hk1⟩ := xx.done
  have hns := xx.toInCall.ns
  refine ⟨lim.keeps hk1, codeAny_func ?_⟩
  have henv : env.scope = defScope st ∧ env.globals = mainGlobals ∧ env.builtins = builtinsNs := by rw [he]; exact ⟨rfl, rfl, rfl⟩
  obtain ⟨e1, e2, e3⟩ := henv
  have kw : env.kindOf wn = some .local := by unfold Env.kindOf; rw [e1]; exact hwn
  have kl : env.kindOf "len" = some .globalImplicit := by unfold Env.kindOf; rw [e1]; exact hlen
  have mw : bindL env.kindOf ([wn].zip ([Value.str x t] ++ [])) (fun _ => none) wn = some (.str x t) := by
    show bindL env.kindOf [(wn, Value.str x t)] (fun _ => none) wn = _
    unfold bindL
    simp [bindL, kw]
  have keep1 : ∀ b o, s.heap.get? b = some o → h1.get? b = some o := fun b o q => hk1 b o (keep b o q)
  obtain ⟨mb, b1, b2⟩ := I.mod.blt
  rw [hbody]
  refine wpAny_execs_cons (wpAny_Return_some (wpAny_Tuple_spliced ?_))
  refine Calls.spliced_cons (PyProof.Rows.UnaryOp_ (wpAny_Call_Name_kw (Calls.Name_function_global (by rw [e1]; exact S.kind) kl (Calls.loadGlobal_builtin (by rw [e2]; exact I.mod.glob.keeps fun b o q => keep1 b o (I.bk b o q)) bl
    (by rw [e3]; exact b1.keeps fun b o q => keep1 b o (I.bk b o q)) ((b2 ("len" : Str) (by decide)).trans PySem.boot_len) ?_))))
  refine PyProof.Rows.callWith_builtin1 (Calls.spliced_cons (wpAny_Name (wpAny_loadName_local (by rw [e1]; exact S.kind) kw hns mw (Calls.spliced_nil ?_)) hwd))
  have hn := L2.line63
  refine PyProof.Rows.len_str (by omega) (PyProof.Rows.neg_int ?_)
  refine Calls.spliced_cons (wpAny_Name (wpAny_loadName_local (by rw [e1]; exact S.kind) kw hns mw (Calls.spliced_nil ⟨by show 2 ≤ sizeLine; decide, ?_⟩)) hwd)
  refine ⟨_, _, rfl, fun b o q => Heap.get?_push_of_some _ (hk1 b o q), ?_⟩
  exact .tuple (o := { cls := .type "tuple", data := .seq #[.int (-(x.length : Int)) _, .str x t] }) (Heap.get?_push_size _ rfl) rfl rfl (.cons (.int _ _) (.cons (.str _ _) .nil))
end
end Fp

namespace Fp
open PySem L2 PySem.W
section
variable {X : L2.Cx} {wn nm qual : Str} {st : PySem.Stmt} {f : Addr} {fd : FuncData} {p1 p2 p3 p4 p5 p6 p7 : Pos}
theorem keyD_alike (b b' : Str) : alike (keyD b) (keyD b') = true := by simp [keyD, alike, alikeAll]
theorem keyD_depth (b : Str) : (keyD b).depth ≤ 1 := by simp [keyD, PyData.depth, PyData.depthAll]
theorem each_strs {ws : List Str} {its : List Value} (r : Vals (ws.map V.str) its) : EachIs (fun v x => ∃ t, v = Value.str x t) its ws := by
  induction ws generalizing its with
  | nil => cases r; exact .nil
  | cons w ws ih =>
    cases r with
    | cons r1 r2 => exact .cons r1 (ih r2)
theorem vals_each {ws : List Str} {its : List Value} (r : EachIs (fun v x => ∃ t, v = Value.str x t) its ws) : Vals (ws.map V.str) its := by
  induction r with
  | nil => exact .nil
  | cons h _ ih => exact .cons h ih
/-- what sorted(xs, key=f) asks, f telling (-len(word), word) -/
def rSortedKey (K : PySem.W.Frag) (f : Addr) : List V → List V → Hp → VK → Prop := fun vs zs H Q => ∃ (a : Addr) (ws : List Str), vs = [V.ref a] ∧ zs = [V.ref f] ∧ SqL K H a (ws.map V.str) ∧ (∀ w ∈ ws, w.length ≤ sizeLine) ∧
  ∀ p, H p = none → Q (.ref p) (upd H p (.lst ((ordW ws).map V.str)))
theorem cr_sortedKey {kk : _} (F : Fun X.K nm qual st f fd) (S : FnScope [wn] [wn] (defScope st))
    (hbody : defBody st = [.Return (some (.Tuple [.UnaryOp .USub (.Call (.Name "len" p1) [.Name wn p2] [] p3) p4, .Name wn p5] kk p6)) p7])
    (hwn : (defScope st).names.lookup wn = some .local) (hlen : (defScope st).names.lookup ("len" : Str) = some .globalImplicit) (hwd : (wn == ("__debug__" : Str)) = false) (bn : L2.Binds X.K fd [wn] []) (bl : X.mg "len" = none) (hr : Room 3 X.A) :
    CallRK X (.builtin "sorted") [Str.ofString "key"] (rSortedKey X.K f) := by
  intro pins s σ H vs zs us ws Q I r rz h
  obtain ⟨a, xs, rfl, rfl, hs, hx, q⟩ := h
  obtain rfl := Vals.ref1 r
  obtain ⟨w1, rfl, e1⟩ := vals1 rz
  obtain rfl : w1 = Value.ref f := e1
  obtain ⟨its, rv, hl, hz⟩ := I.list hs
  rw [List.length_map] at hz
  refine PySem.W.sorted_key_data (R := fun v x => ∃ t, v = Value.str x t) (bs := xs) (b := false) keyD hl.isList (each_strs rv) (AllAlike.of keyD_alike) (Sortable.tuples fun b => ⟨_, _, rfl⟩) hz (fun x _ => ?_) (PyProof.Rows.ksk_s1 _ _) (fun x => PyProof.Rows.ksk_l1 _ _) (fun x => PyProof.Rows.ksk_t1 f x) (fun v x hv hm h tk kk => ?_) (fun out c h' tk keep _ hget hlen ho => ?_)
  · have := hr.un
    have := keyD_depth x
    omega
  · obtain ⟨t, rfl⟩ := hv
    exact ahead_call F S hbody hwn hlen hwd bn bl I hr.in1.in1 x t (hx x hm) h tk kk
  · have hl2 : ((ordW xs).map V.str).length ≤ sizeLine := by rw [List.length_map, ordW_len]; exact hz
    exact ⟨.ref _, upd H (s.heap.objs.size + 1) (.lst ((ordW xs).map V.str)), I.laid (t' := tk) keep (Nat.le_succ _) ⟨hl2, out, c, vals_each ho, hget⟩, rfl, q _ (I.hok.fresh (Nat.le_succ _))⟩
/-- sorted of a list of pairs (-len(word), word) -/
def rSortedW (K : PySem.W.Frag) : List V → Hp → VK → Prop := fun vs H Q => ∃ (a : Addr) (bs : List (Addr × Str)), vs = [V.ref a] ∧ SqL K H a (bs.map fun b => V.ref b.1) ∧ (∀ b ∈ bs, SqT K H b.1 [.int (-(b.2.length : Int)), .str b.2]) ∧
  ∀ (bs' : List (Addr × Str)) p, bs'.map (·.2) = ordW (bs.map (·.2)) → (∀ b ∈ bs', b ∈ bs) → H p = none → Q (.ref p) (upd H p (.lst (bs'.map fun b => V.ref b.1)))
theorem each_refs {bs : List (Addr × Str)} {its : List Value} (r : Vals (bs.map fun b => V.ref b.1) its) : EachIs (fun v b => v = Value.ref b.1) its bs := by
  induction bs generalizing its with
  | nil => cases r; exact .nil
  | cons w ws ih =>
    cases r with
    | cons r1 r2 => exact .cons r1 (ih r2)
theorem refs_each {bs : List (Addr × Str)} {its : List Value} (r : EachIs (fun v b => v = Value.ref b.1) its bs) : Vals (bs.map fun b => V.ref b.1) its := by
  induction r with
  | nil => exact .nil
  | cons h _ ih => exact .cons h ih
theorem eachIs_imp {α : Type} {R R' : Value → α → Prop} {vs : List Value} {bs : List α} (r : EachIs R vs bs) (h : ∀ v b, b ∈ bs → R v b → R' v b) : EachIs R' vs bs := by
  induction r with
  | nil => exact .nil
  | cons h1 _ ih => exact .cons (h _ _ List.mem_cons_self h1) (ih fun v b hb => h v b (List.mem_cons_of_mem _ hb))
theorem cr_sortedW (hu : X.A.units + 64 < cLine) : CallR X (.builtin "sorted") (rSortedW X.K) := by
  intro pins s σ H vs us Q I r h
  obtain ⟨a, bs, rfl, hs, hx, q⟩ := h
  obtain rfl := Vals.ref1 r
  obtain ⟨its, rv, hl, hz⟩ := I.list hs
  rw [List.length_map] at hz
  have ep := each_refs rv
  have er : EachIs (fun v (b : Addr × Str) => ∃ as, Reads s.heap v (keyD b.2) as) its bs := eachIs_imp ep fun v b hb hv => by
    subst hv
    obtain ⟨us2, r2, ⟨o, ho, hc, n, hd⟩, _⟩ := I.tuple (hx b hb)
    obtain ⟨u1, u2, rfl, ⟨t1, rfl⟩, ⟨t2, rfl⟩⟩ := vals2 r2
    exact ⟨_, .tuple ho hc hd (.cons (.int _ _) (.cons (.str _ _) .nil))⟩
  refine PySem.W.sorted_data (R := fun v b => v = Value.ref b.1) (bs := bs) (enc := fun b => keyD b.2) hl.isList ep er (AllAlike.of fun b b' => keyD_alike b.2 b'.2) (Sortable.tuples fun b => ⟨_, _, rfl⟩) hz (fun b _ => ?_) (fun out hlen ho => ?_)
  · have := keyD_depth b.2
    omega
  · have e1 : (bs.mergeSort (dataLe false fun b => keyD b.2)).map (·.2) = ordW (bs.map (·.2)) := sort_maps (s := leW) (fun b : Addr × Str => b.2) fun _ _ _ _ => rfl
    have hl2 : ((bs.mergeSort (dataLe false fun b => keyD b.2)).map fun b => V.ref b.1).length ≤ sizeLine := by rw [List.length_map, (List.mergeSort_perm _ _).length_eq]; exact hz
    obtain ⟨ep2, he'⟩ := PyProof.Rows.sortedAll_at s.heap its (List.toArray out)
    exact ⟨.ref _, upd H (s.heap.objs.size + 1) (.lst ((bs.mergeSort (dataLe false fun b => keyD b.2)).map fun b => V.ref b.1)), I.laid (t' := s.toks) (fun _ _ => PyProof.Rows.sortedAll_old) (Nat.le_succ _) ⟨hl2, out, ep2, refs_each ho, he'⟩, rfl, q _ _ e1 (fun b hb => (List.mergeSort_perm _ _).mem_iff.mp hb) (I.hok.fresh (Nat.le_succ _))⟩
end
end Fp

/-! == and != of instances with the text's own __eq__, whatever stands on the right. -/
namespace Fp
open PySem PySem.W
section
variable {prog : Program} {w : World} {A : Around} {E : Value → Shared → Prop} {s : Shared} {K : Frag} {x C f : Addr} {ox : Obj} {od : Option Obj} {name : Str} {b tb : Value}
theorem ifBoundB {M : Model} {args : List Value} {id : String} {Q : Option Value → Shared → Prop} (X : K.In s.heap) (I : InstAt s.heap x ox C od) (hs : findIn K (.ref C) name = some (some (.builtin id)))
    (hb : ∀ self, bindSpecial (.builtin id) self = pure (.builtin id, [self]))
    (h : wpAny M A (call (.builtin id) (.ref x :: args)) (fun v => Q (some v)) E s) : wpAny M A (callSpecialIfBound? (.ref x) name args) Q E s := by
  simp only [callSpecialIfBound?, bindSpecialIfBound?]
  refine wpAny_holding (wpAny_bind (wpAny_bind (wpAny_bind (I.type.here ((looks_findIn X hs).here ?_)))))
  simp only [hb]
  refine wpAny_bind (wpAny_askSetting (wpAny_ite ?_))
  have fin : wpAny M A (call (.builtin id) ([.ref x] ++ args) >>= fun v => pure (some v)) Q E s := wpAny_bind (wpAny_mono h (fun v s' h' => wpAny_pure h') fun _ _ h' => h')
  split
  · exact wpAny_bind (wpAny_pure (wpAny_pure fin))
  · exact wpAny_tryCatch (wpAny_bind (wpAny_pure (wpAny_pure fin)))
theorem ne_body (hu : A.units < cLine) (X : K.In s.heap) (I : InstAt s.heap x ox C od) (hs : findIn K (.ref C) "__eq__" = some (some (.ref f))) (hf : isFn K (.ref f) = true) {Q : PySem.Fin → Shared → Prop}
    (hcall : wpAny (model prog w) A (call (.ref f) [.ref x, b]) (fun v s' => ∃ c, v = .bool c ∧ Q (.done (.ret (.bool (!c)))) s') E s) :
    wpAny (model prog w) A (Builtin.«object.__ne__» ⟨[.ref x, b], []⟩) Q E s := by
  obtain ⟨h, g, d, t, os⟩ := s
  unfold Builtin.«object.__ne__»
  repeat (first
    | with_reducible refine wpAny_cRoomFor hu ?_
    | (refine wpAny_bind (m := callSpecialIfBound? (.ref x) (Str.ofString "__eq__") [b])
        (ifBound_K X I hs hf (wpAny_mono hcall (fun r s' hr => by
          obtain ⟨c, rfl, hq⟩ := hr
          repeat (first | exact hq | exact wpAny_pure hq | exact wpAny_truthy_bool hq | (refine wpAny_bind (m := truthy (.bool _)) (wpAny_truthy_bool ?_)) | wp_step)) fun _ _ e => e)))
    | wp_step)
theorem try_eq (X : K.In s.heap) (I : InstAt s.heap x ox C od) (hs : findIn K (.ref C) "__eq__" = some (some (.ref f))) (hf : isFn K (.ref f) = true) {Q : Value → Shared → Prop}
    (hcall : wpAny (model prog w) A (call (.ref f) [.ref x, b]) (fun v s' => ∃ c, v = .bool c ∧ Q (.bool c) s') E s) :
    wpAny (model prog w) A (tryCompare (.ref x) "__eq__" b) (fun r s' => ∃ v, r = some v ∧ Q v s') E s := by
  unfold tryCompare
  refine wpAny_bind (ifBound_K X I hs hf (wpAny_mono hcall (fun v s' hv => ?_) fun _ _ e => e))
  obtain ⟨c, rfl, hq⟩ := hv
  exact wpAny_pure ⟨_, rfl, hq⟩
theorem try_ne (hu : A.units + 1 < cLine) (X : K.In s.heap) (I : InstAt s.heap x ox C od) (hs : findIn K (.ref C) "__eq__" = some (some (.ref f))) (hf : isFn K (.ref f) = true)
    (hn : findIn K (.ref C) "__ne__" = some (some (.builtin "object.__ne__"))) (hm : mroIn K C (.type "object") = some true) {Q : Value → Shared → Prop}
    (hcall : wpAny (model prog w) A.in1 (call (.ref f) [.ref x, b]) (fun v s' => ∃ c, v = .bool c ∧ Q (.bool (!c)) s') E s) :
    wpAny (model prog w) A (tryCompare (.ref x) "__ne__" b) (fun r s' => ∃ v, r = some v ∧ Q v s') E s := by
  unfold tryCompare
  have hinst : Looks (model prog w) s.heap (isInstance (.ref x) (.type "object")) true := I.type.andThen (looks_mroIn X hm)
  refine wpAny_bind (ifBoundB X I hn F.cmp_object.ne.bind (wpAny_call (codeAny_call_builtin F.cmp_object.ne.plain F.cmpEntry_ne
    (check_slot F.cmpKind_ne F.cmpSplit_ne hinst (F.cmpArgs_ne _ _) (ne_body (A := A.in1) hu X I hs hf (wpAny_mono hcall (fun v s' hv => ?_) fun _ _ e => e))))))
  obtain ⟨c, rfl, hq⟩ := hv
  first | exact ⟨c, rfl, wpAny_pure ⟨_, rfl, hq⟩⟩ | exact ⟨c, rfl, _, rfl, wpAny_pure ⟨_, rfl, hq⟩⟩
theorem rich_x {op : CmpOp} {L : Addr} {Q : Value → Shared → Prop} (hu : A.units < cLine) (X : K.In s.heap) (I : InstAt s.heap x ox C od) (hb : Looks (model prog w) s.heap (typeOf b) tb) (hn : notFirst K C tb = true)
    (one : wpAny (model prog w) A (tryCompare (.ref x) (cmpInfo op).2.1 b) (fun r s' => ∃ v, r = some v ∧ Q v s') E s) : wpAny (model prog w) A (richCompare op (.ref x) b) Q E s := by
  unfold richCompare
  simp only [oneThing_ref]
  refine wpAny_holding (wpAny_bind (wpAny_cRoomFor hu ?_))
  refine wpAny_bind (I.type.here (wpAny_bind (hb.here ?_)))
  split
  · rename_i q
    have e : subIn K tb (.ref C) = some false := by
      rcases Bool.or_eq_true_iff.mp hn with e | e
      · rw [beq_iff_eq.mp e] at q; simp at q
      · exact beq_iff_eq.mp e
    refine wpAny_bind ((looks_subIn X e).here ?_)
    simp only [Bool.false_eq_true, if_false]
    refine wpAny_bind (wpAny_mono one (fun r s' z => ?_) fun _ _ e => e)
    obtain ⟨v, rfl, hq⟩ := z
    exact wpAny_pure hq
  · refine wpAny_bind (wpAny_pure ?_)
    simp only [Bool.false_eq_true, if_false]
    refine wpAny_bind (wpAny_mono one (fun r s' z => ?_) fun _ _ e => e)
    obtain ⟨v, rfl, hq⟩ := z
    exact wpAny_pure hq
theorem rich_refl {op : CmpOp} {Dd : Addr} {Q : Value → Shared → Prop} (hu : A.units < cLine) (X : K.In s.heap) (I : InstAt s.heap x ox C od) (hb : Looks (model prog w) s.heap (typeOf b) (.ref Dd)) (hne : Dd ≠ C) (hs : subIn K (.ref Dd) (.ref C) = some true)
    (one : wpAny (model prog w) A (tryCompare b (cmpInfo op).2.2 (.ref x)) (fun r s' => ∃ v, r = some v ∧ Q v s') E s) : wpAny (model prog w) A (richCompare op (.ref x) b) Q E s := by
  unfold richCompare
  simp only [oneThing_ref]
  refine wpAny_holding (wpAny_bind (wpAny_cRoomFor hu ?_))
  refine wpAny_bind (I.type.here (wpAny_bind (hb.here ?_)))
  have q : (Value.ref C != Value.ref Dd) = true := by simp; exact fun z => hne z.symm
  rw [if_pos q]
  refine wpAny_bind ((looks_subIn X hs).here ?_)
  simp only [if_true]
  refine wpAny_bind (wpAny_mono one (fun r s' z => ?_) fun _ _ e => e)
  obtain ⟨v, rfl, hq⟩ := z
  repeat (first | exact hq | exact wpAny_pure hq | wp_step)
end
section
open L2
variable {X : L2.Cx} {n : Nat} {f : Addr} {fd : FuncData} {ps : List Str} {sp : L2.Sp} {CX : L2.CXT}
/-- the own def, called by the interpreter -/
theorem run_fnA {A : Around} {pins : List (Addr × Obj)} {σ : L2.St} {H : Hp} {s : Shared} {Q : VK} {us : List Value} {vs : List V} {E : XK} (sb : L2.Sub X n A) (Fo : L2.FnOk X.prog X.w X.K X.mg X.base CX n f fd ps sp) (hb : L2.Binds X.K fd ps []) (hx : L2.Passes CX X E)
    (I : Inv X pins σ H s) (r : Vals vs us) (h : sp vs H Q E) : wpAny (model X.prog X.w) A (call (.ref f) us) (EP X pins σ Q) X.xe s := by
  have hl := Fo.len _ _ _ _ h
  have e0 : Env0 X.prog X.w X.K X.mg X.base A X.stack s H := by
    have e := I.env0
    exact ⟨by rw [sb.fr]; exact e.frames, e.mod, e.bs, e.bsz, e.funs, e.frf, e.hok, e.bare⟩
  have hlu : us.length = ps.length := by rw [← r.length]; exact hl
  refine wpAny_call (codeAny_mono (Fo.run A X.stack s H ⟨us, []⟩ us vs Q E sb.room e0 (by
    have := hb s us I.kIn (by simpa using hlu)
    simpa using this) r h) fun r s' hq => ?_)
  cases r with
  | error e => exact hx pins σ H s e s' I hq
  | ok fl =>
    cases fl with
    | ret u => exact I.after hq
    | next => exact False.elim hq
    | brk => exact False.elim hq
    | cont => exact False.elim hq
/-- what the classes with the own == have -/
structure EqCls (K : Frag) (f : Addr) (Cs : Addr → Prop) : Prop where
  eq : ∀ C, Cs C → findIn K (.ref C) "__eq__" = some (some (.ref f))
  ne : ∀ C, Cs C → findIn K (.ref C) "__ne__" = some (some (.builtin "object.__ne__"))
  ob : ∀ C, Cs C → mroIn K C (.type "object") = some true
  fn : isFn K (.ref f) = true
/-- x == y (neg: !=), x an instance -/
def rBagEq (K : Frag) (sp : L2.Sp) (Cs : Addr → Prop) (neg : Bool) : R2 := fun x y H Q =>
  (∃ a C dx fs t, x = .ref a ∧ H a = some (.ins C dx fs) ∧ Cs C ∧ TyX K H y t ∧ notFirst K C t = true ∧ sp [x, y] H (fun v H' => ∃ c, v = .bl c ∧ Q (.bl (if neg = true then !c else c)) H') E0) ∨
  (∃ a b C D dx fs dy gs, x = .ref a ∧ y = .ref b ∧ H a = some (.ins C dx fs) ∧ H b = some (.ins D dy gs) ∧ Cs C ∧ Cs D ∧ D ≠ C ∧ subIn K (.ref D) (.ref C) = some true ∧
    sp [y, x] H (fun v H' => ∃ c, v = .bl c ∧ Q (.bl (if neg = true then !c else c)) H') E0)
theorem op_eqBag {Cs : Addr → Prop} (Fo : L2.FnOk X.prog X.w X.K X.mg X.base CX n f fd ps sp) (ec : EqCls X.K f Cs) (hb : L2.Binds X.K fd ps []) (hx : L2.Passes CX X E0) (hr : Room (n + 1) X.A) : OpR X (compareOp .Eq) (rBagEq X.K sp Cs false) := by
  intro pins s σ H x y v u Q I rx ry h
  show wpAny (model X.prog X.w) X.A (richCompare .Eq v u) (EP X pins σ Q) X.xe s
  have back : ∀ (x y : V) (a : Addr) (v u : Value), RelV x v → RelV y u → sp [x, y] H (fun v H' => ∃ c, v = .bl c ∧ Q (.bl (if false = true then !c else c)) H') E0 →
      wpAny (model X.prog X.w) X.A (call (.ref f) [v, u]) (fun v s' => ∃ c, v = .bool c ∧ EP X pins σ Q (.bool c) s') X.xe s := fun x y a v u rx ry h =>
    wpAny_mono (run_fnA (A := X.A) ⟨hr.mono (Nat.le_succ _), rfl⟩ Fo hb hx I (.cons rx (.cons ry .nil)) h) (fun v s' ⟨z, H', I', rz, c, ez, q⟩ => by
      subst ez
      cases rz
      rw [if_neg Bool.false_ne_true] at q
      exact ⟨c, rfl, .bl _, H', I', rfl, q⟩) fun _ _ e => e
  rcases h with ⟨a, C, dx, fs, t, rfl, ha, hc, ty, hn, h⟩ | ⟨a, b, C, D, dx, fs, dy, gs, rfl, rfl, ha, hb', hc, hd, hne, hsub, h⟩
  · cases rx
    obtain ⟨mA, J, _⟩ := ins_get I.hok ha
    obtain ⟨od, J, _⟩ := J.look
    obtain ⟨P, Z, p, _⟩ := kit_of I ry ty
    exact rich_x (L := a) hr.units0 I.kIn J (Z.ty _ _ I.kIn p) hn (try_eq I.kIn J (ec.eq C hc) ec.fn (back (.ref a) y a _ _ rfl ry h))
  · cases rx
    cases ry
    obtain ⟨mA, J, _⟩ := ins_get I.hok ha
    obtain ⟨od, J, _⟩ := J.look
    obtain ⟨mB, J', _⟩ := ins_get I.hok hb'
    obtain ⟨od', J', _⟩ := J'.look
    exact rich_refl hr.units0 I.kIn J J'.type hne hsub (try_eq I.kIn J' (ec.eq D hd) ec.fn (back (.ref b) (.ref a) a _ _ rfl rfl h))
theorem op_neBag {Cs : Addr → Prop} (Fo : L2.FnOk X.prog X.w X.K X.mg X.base CX n f fd ps sp) (ec : EqCls X.K f Cs) (hb : L2.Binds X.K fd ps []) (hx : L2.Passes CX X E0) (hr : Room (n + 1) X.A) : OpR X (compareOp .NotEq) (rBagEq X.K sp Cs true) := by
  intro pins s σ H x y v u Q I rx ry h
  show wpAny (model X.prog X.w) X.A (richCompare .NotEq v u) (EP X pins σ Q) X.xe s
  have back : ∀ (x y : V) (a : Addr) (v u : Value), RelV x v → RelV y u → sp [x, y] H (fun v H' => ∃ c, v = .bl c ∧ Q (.bl (if true = true then !c else c)) H') E0 →
      wpAny (model X.prog X.w) X.A.in1 (call (.ref f) [v, u]) (fun v s' => ∃ c, v = .bool c ∧ EP X pins σ Q (.bool (!c)) s') X.xe s := fun x y a v u rx ry h =>
    wpAny_mono (run_fnA (A := X.A.in1) ⟨hr.in1, rfl⟩ Fo hb hx I (.cons rx (.cons ry .nil)) h) (fun v s' ⟨z, H', I', rz, c, ez, q⟩ => by
      subst ez
      cases rz
      rw [if_pos rfl] at q
      exact ⟨c, rfl, .bl _, H', I', rfl, q⟩) fun _ _ e => e
  have hu1 : X.A.units + 1 < cLine := hu_of hr
  rcases h with ⟨a, C, dx, fs, t, rfl, ha, hc, ty, hn, h⟩ | ⟨a, b, C, D, dx, fs, dy, gs, rfl, rfl, ha, hb', hc, hd, hne, hsub, h⟩
  · cases rx
    obtain ⟨mA, J, _⟩ := ins_get I.hok ha
    obtain ⟨od, J, _⟩ := J.look
    obtain ⟨P, Z, p, _⟩ := kit_of I ry ty
    exact rich_x (L := a) hr.units0 I.kIn J (Z.ty _ _ I.kIn p) hn (try_ne hu1 I.kIn J (ec.eq C hc) ec.fn (ec.ne C hc) (ec.ob C hc) (back (.ref a) y a _ _ rfl ry h))
  · cases rx
    cases ry
    obtain ⟨mA, J, _⟩ := ins_get I.hok ha
    obtain ⟨od, J, _⟩ := J.look
    obtain ⟨mB, J', _⟩ := ins_get I.hok hb'
    obtain ⟨od', J', _⟩ := J'.look
    exact rich_refl hr.units0 I.kIn J J'.type hne hsub (try_ne hu1 I.kIn J' (ec.eq D hd) ec.fn (ec.ne D hd) (ec.ob D hd) (back (.ref b) (.ref a) a _ _ rfl rfl h))
end
end Fp

/-! How bags stand in the heap. -/
namespace Fp
open PySem L2

/-! ### == of data, whatever its texts -/
def rEqP (K : PySem.W.Frag) (neg : Bool) : R2 := fun x y H Q => ∃ d e, Dp K H x d ∧ Dp K H y e ∧ d.plain = true ∧ e.plain = true ∧ d.depth ≤ 60 ∧ Q (.bl (if neg = true then !PyData.eqv d e else PyData.eqv d e)) H
theorem op_eqP {X : Cx} (hu : X.A.units + 64 < cLine) : OpR X (compareOp .Eq) (rEqP X.K false) := by
  intro pins s σ H x y v u Q I rx ry h
  obtain ⟨d, e, hd, he, sd, se, hz, q⟩ := h
  obtain ⟨as, r1⟩ := Dp.reads I d x v hd rx
  obtain ⟨bs, r2⟩ := Dp.reads I e y u he ry
  rw [if_neg Bool.false_ne_true] at q
  exact SeqAt.eq_plain r1 r2 sd se (by omega) ⟨.bl _, H, I, rfl, q⟩
theorem op_neP {X : Cx} (hu : X.A.units + 64 < cLine) : OpR X (compareOp .NotEq) (rEqP X.K true) := by
  intro pins s σ H x y v u Q I rx ry h
  obtain ⟨d, e, hd, he, sd, se, hz, q⟩ := h
  obtain ⟨as, r1⟩ := Dp.reads I d x v hd rx
  obtain ⟨bs, r2⟩ := Dp.reads I e y u he ry
  rw [if_pos rfl] at q
  exact SeqAt.ne_plain r1 r2 sd se (by omega) ⟨.bl _, H, I, rfl, q⟩

/-! ### dicts of words -/
def toK (s : Bg) : List (Key × V) := s.map fun kv => ((Sum.inr kv.1 : Key), V.int kv.2)
theorem toK_nil : toK [] = [] := rfl
theorem toK_cons (q : Str × Int) (s : Bg) : toK (q :: s) = ((Sum.inr q.1 : Key), V.int q.2) :: toK s := rfl
theorem toK_len (s : Bg) : (toK s).length = s.length := by unfold toK; rw [List.length_map]
theorem valV_toK (w : Str) : ∀ s : Bg, valV (toK s) (Sum.inr w : Key) = (getS s w).map V.int
  | [] => rfl
  | q :: r => by
    rw [toK_cons]
    by_cases e : q.1 = w
    · rw [getS_pos e, valV_pos (p := ((Sum.inr q.1 : Key), V.int q.2)) (by rw [e])]
      rfl
    · rw [getS_neg e, valV_neg (p := ((Sum.inr q.1 : Key), V.int q.2)) (fun z => e (Sum.inr.inj z))]
      exact valV_toK w r
theorem getD_toK (s : Bg) (w : Str) : (valV (toK s) (Sum.inr w : Key)).getD (.int 0) = .int (cf s w) := by
  rw [valV_toK]
  unfold cf
  cases getS s w <;> rfl
theorem putK_toK (s : Bg) (w : Str) (n : Int) : putK (toK s) (Sum.inr w : Key) (.int n) = toK (putS s w n) := by
  unfold putK putS
  have e1 : ((toK s).any fun kv => decide (kv.1 = (Sum.inr w : Key))) = s.any fun kv => decide (kv.1 = w) := by
    unfold toK
    rw [List.any_map]
    congr 1
    funext kv
    simp
  rw [e1]
  split
  · unfold toK
    rw [List.map_map, List.map_map]
    refine List.map_congr_left fun kv _ => ?_
    simp only [Function.comp]
    by_cases h : kv.1 = w
    · simp [h]
    · simp [h]
  · unfold toK
    rw [List.map_append]
    rfl
theorem dropK_toK (s : Bg) (w : Str) : dropK (toK s) (Sum.inr w : Key) = toK (dropS s w) := by
  unfold dropK dropS toK
  rw [List.filter_map]
  congr 1
  refine List.filter_congr fun kv _ => ?_
  simp
theorem toK_keys (s : Bg) : (toK s).map (fun kv => kV kv.1) = (keys s).map V.str := by
  unfold toK keys
  rw [List.map_map, List.map_map]
  rfl
theorem toK_get {s : Bg} {i : Nat} {kv : Key × V} (h : (toK s)[i]? = some kv) : ∃ w n, s[i]? = some (w, n) ∧ kv = (Sum.inr w, .int n) := by
  unfold toK at h
  rw [List.getElem?_map] at h
  cases e : s[i]? with
  | none => rw [e] at h; cases h
  | some q => rw [e] at h; exact ⟨q.1, q.2, rfl, (Option.some.inj h).symm⟩
theorem toK_inj {s t : Bg} (h : toK s = toK t) : s = t := by
  unfold toK at h
  exact List.map_inj_right (f := fun kv : Str × Int => ((Sum.inr kv.1 : Key), V.int kv.2)) (fun a b e => by
    obtain ⟨a1, a2⟩ := a
    obtain ⟨b1, b2⟩ := b
    simp at e
    rw [e.1, e.2]) |>.mp h

/-! ### the tuple of pairs -/
structure WordsAt (H : Hp) (t : Addr) (l : Bg) : Prop where
  ex : ∃ (qs : List Addr) (o : Obj), H t = some (.frz o (.tup (qs.map V.ref))) ∧ o.dict = none ∧ Paired (fun q kv => H q = some (.tup [.str kv.1, .int kv.2])) qs l
theorem WordsAt.ex' {H H' : Hp} {t : Addr} {l : Bg} (e : Ex H H') (h : WordsAt H t l) : WordsAt H' t l := by
  obtain ⟨qs, o, h1, hd, h2⟩ := h.ex
  exact ⟨qs, o, e _ _ h1, hd, Paired.mapP h2 fun _ _ z => e _ _ z⟩
def pairD (kv : Str × Int) : PyData := .tuple [.str kv.1, .int kv.2]
def wordsD (l : Bg) : PyData := .tuple (l.map pairD)
theorem dpAll_words {K : PySem.W.Frag} {H : Hp} {qs : List Addr} {l : Bg} (h : Paired (fun q kv => H q = some (.tup [.str kv.1, .int kv.2])) qs l) : DpAll K H (qs.map V.ref) (l.map pairD) := by
  induction h with
  | nil => exact .nil
  | cons h1 _ ih => exact .cons (.tup (SqT.of h1) (.cons (.str _) (.cons (.int _) .nil))) ih
theorem WordsAt.dp {K : PySem.W.Frag} {H : Hp} {t : Addr} {l : Bg} (h : WordsAt H t l) : Dp K H (.ref t) (wordsD l) := by
  obtain ⟨qs, o, h1, _, h2⟩ := h.ex
  exact .tup (.inl (.inr ⟨o, h1⟩)) (dpAll_words h2)
theorem plainAll_words (l : Bg) : PyData.plainAll (l.map pairD) = true := by
  induction l with
  | nil => rfl
  | cons q r ih => rw [List.map_cons, PyData.plainAll, ih]; simp [pairD, PyData.plain, PyData.plainAll]
theorem plain_words (l : Bg) : (wordsD l).plain = true := by
  show PyData.plainAll (l.map pairD) = true
  exact plainAll_words l
theorem depthAll_words (l : Bg) : PyData.depthAll (l.map pairD) ≤ 1 := by
  induction l with
  | nil => simp [PyData.depthAll]
  | cons q r ih =>
    rw [List.map_cons, PyData.depthAll]
    have : (pairD q).depth = 1 := by simp [pairD, PyData.depth, PyData.depthAll]
    omega
theorem depth_words (l : Bg) : (wordsD l).depth ≤ 60 := by
  have := depthAll_words l
  simp only [wordsD, PyData.depth]
  omega
theorem eqv_pair (a b : Str × Int) : PyData.eqv (pairD a) (pairD b) = decide (a = b) := by
  obtain ⟨a1, a2⟩ := a
  obtain ⟨b1, b2⟩ := b
  simp only [pairD, PyData.eqv, PyData.eqvAll, Bool.and_true]
  rw [Bool.eq_iff_iff]
  simp
theorem eqvAll_words : ∀ l m : Bg, PyData.eqvAll (l.map pairD) (m.map pairD) = decide (l = m)
  | [], [] => by simp [PyData.eqvAll]
  | [], b :: m => by simp [PyData.eqvAll]
  | a :: l, [] => by simp [PyData.eqvAll]
  | a :: l, b :: m => by
    rw [List.map_cons, List.map_cons, PyData.eqvAll, eqv_pair, eqvAll_words l m]
    rw [Bool.eq_iff_iff]
    simp
theorem eqv_words (l m : Bg) : PyData.eqv (wordsD l) (wordsD m) = decide (l = m) := by
  show PyData.eqvAll (l.map pairD) (m.map pairD) = _
  exact eqvAll_words l m

/-! ### bags -/
theorem k_sc : ¬ (("clock" : Str) = "sparse") := by decide +kernel
theorem k_kc : ¬ (("clock" : Str) = "kept") := by decide +kernel
theorem k_wc : ¬ (("clock" : Str) = "words") := by decide +kernel
theorem k_ks : ¬ (("sparse" : Str) = "kept") := by decide +kernel
theorem k_ws : ¬ (("sparse" : Str) = "words") := by decide +kernel
theorem k_wk : ¬ (("kept" : Str) = "words") := by decide +kernel
def bagF (p : Int) (d k t : Addr) : List (Str × V) := [("clock", .int p), ("sparse", .ref d), ("kept", .ref k), ("words", .ref t)]
theorem bagF_made (p : Int) (d k t : Addr) : putF "words" (.ref t) (putF "kept" (.ref k) (putF "sparse" (.ref d) (putF "clock" (.int p) []))) = bagF p d k t := by
  unfold bagF
  have e1 : putF ("clock" : Str) (V.int p) [] = [(("clock" : Str), V.int p)] := rfl
  have e2 : putF ("sparse" : Str) (V.ref d) [(("clock" : Str), V.int p)] = [(("clock" : Str), V.int p), ("sparse", .ref d)] := by
    show (if ("clock" : Str) = "sparse" then _ else (("clock" : Str), V.int p) :: putF "sparse" (V.ref d) []) = _
    rw [if_neg k_sc]; rfl
  have e3 : putF ("kept" : Str) (V.ref k) [(("clock" : Str), V.int p), ("sparse", .ref d)] = [(("clock" : Str), V.int p), ("sparse", .ref d), ("kept", .ref k)] := by
    show (if ("clock" : Str) = "kept" then _ else (("clock" : Str), V.int p) :: (if ("sparse" : Str) = "kept" then _ else (("sparse" : Str), V.ref d) :: putF "kept" (V.ref k) [])) = _
    rw [if_neg k_kc, if_neg k_ks]; rfl
  rw [e1, e2, e3]
  show (if ("clock" : Str) = "words" then _ else (("clock" : Str), V.int p) :: (if ("sparse" : Str) = "words" then _ else (("sparse" : Str), V.ref d) :: (if ("kept" : Str) = "words" then _ else (("kept" : Str), V.ref k) :: putF "words" (V.ref t) []))) = _
  rw [if_neg k_wc, if_neg k_ws, if_neg k_wk]; rfl
theorem lk_cons {f g : Str} {v : V} {r : List (Str × V)} (h : ¬ f = g) : ((g, v) :: r).lookup f = r.lookup f := by
  rw [List.lookup_cons]
  have : (f == g) = false := by simp [h]
  rw [this]
theorem lk_pos {f : Str} {v : V} {r : List (Str × V)} : ((f, v) :: r).lookup f = some v := by
  rw [List.lookup_cons]
  simp
theorem bagF_clock (p : Int) (d k t : Addr) : (bagF p d k t).lookup ("clock" : Str) = some (.int p) := lk_pos
theorem bagF_sparse (p : Int) (d k t : Addr) : (bagF p d k t).lookup ("sparse" : Str) = some (.ref d) := by
  unfold bagF
  rw [lk_cons (fun z => k_sc z.symm), lk_pos]
theorem bagF_kept (p : Int) (d k t : Addr) : (bagF p d k t).lookup ("kept" : Str) = some (.ref k) := by
  unfold bagF
  rw [lk_cons (fun z => k_kc z.symm), lk_cons (fun z => k_ks z.symm), lk_pos]
theorem bagF_words (p : Int) (d k t : Addr) : (bagF p d k t).lookup ("words" : Str) = some (.ref t) := by
  unfold bagF
  rw [lk_cons (fun z => k_wc z.symm), lk_cons (fun z => k_ws z.symm), lk_cons (fun z => k_wk z.symm), lk_pos]
/-- a bag by the clock p with the words s stands at a; Cs: the classes of bags -/
structure BagAt (Cs : Addr → Prop) (H : Hp) (a : Addr) (p : Int) (s : Bg) : Prop where
  ex : ∃ C dx d k t, Cs C ∧ H a = some (.ins C dx (bagF p d k t)) ∧ H d = some (.dK (toK s)) ∧ WordsAt H t (wordsS s)
theorem BagAt.ex' {Cs : Addr → Prop} {H H' : Hp} {a : Addr} {p : Int} {s : Bg} (e : Ex H H') (h : BagAt Cs H a p s) : BagAt Cs H' a p s := by
  obtain ⟨C, dx, d, k, t, h0, h1, h2, h3⟩ := h.ex
  exact ⟨C, dx, d, k, t, h0, e _ _ h1, e _ _ h2, h3.ex' e⟩
end Fp

/-! Loops and comprehensions in short. -/
namespace Fp
open PySem L2

/-! ### what stands but one object -/
def ExB (f : Addr) (H H' : Hp) : Prop := ∀ a o, a ≠ f → H a = some o → H' a = some o
theorem ExB.refl (f : Addr) (H : Hp) : ExB f H H := fun _ _ _ h => h
theorem ExB.trans {f : Addr} {H H1 H2 : Hp} (a : ExB f H H1) (b : ExB f H1 H2) : ExB f H H2 := fun x o n h => b x o n (a x o n h)
theorem Ex.exb {f : Addr} {H H' : Hp} (e : Ex H H') : ExB f H H' := fun a o _ h => e a o h
theorem ExB.ex {f : Addr} {H0 H H' : Hp} (e : Ex H0 H) (b : ExB f H H') (h : H0 f = none) : Ex H0 H' := fun a o q => b a o (ne_of_none q h) (e a o q)
theorem ExB.ex0 {f : Addr} {H H' : Hp} (b : ExB f H H') (h : H f = none) : Ex H H' := fun a o q => b a o (ne_of_none q h) q
theorem ExB.upd {f : Addr} {H H' : Hp} {o : HO} (b : ExB f H H') : ExB f H (upd H' f o) := fun a u n q => by rw [upd_ne n]; exact b a u n q
theorem ExB.new {f : Addr} {H H' : Hp} {p : Addr} {o : HO} (b : ExB f H H') (h : H' p = none) : ExB f H (L2.upd H' p o) := fun a u n q => by
  have := b a u n q
  rw [upd_ne (ne_of_none this h)]
  exact this
theorem ExB.rd {f : Addr} {H H' : Hp} {a : Addr} {u : HO} (e : ExB f H H') (n : a ≠ f) (h : Rd H a u) : Rd H' a u := by
  rcases h with h | ⟨o, h⟩
  · exact .inl (e a _ n h)
  · exact .inr ⟨o, e a _ n h⟩
theorem ExB.sql {K : PySem.W.Frag} {f : Addr} {H H' : Hp} {a : Addr} {xs : List V} (e : ExB f H H') (n : a ≠ f) (h : SqL K H a xs) : SqL K H' a xs := h.elim (fun h => .inl (e.rd n h)) .inr
theorem rd_ne {H : Hp} {a b : Addr} {u o : HO} (h : Rd H a u) (hb : H b = some o) (h1 : u ≠ o) (h2 : ∀ x, o ≠ .frz x u) : a ≠ b := by
  rintro rfl
  rcases h with h | ⟨x, h⟩
  · rw [h] at hb; exact h1 (Option.some.inj hb)
  · rw [h] at hb; exact h2 x (Option.some.inj hb).symm

/-! ### a comprehension that only makes objects -/
section
variable {J : It} {n : Nat} {G : Hp → Prop} {Y : Nat → Hp → V → Hp → Prop}
theorem lc_pure (w : Walk J n G Y) {j : Nat} {te : TE} {vs : List Nat} {σ : St} {H1 : Hp} {Q : VK} (ys : List V) (hl : ys.length = n) (hn : n ≤ sizeLine) (hG : ∀ H, Ex H1 H → G H)
    (hw : ∀ x, wipe ((wipe σ vs).set j x) vs = wipe σ vs)
    (hs : ∀ i x y H H' (K : VK), i < n → Ex H1 H → Y i H x H' → ys[i]? = some y → (∀ H4, Ex H H4 → K y H4) → te ((wipe σ vs).set j (some x)) H' K)
    (hd : ∀ D H', H1 D = none → Ex H1 H' → H' D = some (.lst ys) → Q (.ref D) H') :
    LcG J (gName j) tYes te vs σ H1 Q := by
  intro D hD
  refine lc_it w (fun i H => Ex H1 H ∧ H D = some (.lst (ys.take i))) ⟨Ex.new hD, upd_same⟩ (fun i H _ p => hG H p.1) ?_ (fun H p => ?_)
  · rintro i x H H' hi ⟨e, hacc⟩ hy
    have hi' : i < ys.length := by omega
    obtain ⟨y, hyi⟩ : ∃ y, ys[i]? = some y := ⟨ys[i], by simp [hi']⟩
    refine ⟨hw _, ?_⟩
    unfold tYes
    dsimp only
    rw [if_pos rfl]
    refine hs i x y H H' _ hi e hy hyi fun H4 e4 => ⟨ys.take i, e4 _ _ hacc, by rw [List.length_take]; omega, ?_, ?_⟩
    · exact Ex.mut (e.trans e4) hD
    · rw [upd_same, List.take_add_one, hyi]
      rfl
  · obtain ⟨e, h⟩ := p
    rw [← hl, List.take_length] at h
    exact hd D H hD e h
end

/-! ### a loop over a dict -/
/-- while the dict at d is walked, f's object turns -/
structure LoopEx (d f : Addr) (s : Bg) (H H' : Hp) : Prop where
  keep : ∀ a o, a ≠ f → a ≠ d → H a = some o → H' a = some o
  self : Rd H' d (.dK (toK s))
theorem LoopEx.rd {d f : Addr} {s : Bg} {H H' : Hp} (l : LoopEx d f s H H') (hd : Rd H d (.dK (toK s))) {b : Addr} {t : Bg} (h : Rd H b (.dK (toK t))) (n : b ≠ f) : Rd H' b (.dK (toK t)) := by
  by_cases e : b = d
  · subst e
    have : toK t = toK s := by
      rcases h with h | ⟨o, h⟩ <;> rcases hd with hd | ⟨o', hd⟩
      · exact HO.dK.inj (Option.some.inj (h.symm.trans hd))
      · exact absurd (Option.some.inj (h.symm.trans hd)) (by simp)
      · exact absurd (Option.some.inj (h.symm.trans hd)) (by simp)
      · have := Option.some.inj (h.symm.trans hd)
        injection this with _ e2
        exact HO.dK.inj e2
    rw [this]
    exact l.self
  · rcases h with h | ⟨o, h⟩
    · exact .inl (l.keep b _ n e h)
    · exact .inr ⟨o, l.keep b _ n e h⟩
theorem LoopEx.exb {d f : Addr} {s : Bg} {H H' H'' : Hp} (l : LoopEx d f s H H') (n : d ≠ f) (b : ExB f H' H'') : LoopEx d f s H H'' := ⟨fun a o h1 h2 q => b a o h1 (l.keep a o h1 h2 q), b.rd n l.self⟩
theorem for_keys {σ : St} {H : Hp} {D : Ends} {d f : Addr} {s : Bg} {o0 : HO} {te : TE} {j : Nat} {tb : TS} (hd : Rd H d (.dK (toK s))) (hf : H f = some o0) (hne : d ≠ f)
    (he : ∀ (H' : Hp) (Q : VK), LoopEx d f s H H' → Q (.ref d) H' → te σ H' Q)
    (I : Nat → St → HO → Prop) (h0 : I 0 σ o0)
    (hs : ∀ i w n σ' H' o (E : Ends), s[i]? = some (w, n) → I i σ' o → LoopEx d f s H H' → H' f = some o → (∀ v H1, ExB f H' H1 → (∀ H2, ExB f H H2 → H2 f = H1 f → D.rt v H2) → E.rt v H1) →
      (∀ σ'' H'' o', I (i + 1) σ'' o' → ExB f H' H'' → H'' f = some o' → E.nx σ'' H'') → tb E (σ'.set j (some (.str w))) H')
    (hend : ∀ σ' H' o, I s.length σ' o → ExB f H H' → H' f = some o → D.nx σ' H') : tLockR (tFor (iKeys te) (gName j) tb) D σ H := by
  -- the loop itself, over a heap in which d is locked
  have core : ∀ (Hl : Hp) (od : Obj) (E : Ends), Hl d = some (.frz od (.dK (toK s))) → (∀ a o, a ≠ d → (H a = some o ↔ Hl a = some o)) →
      (∀ σ' H' o, I s.length σ' o → ExB f Hl H' → H' f = some o → E.nx σ' H') → (∀ v H', ExB f Hl H' → (∀ H2, ExB f H H2 → H2 f = H' f → D.rt v H2) → E.rt v H') → tFor (iKeys te) (gName j) tb E σ Hl := by
    intro Hl od E hl hsame hE hrt
    have l0 : LoopEx d f s H Hl := ⟨fun a o _ h2 q => (hsame a o h2).mp q, .inr ⟨od, hl⟩⟩
    refine he Hl _ l0 ⟨d, od, rfl, .inl ⟨toK s, hl, ?_⟩⟩
    refine for_it walk_keys (fun i σ' H' => ∃ o, I i σ' o ∧ ExB f Hl H' ∧ H' f = some o) ⟨o0, h0, ExB.refl f Hl, (hsame f o0 (Ne.symm hne)).mp hf⟩ (fun i σ' H' _ p => ?_) ?_ (fun σ' H' p => ?_)
    · obtain ⟨o, _, e, _⟩ := p
      exact e d _ hne hl
    · rintro i x σ' H' H1 hi ⟨o, hI, e, hfo⟩ ⟨rfl, k, v, hk, rfl⟩
      obtain ⟨w, n, hw, ekv⟩ := toK_get hk
      cases ekv
      have le : LoopEx d f s H H1 := ⟨fun a o h1 h2 q => e a o h1 ((hsame a o h2).mp q), .inr ⟨od, e d _ hne hl⟩⟩
      exact hs i w n σ' H1 o _ hw hI le hfo (fun v H2 e2 hq => hrt v H2 (e.trans e2) hq) fun σ'' H'' o' hI' e' hf' => ⟨o', hI', e.trans e', hf'⟩
    · obtain ⟨o, hI, e, hfo⟩ := p
      rw [toK_len] at hI
      exact hE σ' H' o hI e hfo
  rcases hd with hd | ⟨od, hd⟩
  · refine .inl ⟨d, _, hd, trivial, fun od => ?_⟩
    have back : ∀ H', ExB f (upd H d (.frz od (.dK (toK s)))) H' → H' d = some (.frz od (.dK (toK s))) ∧ ExB f H (upd H' d (.dK (toK s))) := fun H' e => by
      refine ⟨e d _ hne upd_same, fun a o h1 q => ?_⟩
      by_cases ha : a = d
      · subst ha
        rw [hd] at q
        cases q
        exact upd_same
      · rw [upd_ne ha]
        exact e a o h1 (by rw [upd_ne ha]; exact q)
    refine core _ od _ upd_same (fun a o ha => by rw [upd_ne ha]) (fun σ' H' o hI e hfo => ?_) (fun v H' e hq => ?_)
    · obtain ⟨b1, b2⟩ := back H' e
      exact ⟨b1, hend σ' _ o hI b2 (by rw [upd_ne (Ne.symm hne)]; exact hfo)⟩
    · obtain ⟨b1, b2⟩ := back H' e
      exact ⟨b1, hq _ b2 (by rw [upd_ne (Ne.symm hne)])⟩
  · exact .inr (core H od D hd (fun a o _ => Iff.rfl) hend fun v H' e hq => hq H' e rfl)
end Fp

/-! More steps of a reading. -/
namespace Fp
open PySem L2
theorem ps_never {X : Cx} {st : Stmt} : PS X st (fun _ _ _ => False) := ⟨fun pins s σ H D I h => h.elim⟩
section
variable {σ : St} {H H1 : Hp} {Q : VK} {D : Ends} {i : Nat} {v x y : V} {ta tb te tc td ty : TE} {K : PySem.W.Frag} {tt tu : TT} {t u : TS} {QB : Bool → Hp → Prop} {tA : TA}
theorem g_chain {r r' : R2} (h : ta σ H fun x H1 => tb σ H1 fun y H2 => r x y H2 fun z H3 => ∃ k, z = .bl k ∧ (if k = true then tc σ H3 fun w' H4 => r' y w' H4 Q else Q (.bl false) H3)) : tChain r r' ta tb tc σ H Q := h
theorem g_dget (h : td σ H fun x H1 => ty σ H1 fun y H2 => ∃ a v, x = .ref a ∧ DGet H2 a y (some v) ∧ Q v H2) : tDGet td ty σ H Q := h
theorem g_dput {tv : TE} (h : tv σ H fun v H1 => td σ H1 fun x H2 => ty σ H2 fun y H3 => ∃ a H4, x = .ref a ∧ DPut H3 a y v H4 ∧ D.nx σ H4) : sDPut td ty tv D σ H := h
theorem g_dget2 {tx : TE} (h : td σ H fun x H1 => ∃ a, x = .ref a ∧ IsD H1 a ∧ ty σ H1 fun y H2 => tx σ H2 fun z H3 => ∃ o, DGet H3 a y o ∧ Q (o.getD z) H3) : tDGet2 td ty tx σ H Q := h
theorem g_dpop2 {tx : TE} (h : td σ H fun x H1 => ∃ a, x = .ref a ∧ IsD H1 a ∧ ty σ H1 fun y H2 => tx σ H2 fun z H3 => ∃ kvs k, H3 a = some (.dK kvs) ∧ y = kV k ∧
  (∀ v, valV kvs k = some v → Q v (upd H3 a (.dK (dropK kvs k)))) ∧ (valV kvs k = none → Q z H3)) : tDPop2 td ty tx σ H Q := h
theorem g_fld {f : Str} (h : ta σ H fun x H1 => ∃ a C dx fs v, x = .ref a ∧ H1 a = some (.ins C dx fs) ∧ Cls K C ∧ NoAttr K C f ∧ fs.lookup f = some v ∧ Q v H1) : tFld K ta f σ H Q := h
theorem g_sfld {tv : TE} {f : Str} (h : tv σ H fun y H1 => ta σ H1 fun x H2 => ∃ a C dx fs, x = .ref a ∧ H2 a = some (.ins C dx fs) ∧ Cls K C ∧ NoAttr K C f ∧ fs.length < 1000 ∧
  D.nx σ (upd H2 a (.ins C dx (putF f y fs)))) : sFld K ta tv f D σ H := h
theorem g_make {C : Addr} {sp : Sp} {E : XK} (h : tA σ H fun vs H1 => ∀ x dx, H1 x = none → H1 dx = none → dx ≠ x →
  sp (.ref x :: (vs ++ [])) (upd (upd H1 dx (.own x)) x (.ins C dx [])) (fun v H2 => v = .non ∧ Q (.ref x) H2) E) : tMake C sp [] E tA σ H Q := h
theorem g_meth {C : Addr} {m : Str} {sp : Sp} {E : XK} (h : ta σ H fun x H1 => ∃ a dx fs, x = .ref a ∧ H1 a = some (.ins C dx fs) ∧ fs.lookup m = none ∧
  tA σ H1 fun vs H2 => sp (x :: (vs ++ [])) H2 Q E) : tMeth C m sp [] E ta tA σ H Q := h
theorem g_bm {T : String} {r : V → List V → Hp → VK → Prop} (h : ta σ H fun x H1 => tyV K T x H1 ∧ tA σ H1 fun xs H2 => r x xs H2 Q) : tBM K T r ta tA σ H Q := h
theorem g_m1 {r : V → List V → Hp → VK → Prop} (h : ta σ H fun x H1 => (∃ a, x = .str a) ∧ te σ H1 fun y H2 => r x [y] H2 Q) : tM1 r ta te σ H Q := h
theorem g_itNT {A B : Prop} (h : B) : if (!true) = true then A else B := g_iff rfl h
theorem g_itNF {A B : Prop} (h : A) : if (!false) = true then A else B := g_ift rfl h
theorem g_revL (h : te σ H fun x H1 => ∃ a xs, x = .ref a ∧ SqL K H1 a xs ∧ ∀ p, H1 p = none → Q (.ref p) (upd H1 p (.lst xs.reverse))) : tRevL K te σ H Q := h
theorem g_kw {r : List V → List V → Hp → VK → Prop} {tk : TA} (h : tA σ H fun vs H1 => tk σ H1 fun zs H2 => r vs zs H2 Q) : tCKw r tA tk σ H Q := h
theorem g_gsub {to ti : TE} {s : TSet} {QS : St → Hp → Prop} (h : to σ H fun o H1 => ti σ H1 fun i H2 => s o i v H2 fun H3 => QS σ H3) : gSub to ti s v σ H QS := h
theorem g_for {wi : TI} {g : TG} (h : wi σ H fun J H1 => ForG J g t D σ H1) : tFor wi g t D σ H := h
theorem g_iList {R : It → Hp → Prop} (h : te σ H fun x H1 => ∃ a, x = .ref a ∧ (∃ xs, SqL K H1 a xs) ∧ R (Itl K a) H1) : iList K te σ H R := h
theorem g_iTup {R : It → Hp → Prop} (h : te σ H fun x H1 => ∃ a, x = .ref a ∧ (∃ xs, SqT K H1 a xs) ∧ R (Itt K a) H1) : iTup K te σ H R := h
theorem g_iRng1 {R : It → Hp → Prop} (h : tA σ H fun vs H1 => ∃ j : Int, vs = [.int j] ∧ -(2 ^ 62) ≤ j ∧ j < 2 ^ 62 ∧ R (Itr 0 j.toNat) H1) : iRng1 tA σ H R := h
theorem g_iRng2 {R : It → Hp → Prop} (h : tA σ H fun vs H1 => ∃ i j : Int, vs = [.int i, .int j] ∧ (-(2 ^ 62) ≤ i ∧ i < 2 ^ 62 ∧ -(2 ^ 62) ≤ j ∧ j < 2 ^ 62) ∧ R (Itr i (j - i).toNat) H1) : iRng2 tA σ H R := h
theorem g_sl {r : V → Option Int → Option Int → Hp → VK → Prop} {tl th : TO} (h : te σ H fun x H1 => tl σ H1 fun l H2 => th σ H2 fun u H3 => r x l u H3 Q) : tSl r te tl th σ H Q := h
theorem g_part {QO : Option Int → Hp → Prop} (h : te σ H fun x H1 => ∃ i, x = .int i ∧ QO (some i) H1) : tPart te σ H QO := h
theorem g_noPart {QO : Option Int → Hp → Prop} (h : QO none H) : tNoPart σ H QO := h
theorem g_exi {z : Int} {R : Int → Prop} (h : R z) : ∃ i, (V.int z) = .int i ∧ R i := ⟨z, rfl, h⟩
theorem g_exr {z : Addr} {R : Addr → Prop} (h : R z) : ∃ i, (V.ref z) = .ref i ∧ R i := ⟨z, rfl, h⟩
theorem g_exb {z : Bool} {R : Bool → Prop} (h : R z) : ∃ i, (V.bl z) = .bl i ∧ R i := ⟨z, rfl, h⟩
theorem g_dnew (h : ∀ p, H p = none → Q (.ref p) (upd H p (.dK []))) : tDNewK σ H Q := h
theorem g_disp {trs : List (TE × TE)} (h : ∀ p, H p = none → tPairs trs σ (upd H p (.dK [])) fun ps H2 => H2 p = some (.dK []) ∧ ∃ kvs : List (Key × V), ps = kvs.map (fun kv => (kV kv.1, kv.2)) ∧ kvs.length ≤ 15 ∧ Q (.ref p) (upd H2 p (.dK (mergeK [] kvs)))) : tDisp trs σ H Q := h
theorem g_prs0 {R : List (V × V) → Hp → Prop} (h : R [] H) : tPairs [] σ H R := h
theorem g_prs {tk tv : TE} {r : List (TE × TE)} {R : List (V × V) → Hp → Prop} (h : tk σ H fun x H1 => tv σ H1 fun y H2 => tPairs r σ H2 fun ps H3 => R ((x, y) :: ps) H3) : tPairs ((tk, tv) :: r) σ H R := h
theorem g_cut {R : St → Hp → Prop} (h1 : ∀ N : St → Hp → Prop, (∀ σ' H', R σ' H' → N σ' H') → t { D with nx := N } σ H) (h2 : ∀ σ' H', R σ' H' → u D σ' H') : tSeq t u D σ H := h1 (u D) h2
theorem g_nxt (h : D.nx σ H) : tNext D σ H := h
/-! the readings of things -/
theorem g_int {i : Int} (h : Q (.int i) H) : (∃ j, [V.int i] = [.int j] ∧ Q (.int j) H) ∨ ∃ k, [V.int i] = [.bl k] ∧ Q (.int (if k then 1 else 0)) H := .inl ⟨i, rfl, h⟩
theorem g_ixl {p : Addr} {xs : List V} {k : Int} (hs : SqL K H p xs) (ha : atI xs k = some v) (h : Q v H) : rIxL K (.ref p) (.int k) H Q := ⟨p, xs, k, v, rfl, rfl, hs, ha, h⟩
theorem g_ixt {p : Addr} {xs : List V} {k : Int} (hs : SqT K H p xs) (ha : atI xs k = some v) (h : Q v H) : rIxT K (.ref p) (.int k) H Q := ⟨p, xs, k, v, rfl, rfl, hs, ha, h⟩
theorem g_ixs {z : Str} {k : Int} {c : Nat} (hz : z.length ≤ sizeLine) (ha : atI z.cps.toList k = some c) (h : Q (.str ⟨#[c]⟩) H) : rIxS (.str z) (.int k) H Q := ⟨z, k, c, rfl, rfl, hz, ha, h⟩
theorem g_setl {p : Addr} {xs : List V} {k : Int} {j : Nat} {R : Hp → Prop} (hs : H p = some (.lst xs)) (ha : ixN xs.length k = some j) (h : R (upd H p (.lst (xs.set j v)))) : rSetL (.ref p) (.int k) v H R := ⟨p, xs, k, j, rfl, rfl, hs, ha, h⟩
theorem g_dg {a : Addr} {s : Bg} {w : Str} {n : Int} {R : V → Prop} (hd : Rd H a (.dK (toK s))) (hw : getS s w = some n) (h : R (.int n)) : ∃ b v, V.ref a = .ref b ∧ DGet H b (.str w) (some v) ∧ R v :=
  ⟨a, .int n, rfl, .inl ⟨toK s, .inr w, hd, rfl, by rw [valV_toK, hw]; rfl⟩, h⟩
theorem g_dp {a : Addr} {s : Bg} {w : Str} {n : Int} {R : Hp → Prop} (hd : H a = some (.dK (toK s))) (hl : s.length < sizeLine) (h : R (upd H a (.dK (toK (putS s w n))))) : ∃ b H4, V.ref a = .ref b ∧ DPut H b (.str w) (.int n) H4 ∧ R H4 :=
  ⟨a, _, rfl, DPut.k (k := (Sum.inr w : Key)) hd (by rw [toK_len]; exact hl), by rw [putK_toK]; exact h⟩
theorem atI_get {α : Type} {xs : List α} {k : Int} {v : α} (h0 : 0 ≤ k) (h : xs[k.toNat]? = some v) : atI xs k = some v := by
  have hlt : k.toNat < xs.length := by
    rcases Nat.lt_or_ge k.toNat xs.length with q | q
    · exact q
    · rw [List.getElem?_eq_none q] at h; cases h
  unfold atI ixN
  rw [if_pos h0, if_pos (by omega)]
  exact h
/-- a text of at most so many signs -/
theorem line5 {n : Nat} (h : n ≤ 10000000) : n ≤ sizeLine := Nat.le_trans h (by decide)
theorem mem_fr {s : Bg} {w : Str} {n : Int} {i : Nat} (h : s[i]? = some (w, n)) : (w, n) ∈ s := List.mem_of_getElem? h
theorem getS_at {s : Bg} {w : Str} {n : Int} {i : Nat} (hn : (keys s).Nodup) (h : s[i]? = some (w, n)) : getS s w = some n := getS_of_mem hn (mem_fr h)
end
end Fp

/-! Comprehensions that make things. -/
namespace Fp
open PySem L2

/-! ### what stays while lists grow and dicts are unlocked: tuples -/
def TupS (H H' : Hp) : Prop := ∀ a xs, H a = some (.tup xs) → H' a = some (.tup xs)
theorem TupS.trans {H H1 H2 : Hp} (a : TupS H H1) (b : TupS H1 H2) : TupS H H2 := fun x o h => b x o (a x o h)
theorem Ex.tups {H H' : Hp} (e : Ex H H') : TupS H H' := fun a xs h => e a _ h
theorem TupS.upd {H : Hp} {a : Addr} {o u : HO} (h : H a = some u) (hu : ∀ xs, u ≠ .tup xs) : TupS H (upd H a o) := fun b xs q => by
  rw [upd_ne (fun e => by subst e; rw [h] at q; exact hu xs (Option.some.inj q))]
  exact q
theorem TupS.new {H : Hp} {a : Addr} {o : HO} (h : H a = none) : TupS H (L2.upd H a o) := (Ex.new h).tups

/-! ### Paired -/
section
variable {α β : Type} {F : α → β → Prop}
theorem paired_eq {xs : List V} {es : List V} (h : Paired (fun x e => x = e) xs es) : xs = es := by
  induction h with
  | nil => rfl
  | cons h1 _ ih => rw [h1, ih]
theorem paired_map {G : β → α} {xs : List α} {es : List β} (h : Paired (fun x e => x = G e) xs es) : xs = es.map G := by
  induction h with
  | nil => rfl
  | cons h1 _ ih => rw [h1, ih]; rfl
theorem paired_refs {P : Addr → β → Prop} {xs : List V} {es : List β} (h : Paired (fun x e => ∃ a, x = V.ref a ∧ P a e) xs es) : ∃ as : List Addr, xs = as.map V.ref ∧ Paired P as es := by
  induction h with
  | nil => exact ⟨[], rfl, .nil⟩
  | cons h1 _ ih =>
    obtain ⟨a, rfl, ha⟩ := h1
    obtain ⟨as, rfl, hs⟩ := ih
    exact ⟨a :: as, rfl, .cons ha hs⟩
theorem paired_get {xs : List α} {es : List β} (h : Paired F xs es) : ∀ {i : Nat} {x : α}, xs[i]? = some x → ∃ e, es[i]? = some e ∧ F x e := by
  induction h with
  | nil => intro i x e; simp at e
  | cons h1 _ ih =>
    intro i x e
    cases i with
    | zero => exact ⟨_, rfl, by have := Option.some.inj e; subst this; exact h1⟩
    | succ i => exact ih e
theorem paired_mapr {γ : Type} {g : β → γ} {G : α → γ → Prop} {xs : List α} {es : List β} (h : Paired F xs es) (hg : ∀ a b, F a b → G a (g b)) : Paired G xs (es.map g) := by
  induction h with
  | nil => exact .nil
  | cons h1 _ ih => exact .cons (hg _ _ h1) ih
end
section
variable {J : It} {n : Nat} {G : Hp → Prop} {Y : Nat → Hp → V → Hp → Prop} {α : Type}
/-- a comprehension whose elements stand to es as R says -/
theorem lc_rel (w : Walk J n G Y) {j : Nat} {te : TE} {vs : List Nat} {σ : St} {H1 : Hp} {Q : VK} (es : List α) (hl : es.length = n) (hn : n ≤ sizeLine) (hG : ∀ H, Ex H1 H → G H)
    (R : α → V → Hp → Prop) (hR : ∀ e y H H', TupS H H' → R e y H → R e y H') (hw : ∀ x, wipe ((wipe σ vs).set j x) vs = wipe σ vs)
    (hs : ∀ i x e H H' (K : VK), i < n → Ex H1 H → Y i H x H' → es[i]? = some e → (∀ y H4, Ex H H4 → R e y H4 → K y H4) → te ((wipe σ vs).set j (some x)) H' K)
    (hd : ∀ D H' ys, H1 D = none → Ex H1 H' → H' D = some (.lst ys) → Paired (fun y e => R e y H') ys es → Q (.ref D) H') :
    LcG J (gName j) tYes te vs σ H1 Q := by
  intro D hD
  refine lc_it w (fun i H => Ex H1 H ∧ ∃ ys, H D = some (.lst ys) ∧ Paired (fun y e => R e y H) ys (es.take i)) ⟨Ex.new hD, [], upd_same, .nil⟩ (fun i H _ p => hG H p.1) ?_ (fun H p => ?_)
  · rintro i x H H' hi ⟨e, ys, hacc, hp⟩ hy
    have hi' : i < es.length := by omega
    obtain ⟨y, hyi⟩ : ∃ y, es[i]? = some y := ⟨es[i], by simp [hi']⟩
    refine ⟨hw _, ?_⟩
    unfold tYes
    dsimp only
    rw [if_pos rfl]
    have hlen : ys.length = i := by rw [hp.length, List.length_take]; omega
    refine hs i x y H H' _ hi e hy hyi fun z H4 e4 rz => ⟨ys, e4 _ _ hacc, by omega, ?_, ys ++ [z], upd_same, ?_⟩
    · exact Ex.mut (e.trans e4) hD
    · have tu : TupS H4 (upd H4 D (.lst (ys ++ [z]))) := TupS.upd (e4 _ _ hacc) (fun _ => by simp)
      rw [List.take_add_one, hyi]
      exact Paired.snoc (Paired.mapP hp fun a b q => hR _ _ _ _ (e4.tups.trans tu) q) (hR _ _ _ _ tu rz)
  · obtain ⟨e, ys, h, hp⟩ := p
    rw [← hl, List.take_length] at hp
    exact hd D H ys hD e h hp
end
/-- while the dict at d is walked -/
structure LkEx (d : Addr) (s : Bg) (H H' : Hp) : Prop where
  keep : ∀ a o, a ≠ d → H a = some o → H' a = some o
  self : Rd H' d (.dK (toK s))
theorem LkEx.rd {d : Addr} {s : Bg} {H H' : Hp} (l : LkEx d s H H') (hd : Rd H d (.dK (toK s))) {b : Addr} {t : Bg} (h : Rd H b (.dK (toK t))) : Rd H' b (.dK (toK t)) := by
  by_cases e : b = d
  · subst e
    have : toK t = toK s := by
      rcases h with h | ⟨o, h⟩ <;> rcases hd with hd | ⟨o', hd⟩
      · exact HO.dK.inj (Option.some.inj (h.symm.trans hd))
      · exact absurd (Option.some.inj (h.symm.trans hd)) (by simp)
      · exact absurd (Option.some.inj (h.symm.trans hd)) (by simp)
      · have := Option.some.inj (h.symm.trans hd)
        injection this with _ e2
        exact HO.dK.inj e2
    rw [this]
    exact l.self
  · rcases h with h | ⟨o, h⟩
    · exact .inl (l.keep b _ e h)
    · exact .inr ⟨o, l.keep b _ e h⟩
theorem LkEx.ex {d : Addr} {s : Bg} {H H' H'' : Hp} (l : LkEx d s H H') (e : Ex H' H'') : LkEx d s H H'' := ⟨fun a o n h => e _ _ (l.keep a o n h), e.rd l.self⟩
/-- a comprehension over a dict's keys -/
theorem lcd_rel {σ : St} {H : Hp} {Q : VK} {d : Addr} {s : Bg} {te0 te : TE} {j : Nat} {vs : List Nat} (hd : Rd H d (.dK (toK s))) (hz : s.length ≤ sizeLine)
    (he : ∀ (H' : Hp) (Q : VK), LkEx d s H H' → Q (.ref d) H' → te0 σ H' Q)
    (R : Str × Int → V → Hp → Prop) (hR : ∀ e y H H', TupS H H' → R e y H → R e y H') (hw : ∀ x, wipe ((wipe σ vs).set j x) vs = wipe σ vs)
    (hs : ∀ (i : Nat) (w : Str) (n : Int) (H' : Hp) (K : VK), s[i]? = some (w, n) → LkEx d s H H' → (∀ y H4, Ex H' H4 → R (w, n) y H4 → K y H4) → te ((wipe σ vs).set j (some (.str w))) H' K)
    (hend : ∀ D H' ys, H D = none → Ex H H' → H' D = some (.lst ys) → Paired (fun y e => R e y H') ys s → Q (.ref D) H') : tLockRE (tLc (iKeys te0) (gName j) tYes te vs) σ H Q := by
  have core : ∀ (Hl : Hp) (od : Obj) (Q' : VK), Hl d = some (.frz od (.dK (toK s))) → (∀ a o, a ≠ d → (H a = some o ↔ Hl a = some o)) → (∀ a, Hl a = none → H a = none) →
      (∀ D H' ys, H D = none → Ex Hl H' → H' D = some (.lst ys) → Paired (fun y e => R e y H') ys s → Q' (.ref D) H') → tLc (iKeys te0) (gName j) tYes te vs σ Hl Q' := by
    intro Hl od Q' hl hsame hnone hE
    have l0 : LkEx d s H Hl := ⟨fun a o h2 q => (hsame a o h2).mp q, .inr ⟨od, hl⟩⟩
    refine he Hl _ l0 ⟨d, od, rfl, .inl ⟨toK s, hl, ?_⟩⟩
    show LcG _ _ _ _ _ _ _ _
    refine lc_rel walk_keys s (toK_len s).symm (by rw [toK_len]; exact hz) (fun H' e => e _ _ hl) R hR hw ?_ (fun D H' ys hD => hE D H' ys (hnone D hD))
    rintro i x e H2 H3 K hi e2 ⟨rfl, k, v, hk, rfl⟩ hei hK
    obtain ⟨w, n, hw', ekv⟩ := toK_get hk
    cases ekv
    rw [hw'] at hei
    obtain rfl := (Option.some.inj hei).symm
    exact hs i w n H3 K hw' (l0.ex e2) hK
  rcases hd with hd | ⟨od, hd⟩
  · refine .inl ⟨d, _, hd, trivial, fun od => ?_⟩
    refine core _ od _ upd_same (fun a o ha => by rw [upd_ne ha]) (fun a ha => ?_) (fun D H' ys hD e hl hp => ?_)
    · by_cases q : a = d
      · subst q; rw [upd_same] at ha; cases ha
      · rw [upd_ne q] at ha; exact ha
    · have hdl : H' d = some (.frz od (.dK (toK s))) := e _ _ upd_same
      have hne : D ≠ d := fun q => by subst q; rw [hd] at hD; cases hD
      refine ⟨hdl, hend D _ ys hD (fun a o q => ?_) (by rw [upd_ne hne]; exact hl) (Paired.mapP hp fun a b q => hR _ _ _ _ (TupS.upd hdl fun _ => by simp) q)⟩
      by_cases ha : a = d
      · subst ha
        rw [hd] at q
        cases q
        exact upd_same
      · rw [upd_ne ha]
        exact e a o (by rw [upd_ne ha]; exact q)
  · exact .inr (core H od Q hd (fun a o _ => Iff.rfl) (fun _ h => h) hend)
/-- a comprehension that turns f's object meanwhile -/
theorem lc_mut {J : It} {n : Nat} {G : Hp → Prop} {Y : Nat → Hp → V → Hp → Prop} (w : Walk J n G Y) {f : Addr} {o0 : HO} {j : Nat} {te : TE} {vs : List Nat} {σ : St} {H1 : Hp} {Q : VK} (hf : H1 f = some o0) (hn : n ≤ sizeLine) (I : Hp → Prop) (h0 : I H1)
    (hI : ∀ H D o, H1 D = none → I H → I (upd H D o)) (hG : ∀ H, ExB f H1 H → I H → G H) (P : V → Prop) (hw : ∀ x, wipe ((wipe σ vs).set j x) vs = wipe σ vs)
    (hs : ∀ i x H H' (K : VK), i < n → ExB f H1 H → I H → Y i H x H' → (∀ y H4, ExB f H H4 → I H4 → P y → K y H4) → te ((wipe σ vs).set j (some x)) H' K)
    (hd : ∀ D H' ys, H1 D = none → ExB f H1 H' → I H' → H' D = some (.lst ys) → ys.length = n → (∀ y ∈ ys, P y) → Q (.ref D) H') :
    LcG J (gName j) tYes te vs σ H1 Q := by
  intro D hD
  have hDf : D ≠ f := Ne.symm (ne_of_none hf hD)
  refine lc_it w (fun i H => ExB f H1 H ∧ I H ∧ ∃ ys, H D = some (.lst ys) ∧ ys.length = i ∧ ∀ y ∈ ys, P y) ⟨(Ex.new hD).exb, hI _ _ _ hD h0, [], upd_same, rfl, fun _ h => nomatch h⟩ (fun i H _ p => hG H p.1 p.2.1) ?_ (fun H p => ?_)
  · rintro i x H H' hi ⟨e, hi1, ys, hacc, hl, hp⟩ hy
    refine ⟨hw _, ?_⟩
    unfold tYes
    dsimp only
    rw [if_pos rfl]
    refine hs i x H H' _ hi e hi1 hy fun z H4 e4 i4 pz => ⟨ys, e4 _ _ hDf hacc, by omega, ?_, hI _ _ _ hD i4, ys ++ [z], upd_same, by rw [List.length_append, hl]; rfl, fun y hy => ?_⟩
    · exact fun a o hne q => by rw [upd_ne (ne_of_none q hD)]; exact e4 a o hne (e a o hne q)
    · rcases List.mem_append.mp hy with h | h
      · exact hp y h
      · rw [List.mem_singleton.mp h]; exact pz
  · obtain ⟨e, hi, ys, h, hl, hp⟩ := p
    exact hd D H ys hD e hi h hl hp
end Fp

/-! Displays of dicts and lists of them; how big a dict is. -/
namespace Fp
open PySem L2
theorem forG {J : It} {n : Nat} {G : Hp → Prop} {Y : Nat → Hp → V → Hp → Prop} (w : Walk J n G Y) {g : TG} {tb : TS} {D : Ends} {σ : St} {H : Hp} (Pv : Nat → St → Hp → Prop) (h0 : Pv 0 σ H) (hG : ∀ i σ H, i ≤ n → Pv i σ H → G H)
    (hs : ∀ i x σ H H', i < n → Pv i σ H → Y i H x H' → g x σ H' fun σ2 H2 => tb { D with nx := Pv (i + 1), ct := Pv (i + 1), bk := D.nx } σ2 H2) (hd : ∀ σ H, Pv n σ H → D.nx σ H) : ForG J g tb D σ H := for_it w Pv h0 hG hs hd
theorem mergeK_app (a : List (Key × V)) : ∀ b : List (Key × V), ((a ++ b).map (·.1)).Nodup → mergeK a b = a ++ b
  | [], _ => (List.append_nil a).symm
  | q :: r, h => by
    show mergeK (putK a q.1 q.2) r = a ++ q :: r
    have hn : valV a q.1 = none := by
      cases e : valV a q.1 with
      | none => rfl
      | some x =>
        unfold valV at e
        cases f : a.find? fun kv => decide (kv.1 = q.1) with
        | none => rw [f] at e; cases e
        | some y =>
          have h1 := List.mem_of_find?_eq_some f
          have h2 := List.find?_some f
          rw [List.map_append, List.nodup_append] at h
          exact absurd (of_decide_eq_true h2) (h.2.2 y.1 (List.mem_map.mpr ⟨y, h1, rfl⟩) q.1 (by simp))
    rw [putK_new q.2 hn, mergeK_app (a ++ [(q.1, q.2)]) r (by rw [List.append_assoc]; exact h), List.append_assoc]
    rfl
theorem mergeK_toK {s : Bg} (h : (keys s).Nodup) : mergeK [] (toK s) = toK s := by
  refine (mergeK_app [] (toK s) ?_)
  rw [List.nil_append]
  unfold toK
  rw [List.map_map]
  have e : ((fun x : Key × V => x.1) ∘ fun kv : Str × Int => ((Sum.inr kv.1 : Key), V.int kv.2)) = (Sum.inr : Str → Key) ∘ (·.1) := rfl
  rw [e, ← List.map_map]
  exact List.Pairwise.map _ (fun a b q e => q (Sum.inr.inj e)) h
/-- a display tells the new dict s -/
def DispOk (te : TE) (σ : St) (s : Bg) : Prop := ∀ (H : Hp) (Q : VK), (∀ p H', Ex H H' → H p = none → H' p = some (.dK (toK s)) → Q (.ref p) H') → te σ H Q
def PureT (te : TE) (σ : St) (v : V) : Prop := ∀ (H : Hp) (Q : VK), Q v H → te σ H Q
theorem pure_c {v : V} {σ : St} : PureT (tC v) σ v := fun _ _ q => q
theorem pure_v {v : V} {σ : St} {i : Nat} (h : σ[i]? = some (some v)) : PureT (tVar i) σ v := fun _ _ q => ⟨v, h, q⟩
def PairsOk : List (TE × TE) → St → Bg → Prop
  | [], _, [] => True
  | t :: r, σ, q :: s => PureT t.1 σ (.str q.1) ∧ PureT t.2 σ (.int q.2) ∧ PairsOk r σ s
  | _, _, _ => False
theorem pairs_ok {σ : St} : ∀ {trs : List (TE × TE)} {s : Bg} {H : Hp} {R : List (V × V) → Hp → Prop}, PairsOk trs σ s → R ((toK s).map fun kv => (kV kv.1, kv.2)) H → tPairs trs σ H R
  | [], [], _, _, _, h => h
  | [], _ :: _, _, _, ok, _ => ok.elim
  | _ :: _, [], _, _, ok, _ => ok.elim
  | (tk, tv) :: r, q :: s, H, R, ok, h => ok.1 H _ (ok.2.1 H _ (pairs_ok (R := fun ps H => R ((V.str q.1, V.int q.2) :: ps) H) ok.2.2 h))
theorem disp_ok {trs : List (TE × TE)} {σ : St} {s : Bg} (ok : PairsOk trs σ s) (hn : (keys s).Nodup) (hl : s.length ≤ 15) : DispOk (tDisp trs) σ s := fun H Q q p hp => by
  refine pairs_ok ok ⟨upd_same, toK s, rfl, by rw [toK_len]; exact hl, ?_⟩
  rw [mergeK_toK hn]
  exact q p _ (Ex.mut (Ex.new hp) hp) hp upd_same
def ArgsOk (tA : TA) (σ : St) (ss : List Bg) : Prop := ∀ (H : Hp) (QA : List V → Hp → Prop), (∀ (ps : List Addr) H', Ex H H' → Paired (fun p s => H p = none ∧ H' p = some (.dK (toK s))) ps ss → QA (ps.map V.ref) H') → tA σ H QA
theorem args_nil {σ : St} : ArgsOk tNil σ [] := fun H QA q => q [] H (Ex.refl H) .nil
theorem args_cons {σ : St} {te : TE} {tA : TA} {s : Bg} {ss : List Bg} (h : DispOk te σ s) (h2 : ArgsOk tA σ ss) : ArgsOk (tCons te tA) σ (s :: ss) := fun H QA q =>
  h H _ fun p H1 e1 hp0 hp => h2 H1 _ fun ps H2 e2 hps => q (p :: ps) H2 (e1.trans e2) (.cons ⟨hp0, e2 _ _ hp⟩ (Paired.mapP hps fun _ _ z => ⟨e1.free z.1, z.2⟩))
theorem paired_app {α β : Type} {F : α → β → Prop} {a : List α} {b : List β} {c : List α} {d : List β} (h : Paired F a b) (h2 : Paired F c d) : Paired F (a ++ c) (b ++ d) := by
  induction h with
  | nil => exact h2
  | cons q _ ih => exact .cons q ih
theorem paired_nth {α β : Type} {F : α → β → Prop} {a : List α} {b : List β} (h : Paired F a b) : ∀ {i : Nat}, i < b.length → ∃ x y, a[i]? = some x ∧ y ∈ b ∧ F x y := by
  induction h with
  | nil => intro i hi; exact absurd hi (Nat.not_lt_zero _)
  | @cons x y _ _ q _ ih =>
    intro i hi
    cases i with
    | zero => exact ⟨x, y, rfl, List.mem_cons_self, q⟩
    | succ i =>
      obtain ⟨x', y', h1, h2, h3⟩ := ih (i := i) (by rw [List.length_cons] at hi; omega)
      exact ⟨x', y', h1, List.mem_cons_of_mem _ h2, h3⟩
end Fp

/-! tuple(list), its object known; dict(that tuple of pairs). -/
namespace Fp
open PySem L2 PyProof.Rows
section
variable {X : Cx}
/-- tuple(list): a tuple without a dict -/
def rTupleZ (K : PySem.W.Frag) : List V → Hp → VK → Prop := fun xs H Q => ∃ p ys, xs = [V.ref p] ∧ SqL K H p ys ∧ ∀ l (o : Obj), H l = none → o.dict = none → Q (.ref l) (upd H l (.frz o (.tup ys)))
theorem call_tupleZ : CallR X (.type "tuple") (rTupleZ X.K) := by
  intro pins s σ H xs us Q I r h
  obtain ⟨p, ys, rfl, hq, q⟩ := h
  obtain ⟨u, rfl, rx⟩ := vals1 r
  cases rx
  obtain ⟨its, r', pl, hz⟩ := I.list hq
  have hlen := r'.length
  refine PySem.call_tuple_list pl.isList (fun h' kp => ?_) (by simp only [List.size_toArray] <;> omega)
  have I1 : Inv X pins σ H { s with heap := h' } := I.kept (t' := s.toks) kp
  have I2 : Inv X pins σ (upd H h'.objs.size (.frz { cls := .type "tuple", data := .seq its.toArray } (.tup ys))) { s with heap := h'.push { cls := .type "tuple", data := .seq its.toArray } } :=
    I1.laid (t' := s.toks) (fun b o e => Heap.get?_push_of_some _ e) (Nat.le_refl _) (show ObjOk X.prog X.w _ _ _ (.frz _ (.tup ys)) from ⟨Heap.get?_push_size _ rfl, hz, its, r', IsTup.new _ _⟩)
  exact ⟨.ref h'.objs.size, _, I2, rfl, q _ _ (I1.hok.fresh (Nat.le_refl _)) rfl⟩
theorem pairs_ofV {pins : List (Addr × Obj)} {σ : L2.St} {H : Hp} {s : Shared} (I : Inv X pins σ H s) : ∀ {ps : List Addr} {kvs : List (Key × V)}, Paired (fun p kv => SqT X.K H p [kV kv.1, kv.2]) ps kvs →
    ∃ (prs : List (Key × Value)) (ws : List (Value × Value)), KV kvs prs ∧ prs.length = ps.length ∧ ws.length = ps.length ∧ ∀ (j : Nat) (k v : Value), ws[j]? = some (k, v) → ∃ (b : Addr) (key : Key), ps[j]? = some b ∧ IsTup s.heap b #[k, v] ∧ prs[j]? = some (key, v) ∧ (mixKind X.prog X.w).is key k = true
  | _, _, .nil => ⟨[], [], .nil, rfl, rfl, fun j k v e => by simp at e⟩
  | _, _, .cons (a := p) (b := kv) h t => by
    obtain ⟨prs, ws, r, hl, hl2, hp⟩ := pairs_ofV I t
    obtain ⟨its, rv, ht, _⟩ := I.tuple h
    obtain ⟨u, y, ei, ru, ry⟩ := vals2 rv
    subst ei
    refine ⟨(kv.1, y) :: prs, (u, y) :: ws, .cons ⟨rfl, ry⟩ r, by rw [List.length_cons, List.length_cons, hl], by rw [List.length_cons, List.length_cons, hl2], fun j k v e => ?_⟩
    cases j with
    | zero =>
      have e' : (u, y) = (k, v) := Option.some.inj e
      cases e'
      exact ⟨p, kv.1, rfl, ht, rfl, kV_is (P := X.prog) (w := X.w) ru⟩
    | succ j =>
      obtain ⟨b, key, e1, e2, e3, e4⟩ := hp j k v (by simpa using e)
      exact ⟨b, key, by simpa using e1, e2, by simpa using e3, e4⟩
def rDictT (K : PySem.W.Frag) : List V → Hp → VK → Prop := fun xs H Q => ∃ (a : Addr) (o : Obj) (ps : List Addr) (kvs : List (Key × V)), xs = [.ref a] ∧ H a = some (.frz o (.tup (ps.map V.ref))) ∧ o.dict = none ∧ Paired (fun p kv => SqT K H p [kV kv.1, kv.2]) ps kvs ∧
    ∀ p, H p = none → Q (.ref p) (upd H p (.dK (mergeK [] kvs)))
theorem call_dictT (hcalm : X.calm = true) : CallR X (.type "dict") (rDictT X.K) := by
  intro pins s σ H xs us Q I r q
  obtain ⟨a, o, ps, kvs, ex, ha, hod, hp, q⟩ := q
  subst ex
  obtain ⟨u, eu, rx⟩ := vals1 r
  subst eu
  cases rx
  obtain ⟨hg, hz, its, rv, o', ho', hc, n, hdat⟩ := (show ObjOk X.prog X.w H s.heap a (.frz o (.tup (ps.map V.ref))) from I.hok a _ ha)
  rw [hg] at ho'
  cases ho'
  have ei := refs_at rv
  subst ei
  rw [List.length_map] at hz
  obtain ⟨prs, ws, rel, hl, hl2, hpr⟩ := pairs_ofV I hp
  have ok : PlainSeq "tuple" s.heap a (ps.map Value.ref).toArray ∧ PairItems s.heap (ps.map Value.ref).toArray (fun j => ps.getD j 0) ws := by
    refine ⟨⟨o, n, hg, hc, hod, hdat⟩, by simp [hl2], fun j k v e => ?_⟩
    obtain ⟨b, key, e1, e2, e3, e4⟩ := hpr j k v e
    refine ⟨by simp [e1, List.getD], .inl ?_⟩
    have : ps.getD j 0 = b := by simp [List.getD, e1]
    show s.heap.IsTuple (ps.getD j 0) #[k, v]
    rw [this]
    obtain ⟨ob, h1, h2, n2, h3⟩ := e2
    exact ⟨ob, h1, h2, n2, h3⟩
  refine call_dict_pairs (knd := mixKind X.prog X.w) (kvs := prs) (PairArg.tuple a (ps.map Value.ref).toArray (fun j => ps.getD j 0) ws) (I.ok.hd hcalm) ok ⟨by rw [hl, hl2], fun i key v e => ?_⟩ (by rw [hl2]; exact hz) fun h' tk hd' k => ?_
  · obtain ⟨b, key', e1, e2, e3, e4⟩ := hpr i key v e
    exact ⟨key', e3, e4⟩
  · have hm : (s.heap.objs.size == sysModules) = false := beq_eq_false_iff_ne.mpr (Nat.ne_of_gt I.big)
    have hlen : (mergeK [] kvs).length ≤ sizeLine := by
      refine Nat.le_trans (length_mergeK kvs []) ?_
      rw [List.length_nil, Nat.zero_add, rel.length, hl]
      exact hz
    exact ⟨.ref s.heap.objs.size, upd H s.heap.objs.size (.dK (mergeK [] kvs)), I.laid (t' := tk) (fun b u e => k b u (fun h => nomatch h) e) (Nat.le_refl _) (show ObjOk X.prog X.w _ _ _ (.dK (mergeK [] kvs)) from ⟨hlen, hm, merged [] prs, KV.merge rel .nil, hd'⟩), rfl, q _ (I.hok.fresh (Nat.le_refl _))⟩
end
end Fp

/-! Own errors without a message. -/
namespace Fp
open PySem L2 PyProof.Rows
section
variable {X : Cx} {C : Addr} {bmB : List Value} {B newId initId : String}
/-- X() -/
theorem pmk_own0 {x : Str} {p pos : Pos} (F : ExcBaseFacts B newId initId bmB) (q : PySem.W.excIn X.K C bmB newId = true) (gC : X.mg x = some (.ref C)) (kC : PySem.W.keepIn X.K (.ref C) = true) (r : Raises X (.ref C)) (hg : Gl X x)
    (hdb : (x == ("__debug__" : Str)) = false := by decide) : PMk X (.Call (.Name x p) [] [] pos) (fun _ H Q => Q (.ref C) none H) := by
  intro pins s σ H Q I h
  refine wpAny_Call_Name_kw (ld_glob I hg gC ?_ hdb)
  refine PySem.W.callWith_K0 I.kIn kC ?_
  show wpAny _ _ (call (.ref C) []) _ _ _
  obtain ⟨bm, N, nm, qn, bs, hdct, sn, sub, ab, col, dd, k0, k1, k2, k3, k5, mN, hC, hN, hni, T⟩ := exc_obj I.kIn q
  refine wpAny_call_exc_subT F T hC hN hni (fun h' e hm => ?_) (Nat.zero_le _)
  exact mk_of I hm r h (I.hok.gone hm.new)
/-- an own error's class: the facts -/
structure ErrC (K : PySem.W.Frag) (mg : Str → Option Value) (nm : Str) (C : Addr) : Prop where
  g : mg nm = some (.ref C)
  q : PySem.W.excIn K C [.type "ValueError", .type "Exception", .type "BaseException", .type "object"] "ValueError.__new__" = true
  k : PySem.W.keepIn K (.ref C) = true
  b : PySem.W.subIn K (.ref C) (.type "BaseException") = some true
  t : PySem.W.typeIn K (.ref C) = some (.type "type")
theorem ps_err {W : WX} {x : Str} {p pos pos' : Pos} (hc : X.calm = true) (tk : Takes X W) (D : ErrC X.K X.mg x C) (hg : Gl X x) (hdb : (x == ("__debug__" : Str)) = false := by decide) :
    PS X (.Raise (some (.Call (.Name x p) [] [] pos)) none pos') (fun _ σ H => W (.ref C) none σ H) :=
  L2.ps_raise hc tk (pmk_own0 PySem.F.excBase_ValueError D.q D.g D.k (raises_own D.b D.t) hg hdb)
/-- a def that raises: called where the error is let out or caught -/
theorem pe_callDX {W : WX} {k : Nat} {ps : List Str} {sp : Sp} {x : Str} {p pos : Pos} {e : Expr} {es : List Expr} {t : TA} (D : DefOk X.prog X.w X.K X.mg X.base (L2.CX X.prog X.w) k x ps sp) (hr : Room k X.A) (hg : Gl X x) (tk : Takes X W) (ha : PA X (e :: es) t)
    (hdb : (x == ("__debug__" : Str)) = false := by decide) (he : starEach (e :: es) X.env = (false, eval e X.env) :: starEach es X.env := by rfl) (hpl : (backTo pos (starEach es X.env)).any (·.1) = false := by rfl) :
    PE X (.Call (.Name x p) (e :: es) [] pos) (tCallS sp (WE W) t) := by
  obtain ⟨f, fd, hm, hk, hb, F⟩ := D.ex
  exact pe_callS F hr hg hm hk hb (fun σ => passAt tk σ) ha hdb he hpl
theorem g_callS {sp : Sp} {E : L2.St → XK} {tA : TA} {σ : L2.St} {H : Hp} {Q : VK} (h : tA σ H fun vs H1 => sp vs H1 Q (E σ)) : tCallS sp E tA σ H Q := h
/-- a list or a tuple -/
def iSeq (K : PySem.W.Frag) (te : TE) : TI := fun σ H R => iList K te σ H R ∨ iTup K te σ H R
theorem pi_seq {tg l : Expr} {tl : TE} (hl : PE X l tl) : PI X tg l (iSeq X.K tl) := ⟨fun pins s σ H R I q => q.elim ((pi_list hl).run pins s σ H R I) ((pi_tup hl).run pins s σ H R I)⟩
theorem pi_seqK {K : PySem.W.Frag} (hK : X.K = K) {tg l : Expr} {tl : TE} (hl : PE X l tl) : PI X tg l (iSeq K tl) := hK ▸ pi_seq hl
theorem pe_fldK {K : PySem.W.Frag} (hK : X.K = K) {e : Expr} {f : Str} {pos : Pos} {ta : TE} (he : PE X e ta) (hb : attributeBase e f X.env (eval e X.env) = eval e X.env) : PE X (.Attribute e f pos) (tFld K ta f) := hK ▸ pe_fld he hb
end
end Fp

namespace Fp
open PySem L2
def top (i : Nat) : Stmt := PySem.Challenge.pw_frontparts_k72_beginnings_refused.main.body.getD i (.Pass ⟨0, 0, 0, 0⟩)
abbrev s_BadBag_init : Stmt := inClass (top 2) 0
abbrev N_BadBag_init : List Str := ["self", "part"]
theorem st_BadBag_init : ∀ v0 v1 : V, start N_BadBag_init [v0, v1] = [some v0, some v1] := fun _ _ => rfl
abbrev s_is_integer : Stmt := top 11
abbrev N_is_integer : List Str := ["thing"]
theorem st_is_integer : ∀ v0 : V, start N_is_integer [v0] = [some v0] := fun _ => rfl
theorem sc_is_integer : FnScope N_is_integer ["thing"] (defScope s_is_integer) := ⟨rfl, rfl, rfl, by decide +kernel, rfl, by decide +kernel, by decide +kernel⟩
abbrev s_is_within : Stmt := top 12
abbrev N_is_within : List Str := ["thing", "least", "most"]
theorem st_is_within : ∀ v0 v1 v2 : V, start N_is_within [v0, v1, v2] = [some v0, some v1, some v2] := fun _ _ _ => rfl
theorem sc_is_within : FnScope N_is_within ["thing", "least", "most"] (defScope s_is_within) := ⟨rfl, rfl, rfl, by decide +kernel, rfl, by decide +kernel, by decide +kernel⟩
abbrev s_is_clock : Stmt := top 13
abbrev N_is_clock : List Str := ["thing"]
theorem st_is_clock : ∀ v0 : V, start N_is_clock [v0] = [some v0] := fun _ => rfl
theorem sc_is_clock : FnScope N_is_clock ["thing"] (defScope s_is_clock) := ⟨rfl, rfl, rfl, by decide +kernel, rfl, by decide +kernel, by decide +kernel⟩
abbrev s_is_word : Stmt := top 14
abbrev N_is_word : List Str := ["thing", "letter"]
theorem st_is_word : ∀ v0 : V, start N_is_word [v0] = [some v0, none] := fun _ => rfl
theorem sc_is_word : FnScope N_is_word ["thing"] (defScope s_is_word) := ⟨rfl, rfl, rfl, by decide +kernel, rfl, by decide +kernel, by decide +kernel⟩
abbrev s_is_short_word : Stmt := top 15
abbrev N_is_short_word : List Str := ["thing"]
theorem st_is_short_word : ∀ v0 : V, start N_is_short_word [v0] = [some v0] := fun _ => rfl
theorem sc_is_short_word : FnScope N_is_short_word ["thing"] (defScope s_is_short_word) := ⟨rfl, rfl, rfl, by decide +kernel, rfl, by decide +kernel, by decide +kernel⟩
abbrev s_check_number : Stmt := top 16
abbrev N_check_number : List Str := ["thing", "least", "most"]
theorem st_check_number : ∀ v0 v1 v2 : V, start N_check_number [v0, v1, v2] = [some v0, some v1, some v2] := fun _ _ _ => rfl
theorem sc_check_number : FnScope N_check_number ["thing", "least", "most"] (defScope s_check_number) := ⟨rfl, rfl, rfl, by decide +kernel, rfl, by decide +kernel, by decide +kernel⟩
abbrev s_ahead_key : Stmt := top 18
abbrev N_ahead_key : List Str := ["word"]
theorem st_ahead_key : ∀ v0 : V, start N_ahead_key [v0] = [some v0] := fun _ => rfl
theorem sc_ahead_key : FnScope N_ahead_key ["word"] (defScope s_ahead_key) := ⟨rfl, rfl, rfl, by decide +kernel, rfl, by decide +kernel, by decide +kernel⟩
abbrev s_words_in_order : Stmt := top 19
abbrev N_words_in_order : List Str := ["sparse"]
theorem st_words_in_order : ∀ v0 : V, start N_words_in_order [v0] = [some v0] := fun _ => rfl
theorem sc_words_in_order : FnScope N_words_in_order ["sparse"] (defScope s_words_in_order) := ⟨rfl, rfl, rfl, by decide +kernel, rfl, by decide +kernel, by decide +kernel⟩
abbrev s_are_words : Stmt := top 21
abbrev N_are_words : List Str := ["clock", "thing", "word"]
theorem st_are_words : ∀ v0 v1 : V, start N_are_words [v0, v1] = [some v0, some v1, none] := fun _ _ => rfl
theorem sc_are_words : FnScope N_are_words ["clock", "thing"] (defScope s_are_words) := ⟨rfl, rfl, rfl, by decide +kernel, rfl, by decide +kernel, by decide +kernel⟩
abbrev s_Bag_init : Stmt := inClass (top 22) 0
abbrev N_Bag_init : List Str := ["self", "clock", "words"]
theorem st_Bag_init : ∀ v0 v1 v2 : V, start N_Bag_init [v0, v1, v2] = [some v0, some v1, some v2] := fun _ _ _ => rfl
theorem sc_Bag_init : FnScope N_Bag_init ["self", "clock", "words"] (defScope s_Bag_init) := ⟨rfl, rfl, rfl, by decide +kernel, rfl, by decide +kernel, by decide +kernel⟩
abbrev s_Bag_keep : Stmt := inClass (top 22) 1
abbrev N_Bag_keep : List Str := ["self", "clock", "sparse", "word"]
theorem st_Bag_keep : ∀ v0 v1 v2 : V, start N_Bag_keep [v0, v1, v2] = [some v0, some v1, some v2, none] := fun _ _ _ => rfl
theorem sc_Bag_keep : FnScope N_Bag_keep ["self", "clock", "sparse"] (defScope s_Bag_keep) := ⟨rfl, rfl, rfl, by decide +kernel, rfl, by decide +kernel, by decide +kernel⟩
abbrev s_Bag_eq : Stmt := inClass (top 22) 2
abbrev N_Bag_eq : List Str := ["self", "other"]
theorem st_Bag_eq : ∀ v0 v1 : V, start N_Bag_eq [v0, v1] = [some v0, some v1] := fun _ _ => rfl
theorem sc_Bag_eq : FnScope N_Bag_eq ["self", "other"] (defScope s_Bag_eq) := ⟨rfl, rfl, rfl, by decide +kernel, rfl, by decide +kernel, by decide +kernel⟩
abbrev s_RawBag_init : Stmt := inClass (top 23) 0
abbrev N_RawBag_init : List Str := ["self", "clock", "sparse"]
theorem st_RawBag_init : ∀ v0 v1 v2 : V, start N_RawBag_init [v0, v1, v2] = [some v0, some v1, some v2] := fun _ _ _ => rfl
theorem sc_RawBag_init : FnScope N_RawBag_init ["self", "clock", "sparse"] (defScope s_RawBag_init) := ⟨rfl, rfl, rfl, by decide +kernel, rfl, by decide +kernel, by decide +kernel⟩
abbrev s_raw : Stmt := top 24
abbrev N_raw : List Str := ["clock", "sparse"]
theorem st_raw : ∀ v0 v1 : V, start N_raw [v0, v1] = [some v0, some v1] := fun _ _ => rfl
theorem sc_raw : FnScope N_raw ["clock", "sparse"] (defScope s_raw) := ⟨rfl, rfl, rfl, by decide +kernel, rfl, by decide +kernel, by decide +kernel⟩
abbrev s_check_alphabet : Stmt := top 27
abbrev N_check_alphabet : List Str := ["thing"]
theorem st_check_alphabet : ∀ v0 : V, start N_check_alphabet [v0] = [some v0] := fun _ => rfl
theorem sc_check_alphabet : FnScope N_check_alphabet ["thing"] (defScope s_check_alphabet) := ⟨rfl, rfl, rfl, by decide +kernel, rfl, by decide +kernel, by decide +kernel⟩
abbrev s_is_over : Stmt := top 28
abbrev N_is_over : List Str := ["alphabet", "bag", "word", "letter"]
theorem st_is_over : ∀ v0 v1 : V, start N_is_over [v0, v1] = [some v0, some v1, none, none] := fun _ _ => rfl
theorem sc_is_over : FnScope N_is_over ["alphabet", "bag"] (defScope s_is_over) := ⟨rfl, rfl, rfl, by decide +kernel, rfl, by decide +kernel, by decide +kernel⟩
abbrev s_check_over : Stmt := top 29
abbrev N_check_over : List Str := ["alphabet", "bag"]
theorem st_check_over : ∀ v0 v1 : V, start N_check_over [v0, v1] = [some v0, some v1] := fun _ _ => rfl
theorem sc_check_over : FnScope N_check_over ["alphabet", "bag"] (defScope s_check_over) := ⟨rfl, rfl, rfl, by decide +kernel, rfl, by decide +kernel, by decide +kernel⟩
abbrev s_sums_at_starts : Stmt := top 30
abbrev N_sums_at_starts : List Str := ["bag", "starts", "word", "size", "found"]
theorem st_sums_at_starts : ∀ v0 : V, start N_sums_at_starts [v0] = [some v0, none, none, none, none] := fun _ => rfl
theorem sc_sums_at_starts : FnScope N_sums_at_starts ["bag"] (defScope s_sums_at_starts) := ⟨rfl, rfl, rfl, by decide +kernel, rfl, by decide +kernel, by decide +kernel⟩
abbrev s_comes_to_one : Stmt := top 31
abbrev N_comes_to_one : List Str := ["alphabet", "sums", "word", "letter"]
theorem st_comes_to_one : ∀ v0 v1 : V, start N_comes_to_one [v0, v1] = [some v0, some v1, none, none] := fun _ _ => rfl
theorem sc_comes_to_one : FnScope N_comes_to_one ["alphabet", "sums"] (defScope s_comes_to_one) := ⟨rfl, rfl, rfl, by decide +kernel, rfl, by decide +kernel, by decide +kernel⟩
abbrev s_is_full : Stmt := top 32
abbrev N_is_full : List Str := ["alphabet", "thing"]
theorem st_is_full : ∀ v0 v1 : V, start N_is_full [v0, v1] = [some v0, some v1] := fun _ _ => rfl
theorem sc_is_full : FnScope N_is_full ["alphabet", "thing"] (defScope s_is_full) := ⟨rfl, rfl, rfl, by decide +kernel, rfl, by decide +kernel, by decide +kernel⟩
abbrev s_beginnings : Stmt := top 33
abbrev N_beginnings : List Str := ["alphabet", "bag", "sums", "word"]
theorem st_beginnings : ∀ v0 v1 : V, start N_beginnings [v0, v1] = [some v0, some v1, none, none] := fun _ _ => rfl
theorem sc_beginnings : FnScope N_beginnings ["alphabet", "bag"] (defScope s_beginnings) := ⟨rfl, rfl, rfl, by decide +kernel, rfl, by decide +kernel, by decide +kernel⟩
abbrev s_least_unmet : Stmt := top 34
abbrev N_least_unmet : List Str := ["alphabet", "sums", "word", "most", "letter", "longer", "found"]
theorem st_least_unmet : ∀ v0 v1 v2 v3 : V, start N_least_unmet [v0, v1, v2, v3] = [some v0, some v1, some v2, some v3, none, none, none] := fun _ _ _ _ => rfl
theorem sc_least_unmet : FnScope N_least_unmet ["alphabet", "sums", "word", "most"] (defScope s_least_unmet) := ⟨rfl, rfl, rfl, by decide +kernel, rfl, by decide +kernel, by decide +kernel⟩
abbrev s_unmet : Stmt := top 35
abbrev N_unmet : List Str := ["alphabet", "bag", "most"]
theorem st_unmet : ∀ v0 v1 v2 : V, start N_unmet [v0, v1, v2] = [some v0, some v1, some v2] := fun _ _ _ => rfl
theorem sc_unmet : FnScope N_unmet ["alphabet", "bag", "most"] (defScope s_unmet) := ⟨rfl, rfl, rfl, by decide +kernel, rfl, by decide +kernel, by decide +kernel⟩
abbrev s_law_tape : Stmt := top 37
abbrev N_law_tape : List Str := ["_law_script"]
theorem st_law_tape : ∀ v0 : V, start N_law_tape [v0] = [some v0] := fun _ => rfl
theorem sc_law_tape : FnScope N_law_tape ["_law_script"] (defScope s_law_tape) := ⟨rfl, rfl, rfl, by decide +kernel, rfl, by decide +kernel, by decide +kernel⟩
abbrev s_law_draw : Stmt := top 38
abbrev N_law_draw : List Str := ["_law_tape_here", "_law_many", "_law_cell", "_law_digit", "_law_mixed"]
theorem st_law_draw : ∀ v0 v1 : V, start N_law_draw [v0, v1] = [some v0, some v1, none, none, none] := fun _ _ => rfl
theorem sc_law_draw : FnScope N_law_draw ["_law_tape_here", "_law_many"] (defScope s_law_draw) := ⟨rfl, rfl, rfl, by decide +kernel, rfl, by decide +kernel, by decide +kernel⟩
abbrev s_law_clock : Stmt := top 39
abbrev N_law_clock : List Str := ["_law_tape_here"]
theorem st_law_clock : ∀ v0 : V, start N_law_clock [v0] = [some v0] := fun _ => rfl
theorem sc_law_clock : FnScope N_law_clock ["_law_tape_here"] (defScope s_law_clock) := ⟨rfl, rfl, rfl, by decide +kernel, rfl, by decide +kernel, by decide +kernel⟩
abbrev s_law_word : Stmt := top 40
abbrev N_law_word : List Str := ["_law_tape_here", "_law_letters", "_law_most", "_law_k"]
theorem st_law_word : ∀ v0 v1 v2 : V, start N_law_word [v0, v1, v2] = [some v0, some v1, some v2, none] := fun _ _ _ => rfl
theorem sc_law_word : FnScope N_law_word ["_law_tape_here", "_law_letters", "_law_most"] (defScope s_law_word) := ⟨rfl, rfl, rfl, by decide +kernel, rfl, by decide +kernel, by decide +kernel⟩
abbrev s_law_some : Stmt := top 41
abbrev N_law_some : List Str := ["_law_tape_here", "_law_clock_here", "_law_letters", "_law_most", "_law_many", "_law_found", "_law_k"]
theorem st_law_some : ∀ v0 v1 v2 v3 v4 : V, start N_law_some [v0, v1, v2, v3, v4] = [some v0, some v1, some v2, some v3, some v4, none, none] := fun _ _ _ _ _ => rfl
theorem sc_law_some : FnScope N_law_some ["_law_tape_here", "_law_clock_here", "_law_letters", "_law_most", "_law_many"] (defScope s_law_some) := ⟨rfl, rfl, rfl, by decide +kernel, rfl, by decide +kernel, by decide +kernel⟩
abbrev s_law_alphabet : Stmt := top 42
abbrev N_law_alphabet : List Str := ["_law_tape_here", "_law_things"]
theorem st_law_alphabet : ∀ v0 : V, start N_law_alphabet [v0] = [some v0, none] := fun _ => rfl
theorem sc_law_alphabet : FnScope N_law_alphabet ["_law_tape_here"] (defScope s_law_alphabet) := ⟨rfl, rfl, rfl, by decide +kernel, rfl, by decide +kernel, by decide +kernel⟩
abbrev s_law_thing : Stmt := top 43
abbrev N_law_thing : List Str := ["_law_tape_here", "_law_deep", "_law_k", "_law_things"]
theorem st_law_thing : ∀ v0 : V, start N_law_thing [v0] = [some v0, none, none, none] := fun _ => rfl
theorem sc_law_thing : FnScope N_law_thing ["_law_tape_here"] (defScope s_law_thing) := ⟨rfl, rfl, rfl, by decide +kernel, rfl, by decide +kernel, by decide +kernel⟩
abbrev s_law_letters_of : Stmt := top 44
abbrev N_law_letters_of : List Str := ["_law_bag", "_law_pair"]
theorem st_law_letters_of : ∀ v0 : V, start N_law_letters_of [v0] = [some v0, none] := fun _ => rfl
theorem sc_law_letters_of : FnScope N_law_letters_of ["_law_bag"] (defScope s_law_letters_of) := ⟨rfl, rfl, rfl, by decide +kernel, rfl, by decide +kernel, by decide +kernel⟩
abbrev s_law_ask : Stmt := top 45
abbrev N_law_ask : List Str := ["_law_which", "_law_alphabet_here", "_law_thing_here", "_law_size", "_law_refused", "_law_told", "e"]
theorem st_law_ask : ∀ v0 v1 v2 v3 : V, start N_law_ask [v0, v1, v2, v3] = [some v0, some v1, some v2, some v3, none, none, none] := fun _ _ _ _ => rfl
theorem sc_law_ask : FnScope N_law_ask ["_law_which", "_law_alphabet_here", "_law_thing_here", "_law_size"] (defScope s_law_ask) := ⟨rfl, rfl, rfl, by decide +kernel, rfl, by decide +kernel, by decide +kernel⟩
abbrev s_law_due : Stmt := top 46
abbrev N_law_due : List Str := ["_law_which", "_law_alphabet_here", "_law_thing_here", "_law_size", "_law_letter"]
theorem st_law_due : ∀ v0 v1 v2 v3 : V, start N_law_due [v0, v1, v2, v3] = [some v0, some v1, some v2, some v3, none] := fun _ _ _ _ => rfl
theorem sc_law_due : FnScope N_law_due ["_law_which", "_law_alphabet_here", "_law_thing_here", "_law_size"] (defScope s_law_due) := ⟨rfl, rfl, rfl, by decide +kernel, rfl, by decide +kernel, by decide +kernel⟩
abbrev s_law_question : Stmt := top 47
abbrev N_law_question : List Str := ["_law_tape_here", "_law_which", "_law_alphabet_here", "_law_thing_here", "_law_sizes", "_law_size", "_law_refused", "_law_told", "_law_due_here", "_law_right", "_law_letter"]
theorem st_law_question : ∀ v0 : V, start N_law_question [v0] = [some v0, none, none, none, none, none, none, none, none, none, none] := fun _ => rfl
theorem sc_law_question : FnScope N_law_question ["_law_tape_here"] (defScope s_law_question) := ⟨rfl, rfl, rfl, by decide +kernel, rfl, by decide +kernel, by decide +kernel⟩
abbrev s_law : Stmt := top 48
abbrev N_law : List Str := ["_law_script", "_law_tape_here", "_law_turn"]
theorem st_law : ∀ v0 : V, start N_law [v0] = [some v0, none, none] := fun _ => rfl
theorem sc_law : FnScope N_law ["_law_script"] (defScope s_law) := ⟨rfl, rfl, rfl, by decide +kernel, rfl, by decide +kernel, by decide +kernel⟩
local macro_rules | `(tactic| walk_at "hp") => `(tactic| first | assumption | rfl)
local macro_rules | `(tactic| walk_at "cond") => `(tactic| first | assumption | decide | omega | (unfold CMul; omega) | (refine ⟨?_, ?_⟩ <;> omega) | (unfold CDiv; omega) | (unfold CPow; omega))
local macro_rules | `(tactic| walk_at "g1") => `(tactic| first
  | with_reducible first
    | refine g_seq ?_ | refine g_asg ?_ | refine g_name ?_ | refine g_ret ?_ | refine g_retN ?_ | refine g_drop ?_ | refine g_ifs ?_
    | refine g_c ?_ | refine g_op ?_ | refine g_un ?_ | refine g_I0 ?_ | refine g_U ?_
    | refine g_test ?_ | refine g_tB ?_ | refine g_bl ?_ | refine g_and ?_ | refine g_or ?_ | refine g_not ?_
    | refine g_andV ?_ | refine g_orV ?_ | refine g_notV ?_ | refine g_if ?_ | refine g_nil ?_ | refine g_cons ?_ | refine g_cb ?_ | refine g_call ?_
    | refine g_lst ?_ | refine g_tup ?_ | refine g_itT ?_ | refine g_itF ?_ | refine g_itNT ?_ | refine g_itNF ?_ | refine g_lc ?_ | refine g_iStr ?_ | refine g_yes ?_ | refine g_exs ?_
    | refine g_chain ?_ | refine g_dget ?_ | refine g_dput ?_ | refine g_dget2 ?_ | refine g_dpop2 ?_ | refine g_fld ?_ | refine g_sfld ?_ | refine g_make ?_ | refine g_meth ?_
    | refine g_bm ?_ | refine g_kw ?_ | refine g_callS ?_ | refine g_revL ?_ | refine g_m1 ?_ | refine g_gsub ?_ | refine g_for ?_ | refine g_iList ?_ | refine g_iTup ?_ | refine g_iRng1 ?_ | refine g_iRng2 ?_ | refine g_sl ?_ | refine g_part ?_ | refine g_noPart ?_
    | refine g_exi ?_ | refine g_exr ?_ | refine g_dnew ?_ | refine g_disp ?_ | refine g_prs0 ?_ | refine g_prs ?_ | refine g_nxt ?_
  | ((with_reducible refine g_var (v := ?vv) ?gv ?_); (case gv => exact rfl))
  | ((with_reducible refine g_I ?gc ?_); (case gc => walk_at "cond"))
  | ((with_reducible refine g_eq ?ge ?_); (case ge => exact rfl))
  | ((with_reducible refine g_ne ?ge ?_); (case ge => exact rfl))
  | (refine g_ixl (SqL.of (by first | assumption | exact upd_same)) rfl ?_)
  | (refine g_setl (by first | assumption | exact upd_same) rfl ?_)
  | ((with_reducible show (∃ i, [V.int _] = [V.int i] ∧ _) ∨ _); refine Or.inl ⟨_, rfl, ?_⟩)
  | ((with_reducible show ∃ i, [V.int _] = [V.int i] ∧ _); refine ⟨_, rfl, ?_⟩)
  | dsimp only)
local macro_rules | `(tactic| walk_at "go") => `(tactic| repeat (walk_at "g1"))

/-! ### what stands in the module -/
structure Blt (mg : Str → Option Value) : Prop where
  b_isinstance : mg "isinstance" = none
  b_int : mg "int" = none
  b_bool : mg "bool" = none
  b_str : mg "str" = none
  b_dict : mg "dict" = none
  b_list : mg "list" = none
  b_tuple : mg "tuple" = none
  b_len : mg "len" = none
  b_abs : mg "abs" = none
  b_all : mg "all" = none
  b_any : mg "any" = none
  b_max : mg "max" = none
  b_min : mg "min" = none
  b_range : mg "range" = none
  b_sorted : mg "sorted" = none
  b_sum : mg "sum" = none
  b_zip : mg "zip" = none
  b_enumerate : mg "enumerate" = none
  b_repr : mg "repr" = none
  b_set : mg "set" = none
structure Txt (K : PySem.W.Frag) (mg : Str → Option Value) (C_Bag : Addr) (Cs : Addr → Prop) : Prop extends Blt mg where
  g_LETTERS : ∃ t, mg "LETTERS" = some (.str "xyz" t)
  g_MOST_LETTERS : ∃ t, mg "MOST_LETTERS" = some (.int 12 t)
  g_MOST_WORDS : ∃ t, mg "MOST_WORDS" = some (.int 300 t)
  g_CLOCKS : ∃ a, mg "CLOCKS" = some (.ref a) ∧ SqT K (fun _ => none) a [.int 2, .int 3, .int 5, .int 7]
  c_Bag : mg "Bag" = some (.ref C_Bag)
  cls : ∀ C, Cs C → Cls K C
  n_clock : ∀ C, Cs C → NoAttr K C "clock"
  n_sparse : ∀ C, Cs C → NoAttr K C "sparse"
  n_kept : ∀ C, Cs C → NoAttr K C "kept"
  n_words : ∀ C, Cs C → NoAttr K C "words"
  c_class : ∀ C, Cs C → PySem.W.findIn K (.ref C) "__class__" = some (some (.builtin "object.__class__"))
  c_get : PySem.W.specialIn K (.builtin "object.__class__") "__get__" = some (some (.builtin "getset_descriptor.__get__"))
  c_takes : PySem.W.takesIn K (.builtin "object.__class__") = some true
  c_obj : ∀ C, Cs C → PySem.W.mroIn K C (.type "object") = some true
  c_isB : ∀ C, Cs C → PySem.W.kitOne K (.ref C) (.ref C_Bag) = some true
  c_base : Cs C_Bag
  c_pl : ∀ C, Cs C → ∀ t ∈ (["NoneType", "bool", "int", "str", "list", "tuple", "dict"] : List String), PySem.W.notFirst K C (.type t) = true
  c_two : ∀ C D, Cs C → Cs D → PySem.W.notFirst K C (.ref D) = true ∨ (D ≠ C ∧ PySem.W.subIn K (.ref D) (.ref C) = some true)
  c_nb : ∀ t ∈ (["NoneType", "bool", "int", "str", "list", "tuple", "dict"] : List String), PySem.W.kitOne K (.type t) (.ref C_Bag) = some false
section
variable {P : Program} {w : World} {K : PySem.W.Frag} {mg : Str → Option Value} {base : Heap} {C_Bag : Addr} {Cs : Addr → Prop}
theorem g_isi {x : V} {n : String} {t : Value} {b : Bool} {H : Hp} {Q : VK} (ht : TyX K H x t) (hk : PySem.W.kitOne K t (.type n) = some b) (h : Q (.bl b) H) : rIsi K [x, .ty n] H Q := ⟨x, .ty n, t, _, b, rfl, .ty n, ht, hk, h⟩
theorem g_isC {x : V} {C : Addr} {t : Value} {b : Bool} {H : Hp} {Q : VK} (ht : TyX K H x t) (hk : PySem.W.kitOne K t (.ref C) = some b) (h : Q (.bl b) H) : rIsi K [x, .ref C] H Q := ⟨x, .ref C, t, _, b, rfl, .own C, ht, hk, h⟩
/-- the type of a bag -/
theorem bag_ty (T : Txt K mg C_Bag Cs) {H : Hp} {a C dx : Addr} {fs : List (Str × V)} (hc : Cs C) (h : H a = some (.ins C dx fs)) : TyX K H (.ref a) (.ref C) :=
  .base (.ins h (T.cls C hc) (T.c_class C hc) T.c_get T.c_takes (T.c_obj C hc))
/-! ### what things are -/
/-- an integer, or no integer -/
def IntIs (K : PySem.W.Frag) (H : Hp) (x : V) (b : Bool) : Prop := (∃ i, x = .int i ∧ b = true) ∨ (∃ c, x = .bl c ∧ b = false) ∨ (∃ t, TyX K H x t ∧ PySem.W.kitOne K t (.type "int") = some false ∧ b = false)
def WithinIs (K : PySem.W.Frag) (H : Hp) (x : V) (lo hi : Int) (b : Bool) : Prop := (∃ i, x = .int i ∧ b = (decide (lo ≤ i) && decide (i ≤ hi))) ∨ (IntIs K H x false ∧ b = false)
def ClockIs (K : PySem.W.Frag) (H : Hp) (x : V) (b : Bool) : Prop := (∃ i, x = .int i ∧ b = decide (i = 2 ∨ i = 3 ∨ i = 5 ∨ i = 7)) ∨ (IntIs K H x false ∧ b = false)
def isW (w : Str) : Bool := w.cps.toList.all fun c => decide (c ∈ ("xyz" : Str).cps.toList)
def WordIs (K : PySem.W.Frag) (H : Hp) (x : V) (b : Bool) : Prop := (∃ w : Str, x = .str w ∧ w.length ≤ 10000000 ∧ b = isW w) ∨ (∃ t, TyX K H x t ∧ PySem.W.kitOne K t (.type "str") = some false ∧ b = false)
def isSW (w : Str) : Bool := isW w && decide (w.length ≤ 12)
def ShortIs (K : PySem.W.Frag) (H : Hp) (x : V) (b : Bool) : Prop := (∃ w : Str, x = .str w ∧ w.length ≤ 10000000 ∧ b = isSW w) ∨ (∃ t, TyX K H x t ∧ PySem.W.kitOne K t (.type "str") = some false ∧ b = false)
def sp_is_integer (K : PySem.W.Frag) : Sp := fun vs H Q _ => ∃ x b, vs = [x] ∧ IntIs K H x b ∧ Q (.bl b) H
def sp_is_within (K : PySem.W.Frag) : Sp := fun vs H Q _ => ∃ x lo hi b, vs = [x, .int lo, .int hi] ∧ WithinIs K H x lo hi b ∧ Q (.bl b) H
def sp_is_clock (K : PySem.W.Frag) : Sp := fun vs H Q _ => ∃ x b, vs = [x] ∧ ClockIs K H x b ∧ Q (.bl b) H
def sp_is_word (K : PySem.W.Frag) : Sp := fun vs H Q _ => ∃ x b, vs = [x] ∧ WordIs K H x b ∧ ∀ H', Ex H H' → Q (.bl b) H'
def sp_is_short_word (K : PySem.W.Frag) : Sp := fun vs H Q _ => ∃ x b, vs = [x] ∧ ShortIs K H x b ∧ ∀ H', Ex H H' → Q (.bl b) H'
/-! ### checks -/
theorem ok_is_integer {f : Addr} {fd : FuncData} (F : Fun K "is_integer" "is_integer" s_is_integer f fd) (T : Txt K mg C_Bag Cs) : FnOk P w K mg base CX0 1 f fd ["thing"] (sp_is_integer K) := by
  refine F.ok sc_is_integer (fun vs H Q E h => ?_) (fun cdv A outer s H vs Q E hr h => ?_)
  · obtain ⟨x, b, rfl, _⟩ := h
    rfl
  · obtain ⟨x, b, rfl, hi, k⟩ := h
    have hu := hu_of hr; have hu64 := L2.Room.units hr; refine ⟨_, (pss_one (ps_ret (pe_and (pe_callB (r := rIsi K) call_isi (by rfl) T.b_isinstance (by decide +kernel) (pa_cons (pv 0) (pa_cons (pe_bltn (v := .ty "int") rfl T.b_int (by decide +kernel) rfl) pa_nil))) (pe_one (pe_not (pe_callB (r := rIsi K) call_isi (by rfl) T.b_isinstance (by decide +kernel) (pa_cons (pv 0) (pa_cons (pe_bltn (v := .ty "bool") rfl T.b_bool (by decide +kernel) rfl) pa_nil)))))))), ?_⟩; rw [st_is_integer]; (try dsimp only [cxOf]); walk_at "go"
    rcases hi with ⟨i, rfl, rfl⟩ | ⟨c, rfl, rfl⟩ | ⟨t, ht, hk, rfl⟩
    · refine g_isi (n := "int") (t := .type "int") (b := true) (.base (.int i)) (kit_ty (by decide +kernel)) ?_
      walk_at "go"
      refine g_isi (n := "bool") (t := .type "int") (b := false) (.base (.int i)) (kit_ty (by decide +kernel)) ?_
      walk_at "go"
      exact k
    · refine g_isi (n := "int") (t := .type "bool") (b := true) (.base (.bl c)) (kit_ty (by decide +kernel)) ?_
      walk_at "go"
      refine g_isi (n := "bool") (t := .type "bool") (b := true) (.base (.bl c)) (kit_ty (by decide +kernel)) ?_
      walk_at "go"
      exact k
    · refine g_isi (b := false) ht hk ?_
      walk_at "go"
      exact k
theorem ok_is_within {f : Addr} {fd : FuncData} (F : Fun K "is_within" "is_within" s_is_within f fd) (T : Txt K mg C_Bag Cs) (D_is_integer : DefOk P w K mg base CX0 1 "is_integer" ["thing"] (sp_is_integer K)) : FnOk P w K mg base CX0 2 f fd ["thing", "least", "most"] (sp_is_within K) := by
  refine F.ok sc_is_within (fun vs H Q E h => ?_) (fun cdv A outer s H vs Q E hr h => ?_)
  · obtain ⟨x, lo, hi, b, rfl, _⟩ := h
    rfl
  · obtain ⟨x, lo, hi, b, rfl, hi', k⟩ := h
    have hu := hu_of hr; have hu64 := L2.Room.units hr; refine ⟨_, (pss_one (ps_ret (pe_and (pe_callD D_is_integer (hr.mono (by decide)) rfl pass0 (pa_cons (pv 0) pa_nil)) (pe_one (pe_chain op_le op_le (pv 1) (pv 0) (pv 2)))))), ?_⟩; rw [st_is_within]; (try dsimp only [cxOf]); walk_at "go"
    rcases hi' with ⟨i, rfl, rfl⟩ | ⟨hi', rfl⟩
    · refine ⟨_, true, rfl, .inl ⟨i, rfl, rfl⟩, ?_⟩
      walk_at "go"
      by_cases h1 : lo ≤ i
      · rw [decide_eq_true h1] at k ⊢
        walk_at "go"
        exact k
      · rw [decide_eq_false h1] at k ⊢
        walk_at "go"
        exact k
    · refine ⟨_, false, rfl, hi', ?_⟩
      walk_at "go"
      exact k
theorem inV_clocks (i : Int) : inV (.int i) [.int 2, .int 3, .int 5, .int 7] = decide (i = 2 ∨ i = 3 ∨ i = 5 ∨ i = 7) := by
  rw [Bool.eq_iff_iff]
  simp [inV, eqV]
  omega
theorem ok_is_clock {f : Addr} {fd : FuncData} (F : Fun K "is_clock" "is_clock" s_is_clock f fd) (T : Txt K mg C_Bag Cs) (D_is_integer : DefOk P w K mg base CX0 1 "is_integer" ["thing"] (sp_is_integer K)) : FnOk P w K mg base CX0 2 f fd ["thing"] (sp_is_clock K) := by
  refine F.ok sc_is_clock (fun vs H Q E h => ?_) (fun cdv A outer s H vs Q E hr h => ?_)
  · obtain ⟨x, b, rfl, _⟩ := h
    rfl
  · obtain ⟨x, b, rfl, hi', k⟩ := h
    obtain ⟨a_CLOCKS, T_CLOCKS, hC⟩ := T.g_CLOCKS
    have hu := hu_of hr; have hu64 := L2.Room.units hr; refine ⟨_, (pss_one (ps_ret (pe_and (pe_callD D_is_integer (hr.mono (by decide)) rfl pass0 (pa_cons (pv 0) pa_nil)) (pe_one (pe_cmpR op_in_seq (pv 0) (pe_glob (v := .ref a_CLOCKS) rfl T_CLOCKS rfl) (by rfl)))))), ?_⟩; rw [st_is_clock]; (try dsimp only [cxOf]); walk_at "go"
    rcases hi' with ⟨i, rfl, rfl⟩ | ⟨hi', rfl⟩
    · refine ⟨_, true, rfl, .inl ⟨i, rfl, rfl⟩, ?_⟩
      walk_at "go"
      have hC' : SqT K H a_CLOCKS [.int 2, .int 3, .int 5, .int 7] := hC.elim (fun h => h.elim (fun h => nomatch h) fun ⟨_, h⟩ => nomatch h) .inr
      refine ⟨a_CLOCKS, _, rfl, .inr hC', rfl, rfl, ?_⟩
      rw [if_neg Bool.false_ne_true, inV_clocks]
      exact k
    · refine ⟨_, false, rfl, hi', ?_⟩
      walk_at "go"
      exact k
theorem ok_is_word {f : Addr} {fd : FuncData} (F : Fun K "is_word" "is_word" s_is_word f fd) (T : Txt K mg C_Bag Cs) : FnOk P w K mg base CX0 1 f fd ["thing"] (sp_is_word K) := by
  refine F.ok sc_is_word (fun vs H Q E h => ?_) (fun cdv A outer s H vs Q E hr h => ?_)
  · obtain ⟨x, b, rfl, _⟩ := h
    rfl
  · obtain ⟨x, b, rfl, hi', k⟩ := h
    obtain ⟨tL, T_LETTERS⟩ := T.g_LETTERS
    have hu := hu_of hr; have hu64 := L2.Room.units hr; refine ⟨_, (pss_one (ps_ret (pe_and (pe_callB (r := rIsi K) call_isi (by rfl) T.b_isinstance (by decide +kernel) (pa_cons (pv 0) (pa_cons (pe_bltn (v := .ty "str") rfl T.b_str (by decide +kernel) rfl) pa_nil))) (pe_one (pe_callB (r := rAll K) (cr_all rfl) (by rfl) T.b_all (by decide +kernel) (pa_cons (pe_lc (own := [("letter", 1)]) (g := (gName 1)) (tt := tYes) rfl sc_is_word.nd (pi_str (pv 0)) (blkOk_by (N := N_is_word) (sc := defScope s_is_word) (by decide +kernel)) (fun _ _ _ _ _ => (pg_name (i := 1) sc_is_word.nd rfl (by first | exact Or.inl rfl | exact Or.inr rfl))) (fun _ _ _ _ _ => pts_nil) (fun _ _ _ _ _ => (pe_cmpR op_in_sign (pv 1) (pe_glob (v := .str "xyz") rfl T_LETTERS ⟨_, rfl⟩) (by rfl)))) pa_nil)))))), ?_⟩; rw [st_is_word]; (try dsimp only [cxOf]); walk_at "go"
    rcases hi' with ⟨z, rfl, hz, rfl⟩ | ⟨t, ht, hk, rfl⟩
    · refine g_isi (n := "str") (t := .type "str") (b := true) (.base (.str z)) (kit_ty (by decide +kernel)) ?_
      walk_at "go"
      have hsz : z.cps.size ≤ sizeLine := Nat.le_trans hz (by decide)
      refine lc_pure (j := 1) walk_str (z.cps.toList.map fun c => V.bl (decide (c ∈ ("xyz" : Str).cps.toList))) (by simp) hsz (fun _ _ => trivial) (fun _ => rfl) ?_ ?_
      · rintro i x y H1 H2 Kc hi e ⟨rfl, c, hc, rfl⟩ hy hk
        walk_at "go"
        have hy' : y = V.bl (decide (c ∈ ("xyz" : Str).cps.toList)) := by
          rw [List.getElem?_map, Array.getElem?_toList, hc] at hy
          exact (Option.some.inj hy).symm
        subst hy'
        exact ⟨c, _, rfl, rfl, hk _ (Ex.refl _)⟩
      · intro D H' hD e hl
        walk_at "go"
        refine ⟨D, z.cps.toList.map fun c => decide (c ∈ ("xyz" : Str).cps.toList), rfl, SqL.of (by rw [List.map_map]; exact hl), ?_⟩
        have e2 : ((z.cps.toList.map fun c => decide (c ∈ ("xyz" : Str).cps.toList)).all id) = isW z := by
          unfold isW
          rw [List.all_map]
          rfl
        rw [e2]
        exact k _ e
    · refine g_isi (b := false) ht hk ?_
      walk_at "go"
      exact k _ (Ex.refl _)
theorem ok_is_short_word {f : Addr} {fd : FuncData} (F : Fun K "is_short_word" "is_short_word" s_is_short_word f fd) (T : Txt K mg C_Bag Cs) (D_is_word : DefOk P w K mg base CX0 1 "is_word" ["thing"] (sp_is_word K)) : FnOk P w K mg base CX0 2 f fd ["thing"] (sp_is_short_word K) := by
  refine F.ok sc_is_short_word (fun vs H Q E h => ?_) (fun cdv A outer s H vs Q E hr h => ?_)
  · obtain ⟨x, b, rfl, _⟩ := h
    rfl
  · obtain ⟨x, b, rfl, hi', k⟩ := h
    obtain ⟨tL, T_MOST_LETTERS⟩ := T.g_MOST_LETTERS
    have hu := hu_of hr; have hu64 := L2.Room.units hr; refine ⟨_, (pss_one (ps_ret (pe_and (pe_callD D_is_word (hr.mono (by decide)) rfl pass0 (pa_cons (pv 0) pa_nil)) (pe_one (pe_cmpR op_le (pe_callB call_len_str (by rfl) T.b_len (by decide +kernel) (pa_cons (pv 0) pa_nil)) (pe_glob (v := .int 12) rfl T_MOST_LETTERS ⟨_, rfl⟩) (nomark _)))))), ?_⟩; rw [st_is_short_word]; (try dsimp only [cxOf]); walk_at "go"
    rcases hi' with ⟨z, rfl, hz, rfl⟩ | ⟨t, ht, hk, rfl⟩
    · refine ⟨_, _, rfl, .inl ⟨z, rfl, hz, rfl⟩, fun H' e => ?_⟩
      walk_at "go"
      have k' := k H' e
      unfold isSW at k'
      cases hb : isW z
      · rw [hb] at k'
        walk_at "go"
        exact k'
      · rw [hb] at k'
        walk_at "go"
        refine ⟨z, rfl, Nat.le_trans hz (by decide), ?_⟩
        walk_at "go"
        have e3 : decide ((z.length : Int) ≤ 12) = decide (z.length ≤ 12) := by
          rw [Bool.eq_iff_iff]; simp; omega
        rw [e3]
        exact k'
    · refine ⟨_, _, rfl, .inr ⟨t, ht, hk, rfl⟩, fun H' e => ?_⟩
      walk_at "go"
      exact k _ e
end

end Fp

namespace Fp
open PySem L2
section
variable {P : Program} {w : World} {K : PySem.W.Frag} {mg : Str → Option Value} {base : Heap} {C_Bag : Addr} {Cs : Addr → Prop}
local macro_rules | `(tactic| walk_at "hp") => `(tactic| first | assumption | rfl)
local macro_rules | `(tactic| walk_at "cond") => `(tactic| first | assumption | decide | omega | (unfold CMul; omega) | (refine ⟨?_, ?_⟩ <;> omega) | (unfold CDiv; omega) | (unfold CPow; omega))
local macro_rules | `(tactic| walk_at "g1") => `(tactic| first
  | with_reducible first
    | refine g_seq ?_ | refine g_asg ?_ | refine g_name ?_ | refine g_ret ?_ | refine g_retN ?_ | refine g_drop ?_ | refine g_ifs ?_
    | refine g_c ?_ | refine g_op ?_ | refine g_un ?_ | refine g_I0 ?_ | refine g_U ?_
    | refine g_test ?_ | refine g_tB ?_ | refine g_bl ?_ | refine g_and ?_ | refine g_or ?_ | refine g_not ?_
    | refine g_andV ?_ | refine g_orV ?_ | refine g_notV ?_ | refine g_if ?_ | refine g_nil ?_ | refine g_cons ?_ | refine g_cb ?_ | refine g_call ?_
    | refine g_lst ?_ | refine g_tup ?_ | refine g_itT ?_ | refine g_itF ?_ | refine g_itNT ?_ | refine g_itNF ?_ | refine g_lc ?_ | refine g_iStr ?_ | refine g_yes ?_ | refine g_exs ?_
    | refine g_chain ?_ | refine g_dget ?_ | refine g_dput ?_ | refine g_dget2 ?_ | refine g_dpop2 ?_ | refine g_fld ?_ | refine g_sfld ?_ | refine g_make ?_ | refine g_meth ?_
    | refine g_bm ?_ | refine g_kw ?_ | refine g_callS ?_ | refine g_revL ?_ | refine g_m1 ?_ | refine g_gsub ?_ | refine g_for ?_ | refine g_iList ?_ | refine g_iTup ?_ | refine g_iRng1 ?_ | refine g_iRng2 ?_ | refine g_sl ?_ | refine g_part ?_ | refine g_noPart ?_
    | refine g_exi ?_ | refine g_exr ?_ | refine g_dnew ?_ | refine g_disp ?_ | refine g_prs0 ?_ | refine g_prs ?_ | refine g_nxt ?_
  | ((with_reducible refine g_var (v := ?vv) ?gv ?_); (case gv => exact rfl))
  | ((with_reducible refine g_I ?gc ?_); (case gc => walk_at "cond"))
  | ((with_reducible refine g_eq ?ge ?_); (case ge => exact rfl))
  | ((with_reducible refine g_ne ?ge ?_); (case ge => exact rfl))
  | (refine g_ixl (SqL.of (by first | assumption | exact upd_same)) rfl ?_)
  | (refine g_setl (by first | assumption | exact upd_same) rfl ?_)
  | ((with_reducible show (∃ i, [V.int _] = [V.int i] ∧ _) ∨ _); refine Or.inl ⟨_, rfl, ?_⟩)
  | ((with_reducible show ∃ i, [V.int _] = [V.int i] ∧ _); refine ⟨_, rfl, ?_⟩)
  | dsimp only)
local macro_rules | `(tactic| walk_at "go") => `(tactic| repeat (walk_at "g1"))

/-! ### the law's hand -/
structure HandAt (H : Hp) (h c : Addr) : Prop where
  ex : ∃ (i b m n : Int), H h = some (.lst [.ref c, .int i, .int b, .int m, .int n]) ∧ 0 ≤ i
  cs : ∃ cs : List Int, H c = some (.lst (cs.map V.int))
  ne : c ≠ h
theorem HandAt.ex' {H H' : Hp} {h c : Addr} (e : Ex H H') (x : HandAt H h c) : HandAt H' h c := by
  obtain ⟨⟨i, b, m, n, h1, h2⟩, ⟨cs, h3⟩, h4⟩ := x
  exact ⟨⟨i, b, m, n, e _ _ h1, h2⟩, ⟨cs, e _ _ h3⟩, h4⟩
theorem HandAt.kind {H : Hp} {h c : Addr} (x : HandAt H h c) : ∃ xs, H h = some (.lst xs) := by
  obtain ⟨⟨i, b, m, n, h1, h2⟩, _⟩ := x
  exact ⟨_, h1⟩
theorem HandAt.upd {H : Hp} {h c d : Addr} {o : HO} (x : HandAt H h c) (hd : d ≠ h) (hc : d ≠ c) : HandAt (upd H d o) h c := by
  obtain ⟨⟨i, b, m, n, h1, h2⟩, ⟨cs, h3⟩, h4⟩ := x
  exact ⟨⟨i, b, m, n, by rw [upd_ne (Ne.symm hd)]; exact h1, h2⟩, ⟨cs, by rw [upd_ne (Ne.symm hc)]; exact h3⟩, h4⟩
/-- but f's object all stands, and f is neither of the hand's -/
theorem HandAt.exb {H H' : Hp} {h c f : Addr} (e : ExB f H H') (x : HandAt H h c) (hf : f ≠ h) (hc : f ≠ c) : HandAt H' h c := by
  obtain ⟨⟨i, b, m, n, h1, h2⟩, ⟨cs, h3⟩, h4⟩ := x
  exact ⟨⟨i, b, m, n, e _ _ (Ne.symm hf) h1, h2⟩, ⟨cs, e _ _ (Ne.symm hc) h3⟩, h4⟩
theorem HandAt.new {H : Hp} {h c p : Addr} (x : HandAt H h c) (hp : H p = none) : p ≠ h ∧ p ≠ c := by
  obtain ⟨⟨i, b, m, n, h1, h2⟩, ⟨cs, h3⟩, h4⟩ := x
  exact ⟨Ne.symm (ne_of_none h1 hp), Ne.symm (ne_of_none h3 hp)⟩
def sp_law_hand (K : PySem.W.Frag) : Sp := fun vs H Q _ => ∃ (a : Addr) (ns : List Int), vs = [.ref a] ∧ SqL K H a (ns.map V.int) ∧ ∀ h c H', Ex H H' → H h = none → HandAt H' h c → Q (.ref h) H'
def sp_law_draw : Sp := fun vs H Q _ => ∃ (h c : Addr) (m : Int), vs = [.ref h, .int m] ∧ HandAt H h c ∧ 0 < m ∧ m ≤ 1000000 ∧ ∀ v H', 0 ≤ v → v < m → ExB h H H' → HandAt H' h c → Q (.int v) H'
theorem cutV_int (ns : List Int) (lo hi : Option Int) : ∃ ms : List Int, cutV (ns.map V.int) lo hi = ms.map V.int := by
  unfold cutV
  exact ⟨(ns.drop _).take _, by rw [List.map_take, List.map_drop]⟩
/-! ### the law's sums and products -/
def sp_law_put : Sp := fun vs H Q _ => ∃ (p : Int) (d : Addr) (s : Bg) (z : Str) (n : Int), vs = [.int p, .ref d, .str z, .int n] ∧ H d = some (.dK (toK s)) ∧ s.length < 10000000 ∧ 0 < p ∧
  Q .non (upd H d (.dK (toK (addTo p s z n))))
def sp_law_plus : Sp := fun vs H Q _ => ∃ (p : Int) (a b : Addr) (s t : Bg) (f : Int), vs = [.int p, .ref a, .ref b, .int f] ∧ Rd H a (.dK (toK s)) ∧ Rd H b (.dK (toK t)) ∧ (keys t).Nodup ∧ s.length + t.length < 10000000 ∧ 0 < p ∧ (-1000000 < f ∧ f < 1000000) ∧
  ∀ d H', Ex H H' → H d = none → H' d = some (.dK (toK (plusS p s t f))) → Q (.ref d) H'
theorem foldl_take {α β : Type} (g : β → α → β) (l : List α) (i : Nat) (a : α) (x : β) (h : l[i]? = some a) : (l.take (i + 1)).foldl g x = g ((l.take i).foldl g x) a := by
  rw [List.take_add_one, h, List.foldl_append]
  rfl
def sp_law_product : Sp := fun vs H Q _ => ∃ (p : Int) (a b : Addr) (s t : Bg), vs = [.int p, .ref a, .ref b] ∧ Rd H a (.dK (toK s)) ∧ Rd H b (.dK (toK t)) ∧ (keys s).Nodup ∧ (keys t).Nodup ∧ s.length * t.length < 10000000 ∧ 0 < p ∧ Good 1000000 s ∧
  (∀ u ∈ keys s, u.length ≤ 5000000) ∧ (∀ u ∈ keys t, u.length ≤ 5000000) ∧ ∀ d H', Ex H H' → H d = none → H' d = some (.dK (toK (prodS p s t))) → Q (.ref d) H'
end
end Fp

namespace Fp
open PySem L2
section
variable {P : Program} {w : World} {K : PySem.W.Frag} {mg : Str → Option Value} {base : Heap} {C_Bag : Addr} {Cs : Addr → Prop}
local macro_rules | `(tactic| walk_at "hp") => `(tactic| first | assumption | rfl)
local macro_rules | `(tactic| walk_at "cond") => `(tactic| first | assumption | decide | omega | (unfold CMul; omega) | (refine ⟨?_, ?_⟩ <;> omega) | (unfold CDiv; omega) | (unfold CPow; omega))
local macro_rules | `(tactic| walk_at "g1") => `(tactic| first
  | with_reducible first
    | refine g_seq ?_ | refine g_asg ?_ | refine g_name ?_ | refine g_ret ?_ | refine g_retN ?_ | refine g_drop ?_ | refine g_ifs ?_
    | refine g_c ?_ | refine g_op ?_ | refine g_un ?_ | refine g_I0 ?_ | refine g_U ?_
    | refine g_test ?_ | refine g_tB ?_ | refine g_bl ?_ | refine g_and ?_ | refine g_or ?_ | refine g_not ?_
    | refine g_andV ?_ | refine g_orV ?_ | refine g_notV ?_ | refine g_if ?_ | refine g_nil ?_ | refine g_cons ?_ | refine g_cb ?_ | refine g_call ?_
    | refine g_lst ?_ | refine g_tup ?_ | refine g_itT ?_ | refine g_itF ?_ | refine g_itNT ?_ | refine g_itNF ?_ | refine g_lc ?_ | refine g_iStr ?_ | refine g_yes ?_ | refine g_exs ?_
    | refine g_chain ?_ | refine g_dget ?_ | refine g_dput ?_ | refine g_dget2 ?_ | refine g_dpop2 ?_ | refine g_fld ?_ | refine g_sfld ?_ | refine g_make ?_ | refine g_meth ?_
    | refine g_bm ?_ | refine g_kw ?_ | refine g_callS ?_ | refine g_revL ?_ | refine g_m1 ?_ | refine g_gsub ?_ | refine g_for ?_ | refine g_iList ?_ | refine g_iTup ?_ | refine g_iRng1 ?_ | refine g_iRng2 ?_ | refine g_sl ?_ | refine g_part ?_ | refine g_noPart ?_
    | refine g_exi ?_ | refine g_exr ?_ | refine g_dnew ?_ | refine g_disp ?_ | refine g_prs0 ?_ | refine g_prs ?_ | refine g_nxt ?_
  | ((with_reducible refine g_var (v := ?vv) ?gv ?_); (case gv => exact rfl))
  | ((with_reducible refine g_I ?gc ?_); (case gc => walk_at "cond"))
  | ((with_reducible refine g_eq ?ge ?_); (case ge => exact rfl))
  | ((with_reducible refine g_ne ?ge ?_); (case ge => exact rfl))
  | (refine g_ixl (SqL.of (by first | assumption | exact upd_same)) rfl ?_)
  | (refine g_setl (by first | assumption | exact upd_same) rfl ?_)
  | ((with_reducible show (∃ i, [V.int _] = [V.int i] ∧ _) ∨ _); refine Or.inl ⟨_, rfl, ?_⟩)
  | ((with_reducible show ∃ i, [V.int _] = [V.int i] ∧ _); refine ⟨_, rfl, ?_⟩)
  | dsimp only)
local macro_rules | `(tactic| walk_at "go") => `(tactic| repeat (walk_at "g1"))

/-! ### words in order -/
def sp_law_order : Sp := fun vs H Q _ => ∃ (d : Addr) (s : Bg), vs = [.ref d] ∧ Rd H d (.dK (toK s)) ∧ s.length ≤ 10000000 ∧ (∀ u ∈ keys s, u.length ≤ 10000000) ∧
  ∀ l H', Ex H H' → H l = none → H' l = some (.lst ((ordW (keys s)).map V.str)) → Q (.ref l) H'
def sp_law_words : Sp := fun vs H Q _ => ∃ (d : Addr) (s : Bg), vs = [.ref d] ∧ Rd H d (.dK (toK s)) ∧ s.length ≤ 10000000 ∧ (∀ u ∈ keys s, u.length ≤ 10000000) ∧ (keys s).Nodup ∧
  ∀ t H', Ex H H' → H t = none → WordsAt H' t (wordsS s) → Q (.ref t) H'
theorem bs_of {H : Hp} {as : List Addr} {es : Bg} (h : Paired (fun a (e : Str × Int) => H a = some (.tup [.int (-(e.1.length : Int)), .str e.1])) as es) :
    ∃ bs : List (Addr × Str), as.map V.ref = bs.map (fun b => V.ref b.1) ∧ bs.map (·.2) = keys es ∧ ∀ b ∈ bs, H b.1 = some (.tup [.int (-(b.2.length : Int)), .str b.2]) := by
  induction h with
  | nil => exact ⟨[], rfl, rfl, fun _ h => nomatch h⟩
  | @cons a e as es h1 _ ih =>
    obtain ⟨bs, h2, h3, h4⟩ := ih
    refine ⟨(a, e.1) :: bs, by rw [List.map_cons, List.map_cons, h2], by rw [List.map_cons, h3]; rfl, fun b hb => ?_⟩
    rcases List.mem_cons.mp hb with rfl | hb
    · exact h1
    · exact h4 b hb
theorem pairs_at {s : Bg} {ws : List Str} {H : Hp} {as : List Addr} (h : Paired (fun a z => H a = some (.tup [.str z, .int (cf s z)])) as ws) : Paired (fun a (kv : Str × Int) => H a = some (.tup [.str kv.1, .int kv.2])) as (ws.map fun z => (z, cf s z)) :=
  paired_mapr h fun _ _ q => q
theorem getS_cf {s : Bg} {z : Str} (h : z ∈ keys s) : getS s z = some (cf s z) := by
  unfold cf
  cases q : getS s z with
  | none => exact absurd h (getS_none.mp q)
  | some n => rfl
/-! ### clocks and words at random -/
def sp_law_clock : Sp := fun vs H Q _ => ∃ (h c : Addr), vs = [.ref h] ∧ HandAt H h c ∧ ∀ p H', (p = 2 ∨ p = 3 ∨ p = 5 ∨ p = 7) → ExB h H H' → HandAt H' h c → Q (.int p) H'
def sp_law_word : Sp := fun vs H Q _ => ∃ (h c : Addr) (z : Str) (m : Int), vs = [.ref h, .str z, .int m] ∧ HandAt H h c ∧ 0 < z.length ∧ z.length ≤ 100 ∧ isW z = true ∧ 0 ≤ m ∧ m ≤ 1000 ∧
  ∀ u H', (u.length : Int) ≤ m → isW u = true → ExB h H H' → HandAt H' h c → Q (.str u) H'
end
end Fp

namespace Fp
open PySem L2
section
variable {P : Program} {w : World} {K : PySem.W.Frag} {mg : Str → Option Value} {base : Heap} {C_Bag : Addr} {Cs : Addr → Prop}
local macro_rules | `(tactic| walk_at "hp") => `(tactic| first | assumption | rfl)
local macro_rules | `(tactic| walk_at "cond") => `(tactic| first | assumption | decide | omega | (unfold CMul; omega) | (refine ⟨?_, ?_⟩ <;> omega) | (unfold CDiv; omega) | (unfold CPow; omega))
local macro_rules | `(tactic| walk_at "g1") => `(tactic| first
  | with_reducible first
    | refine g_seq ?_ | refine g_asg ?_ | refine g_name ?_ | refine g_ret ?_ | refine g_retN ?_ | refine g_drop ?_ | refine g_ifs ?_
    | refine g_c ?_ | refine g_op ?_ | refine g_un ?_ | refine g_I0 ?_ | refine g_U ?_
    | refine g_test ?_ | refine g_tB ?_ | refine g_bl ?_ | refine g_and ?_ | refine g_or ?_ | refine g_not ?_
    | refine g_andV ?_ | refine g_orV ?_ | refine g_notV ?_ | refine g_if ?_ | refine g_nil ?_ | refine g_cons ?_ | refine g_cb ?_ | refine g_call ?_
    | refine g_lst ?_ | refine g_tup ?_ | refine g_itT ?_ | refine g_itF ?_ | refine g_itNT ?_ | refine g_itNF ?_ | refine g_lc ?_ | refine g_iStr ?_ | refine g_yes ?_ | refine g_exs ?_
    | refine g_chain ?_ | refine g_dget ?_ | refine g_dput ?_ | refine g_dget2 ?_ | refine g_dpop2 ?_ | refine g_fld ?_ | refine g_sfld ?_ | refine g_make ?_ | refine g_meth ?_
    | refine g_bm ?_ | refine g_kw ?_ | refine g_callS ?_ | refine g_revL ?_ | refine g_m1 ?_ | refine g_gsub ?_ | refine g_for ?_ | refine g_iList ?_ | refine g_iTup ?_ | refine g_iRng1 ?_ | refine g_iRng2 ?_ | refine g_sl ?_ | refine g_part ?_ | refine g_noPart ?_
    | refine g_exi ?_ | refine g_exr ?_ | refine g_dnew ?_ | refine g_disp ?_ | refine g_prs0 ?_ | refine g_prs ?_ | refine g_nxt ?_
  | ((with_reducible refine g_var (v := ?vv) ?gv ?_); (case gv => exact rfl))
  | ((with_reducible refine g_I ?gc ?_); (case gc => walk_at "cond"))
  | ((with_reducible refine g_eq ?ge ?_); (case ge => exact rfl))
  | ((with_reducible refine g_ne ?ge ?_); (case ge => exact rfl))
  | (refine g_ixl (SqL.of (by first | assumption | exact upd_same)) rfl ?_)
  | (refine g_setl (by first | assumption | exact upd_same) rfl ?_)
  | ((with_reducible show (∃ i, [V.int _] = [V.int i] ∧ _) ∨ _); refine Or.inl ⟨_, rfl, ?_⟩)
  | ((with_reducible show ∃ i, [V.int _] = [V.int i] ∧ _); refine ⟨_, rfl, ?_⟩)
  | dsimp only)
local macro_rules | `(tactic| walk_at "go") => `(tactic| repeat (walk_at "g1"))

theorem isW_app {a b : Str} (ha : isW a = true) (hb : isW b = true) : isW (a ++ b) = true := by
  unfold isW at *
  rw [app_toList, List.all_append, ha, hb]
  rfl
theorem isW_empty : isW Str.empty = true := rfl
theorem isW_one {z : Str} {c : Nat} (hz : isW z = true) (h : c ∈ z.cps.toList) : isW ⟨#[c]⟩ = true := by
  unfold isW at *
  have := List.all_eq_true.mp hz c h
  show List.all [c] _ = true
  rw [List.all_cons, this]
  rfl
theorem join_ones : ∀ ys : List Str, (∀ y ∈ ys, y.length = 1 ∧ isW y = true) → (Str.join ("" : Str) ys).length = ys.length ∧ isW (Str.join ("" : Str) ys) = true
  | [], _ => ⟨rfl, rfl⟩
  | [x], h => ⟨(h x List.mem_cons_self).1, (h x List.mem_cons_self).2⟩
  | x :: y :: r, h => by
    have ih := join_ones (y :: r) fun z hz => h z (List.mem_cons_of_mem _ hz)
    have hx := h x List.mem_cons_self
    show (x ++ ("" : Str) ++ Str.join ("" : Str) (y :: r)).length = _ ∧ isW (x ++ ("" : Str) ++ Str.join ("" : Str) (y :: r)) = true
    have e0 : ("" : Str).length = 0 := rfl
    refine ⟨?_, isW_app (isW_app hx.2 rfl) ih.2⟩
    rw [len_app, len_app, hx.1, ih.1, e0]
    simp only [List.length_cons]
    omega
theorem sum_ones {α : Type} : ∀ l : List α, (l.map fun _ => 1).sum = l.length
  | [] => rfl
  | a :: r => by rw [List.map_cons, List.sum_cons, sum_ones r, List.length_cons, Nat.add_comm]
theorem strs_of : ∀ {ys : List V} {Pz : Str → Prop}, (∀ y ∈ ys, ∃ z, y = V.str z ∧ Pz z) → ∃ zs : List Str, ys = zs.map V.str ∧ ∀ z ∈ zs, Pz z
  | [], _, _ => ⟨[], rfl, fun _ h => nomatch h⟩
  | y :: r, Pz, h => by
    obtain ⟨zs, e, hz⟩ := strs_of (ys := r) fun y hy => h y (List.mem_cons_of_mem _ hy)
    obtain ⟨z, e1, h1⟩ := h y List.mem_cons_self
    refine ⟨z :: zs, by rw [e1, e]; rfl, fun u hu => ?_⟩
    rcases List.mem_cons.mp hu with q | q
    · rw [q]; exact h1
    · exact hz u q
end
end Fp

namespace Fp
open PySem L2
section
variable {P : Program} {w : World} {K : PySem.W.Frag} {mg : Str → Option Value} {base : Heap} {C_Bag : Addr} {Cs : Addr → Prop}
local macro_rules | `(tactic| walk_at "hp") => `(tactic| first | assumption | rfl)
local macro_rules | `(tactic| walk_at "cond") => `(tactic| first | assumption | decide | omega | (unfold CMul; omega) | (refine ⟨?_, ?_⟩ <;> omega) | (unfold CDiv; omega) | (unfold CPow; omega))
local macro_rules | `(tactic| walk_at "g1") => `(tactic| first
  | with_reducible first
    | refine g_seq ?_ | refine g_asg ?_ | refine g_name ?_ | refine g_ret ?_ | refine g_retN ?_ | refine g_drop ?_ | refine g_ifs ?_
    | refine g_c ?_ | refine g_op ?_ | refine g_un ?_ | refine g_I0 ?_ | refine g_U ?_
    | refine g_test ?_ | refine g_tB ?_ | refine g_bl ?_ | refine g_and ?_ | refine g_or ?_ | refine g_not ?_
    | refine g_andV ?_ | refine g_orV ?_ | refine g_notV ?_ | refine g_if ?_ | refine g_nil ?_ | refine g_cons ?_ | refine g_cb ?_ | refine g_call ?_
    | refine g_lst ?_ | refine g_tup ?_ | refine g_itT ?_ | refine g_itF ?_ | refine g_itNT ?_ | refine g_itNF ?_ | refine g_lc ?_ | refine g_iStr ?_ | refine g_yes ?_ | refine g_exs ?_
    | refine g_chain ?_ | refine g_dget ?_ | refine g_dput ?_ | refine g_dget2 ?_ | refine g_dpop2 ?_ | refine g_fld ?_ | refine g_sfld ?_ | refine g_make ?_ | refine g_meth ?_
    | refine g_bm ?_ | refine g_kw ?_ | refine g_callS ?_ | refine g_revL ?_ | refine g_m1 ?_ | refine g_gsub ?_ | refine g_for ?_ | refine g_iList ?_ | refine g_iTup ?_ | refine g_iRng1 ?_ | refine g_iRng2 ?_ | refine g_sl ?_ | refine g_part ?_ | refine g_noPart ?_
    | refine g_exi ?_ | refine g_exr ?_ | refine g_dnew ?_ | refine g_disp ?_ | refine g_prs0 ?_ | refine g_prs ?_ | refine g_nxt ?_
  | ((with_reducible refine g_var (v := ?vv) ?gv ?_); (case gv => exact rfl))
  | ((with_reducible refine g_I ?gc ?_); (case gc => walk_at "cond"))
  | ((with_reducible refine g_eq ?ge ?_); (case ge => exact rfl))
  | ((with_reducible refine g_ne ?ge ?_); (case ge => exact rfl))
  | (refine g_ixl (SqL.of (by first | assumption | exact upd_same)) rfl ?_)
  | (refine g_setl (by first | assumption | exact upd_same) rfl ?_)
  | ((with_reducible show (∃ i, [V.int _] = [V.int i] ∧ _) ∨ _); refine Or.inl ⟨_, rfl, ?_⟩)
  | ((with_reducible show ∃ i, [V.int _] = [V.int i] ∧ _); refine ⟨_, rfl, ?_⟩)
  | dsimp only)
local macro_rules | `(tactic| walk_at "go") => `(tactic| repeat (walk_at "g1"))

/-- a dict of words, how many and how long -/
structure Lot (p : Int) (s : Bg) (a b : Nat) : Prop where
  g : Good p s
  n : s.length ≤ a
  l : ∀ u ∈ keys s, u.length ≤ b ∧ isW u = true
theorem Lot.mono {p : Int} {s : Bg} {a b a' b' : Nat} (l : Lot p s a b) (h1 : a ≤ a') (h2 : b ≤ b') : Lot p s a' b' := ⟨l.g, Nat.le_trans l.n h1, fun u hu => ⟨Nat.le_trans (l.l u hu).1 h2, (l.l u hu).2⟩⟩
theorem Lot.nil {p : Int} {a b : Nat} : Lot p [] a b := ⟨Good.nil, Nat.zero_le _, fun _ h => nomatch h⟩
theorem Lot.prod {p : Int} {s t : Bg} {a b c d : Nat} (hp : 0 < p) (l : Lot p s a b) (m : Lot p t c d) : Lot p (prodS p s t) (a * c) (b + d) :=
  ⟨Good.prod hp s t, Nat.le_trans (len_prod (p := p)) (Nat.mul_le_mul l.n m.n), fun u hu => by
    obtain ⟨x, hx, y, hy, rfl⟩ := keys_prod hu
    rw [len_app]
    exact ⟨Nat.add_le_add (l.l x hx).1 (m.l y hy).1, isW_app (l.l x hx).2 (m.l y hy).2⟩⟩
theorem Lot.plus {p : Int} {s t : Bg} {f : Int} {a b c d e : Nat} (hp : 0 < p) (l : Lot p s a b) (m : Lot p t c d) (hb : b ≤ e) (hd : d ≤ e) : Lot p (plusS p s t f) (a + c) e :=
  ⟨Good.plus hp l.g t, Nat.le_trans (len_plus f) (Nat.add_le_add l.n m.n), fun u hu => by
    rcases keys_plus hu with h | h
    · exact ⟨Nat.le_trans (l.l u h).1 hb, (l.l u h).2⟩
    · exact ⟨Nat.le_trans (m.l u h).1 hd, (m.l u h).2⟩⟩
theorem Lot.put {p : Int} {s : Bg} {z : Str} {n : Int} {a b : Nat} (l : Lot p s a b) (h0 : 0 < n) (h1 : n < p) (hz : z.length ≤ b) (hw : isW z = true) : Lot p (putS s z n) (a + 1) b :=
  ⟨l.g.put h0 h1, Nat.le_trans (len_put s z n) (Nat.add_le_add_right l.n 1), fun u hu => by
    rw [keys_put] at hu
    split at hu
    · exact l.l u hu
    · rcases List.mem_append.mp hu with h | h
      · exact l.l u h
      · rw [List.mem_singleton.mp h]; exact ⟨hz, hw⟩⟩
/-- of a few words that are known -/
theorem Lot.of {p : Int} {s : Bg} {a b : Nat} (hn : (keys s).Nodup) (hl : s.length ≤ a) (hk : ∀ u ∈ keys s, u.length ≤ b ∧ isW u = true) (hv : ∀ kv ∈ s, 0 < kv.2 ∧ kv.2 < p) : Lot p s a b :=
  ⟨⟨hn, fun kv h => (hv kv h).1, fun kv h => (hv kv h).2⟩, hl, hk⟩
def sp_law_lot : Sp := fun vs H Q _ => ∃ (h c : Addr) (p : Int) (z : Str) (m n : Nat), vs = [.ref h, .int p, .str z, .int m, .int n] ∧ HandAt H h c ∧ 2 ≤ p ∧ p ≤ 1000 ∧ 0 < z.length ∧ z.length ≤ 100 ∧ isW z = true ∧ m ≤ 999 ∧ n ≤ 999 ∧
  ∀ d s H', ExB h H H' → H d = none → H' d = some (.dK (toK s)) → Lot p s n m → HandAt H' h c → Q (.ref d) H'
def sp_law_small : Sp := fun vs H Q _ => ∃ (h c : Addr) (p : Int), vs = [.ref h, .int p] ∧ HandAt H h c ∧ 2 ≤ p ∧ p ≤ 1000 ∧
  ∀ d s H', ExB h H H' → H d = none → H' d = some (.dK (toK s)) → Lot p s 3 2 → HandAt H' h c → Q (.ref d) H'
def sp_law_woven : Sp := fun vs H Q _ => ∃ (h c : Addr) (p m : Int), vs = [.ref h, .int p, .int m] ∧ HandAt H h c ∧ 2 ≤ p ∧ p ≤ 1000 ∧ 0 < m ∧ m ≤ 1000 ∧
  ∀ d s H', ExB h H H' → H d = none → H' d = some (.dK (toK s)) → Lot p s 120 7 → HandAt H' h c → Q (.ref d) H'
def sp_law_some : Sp := fun vs H Q _ => ∃ (h c : Addr) (p : Int), vs = [.ref h, .int p] ∧ HandAt H h c ∧ 2 ≤ p ∧ p ≤ 1000 ∧
  ∀ d s H', ExB h H H' → H d = none → H' d = some (.dK (toK s)) → Lot p s 120 7 → HandAt H' h c → Q (.ref d) H'
theorem ExB.one {f d : Addr} {H H' : Hp} {o : HO} (e : ExB f (L2.upd H d o) H') (hd : H d = none) : ExB f H H' := (Ex.new hd).exb.trans e
def small1 (n : Int) : List Bg := [[("x", 1)], [("y", 1)], [("x", 1), ("", n)], [("y", n), ("", 1)], [("x", 1), ("y", n)]]
def small2 (n : Int) : List Bg := [[("xy", 1), ("", n)], [("yx", 1), ("", n)], [("xx", 1), ("y", n)], [("xy", 1), ("yx", n)]]
def small3 (n : Int) : List Bg := [[("xy", n), ("x", 1), ("", 1)], [("", n)], [("z", 1), ("x", n)]]
def okWords (ks : List Str) : Bool := decide ks.Nodup && decide (ks.length ≤ 3) && ks.all fun u => decide (u.length ≤ 2) && isW u
theorem lot_of_ok {p n : Int} {s : Bg} (h : okWords (keys s) = true) (hn0 : 0 < n) (hn1 : n < p) (hv : ∀ kv ∈ s, kv.2 = 1 ∨ kv.2 = n) : Lot p s 3 2 := by
  unfold okWords at h
  simp only [Bool.and_eq_true, decide_eq_true_eq] at h
  obtain ⟨⟨h1, h2⟩, h3⟩ := h
  refine Lot.of h1 (by unfold keys at h2; rw [List.length_map] at h2; exact h2) (fun u hu => ?_) fun kv hkv => ?_
  · have := List.all_eq_true.mp h3 u hu
    simpa using this
  · rcases hv kv hkv with e | e <;> omega
theorem small_lot {p n : Int} (hn0 : 0 < n) (hn1 : n < p) : ∀ s ∈ small1 n ++ small2 n ++ small3 n, Lot p s 3 2 := by
  intro s hs
  have hk : ((small1 n ++ small2 n ++ small3 n).map keys).all okWords = true := by
    show ((small1 0 ++ small2 0 ++ small3 0).map keys).all okWords = true
    decide +kernel
  refine lot_of_ok (List.all_eq_true.mp hk _ (List.mem_map_of_mem hs)) hn0 hn1 ?_
  have hv : ∀ s ∈ small1 n ++ small2 n ++ small3 n, ∀ kv ∈ s, kv.2 = 1 ∨ kv.2 = n := by
    intro s hs kv hkv
    simp only [small1, small2, small3, List.mem_append, List.mem_cons, List.not_mem_nil, or_false] at hs
    rcases hs with ((rfl | rfl | rfl | rfl | rfl) | rfl | rfl | rfl | rfl) | rfl | rfl | rfl <;> simp only [List.mem_cons, List.not_mem_nil, or_false] at hkv
    all_goals first
      | (rcases hkv with rfl | rfl | rfl <;> first | exact .inl rfl | exact .inr rfl)
      | (rcases hkv with rfl | rfl <;> first | exact .inl rfl | exact .inr rfl)
      | (subst hkv; first | exact .inl rfl | exact .inr rfl)
  exact hv s hs
theorem lst_ok {tA : TA} {σ : St} {ss : List Bg} {H : Hp} {Q : VK} (h : ArgsOk tA σ ss) (hz : ss.length ≤ 1000) (q : ∀ l ps H', Ex H H' → H l = none → H' l = some (.lst (ps.map V.ref)) → Paired (fun p s => H p = none ∧ H' p = some (.dK (toK s))) ps ss → Q (.ref l) H') : tLst tA σ H Q :=
  h H _ fun ps H' e hp => ⟨by rw [List.length_map, hp.length]; exact Nat.le_trans hz (by decide), fun l hl => q l ps _ (e.trans (Ex.new hl)) (e.free hl) upd_same (Paired.mapP hp fun _ _ z => ⟨z.1, Ex.new hl _ _ z.2⟩)⟩
theorem small_ne {v : Int} (s : Bg) (hs : s ∈ small1 v ++ small2 v ++ small3 v) : s ≠ [] := by
  unfold small1 small2 small3 at hs
  simp only [List.cons_append, List.nil_append, List.mem_cons, List.not_mem_nil, or_false] at hs
  rcases hs with rfl | rfl | rfl | rfl | rfl | rfl | rfl | rfl | rfl | rfl | rfl | rfl <;> exact List.cons_ne_nil _ _
/-- few words, or three of which two are beginnings -/
def SmK (s : Bg) : Prop := s.length ≤ 2 ∨ keys s = (["xy", "x", ""] : List Str)
theorem small_K {v : Int} (s : Bg) (hs : s ∈ small1 v ++ small2 v ++ small3 v) : SmK s := by
  unfold small1 small2 small3 at hs
  simp only [List.cons_append, List.nil_append, List.mem_cons, List.not_mem_nil, or_false] at hs
  rcases hs with rfl | rfl | rfl | rfl | rfl | rfl | rfl | rfl | rfl | rfl | rfl | rfl <;> first | exact .inl (Nat.le_of_ble_eq_true rfl) | exact .inr rfl
/-- small bags are not nothing -/
def sp_law_smallN : Sp := fun vs H Q _ => ∃ (h c : Addr) (p : Int), vs = [.ref h, .int p] ∧ HandAt H h c ∧ 2 ≤ p ∧ p ≤ 1000 ∧
  ∀ d s H', ExB h H H' → H d = none → H' d = some (.dK (toK s)) → Lot p s 3 2 → s ≠ [] → HandAt H' h c → Q (.ref d) H'
def sp_law_smallI : Sp := fun vs H Q _ => ∃ (h c : Addr) (p : Int), vs = [.ref h, .int p] ∧ HandAt H h c ∧ 2 ≤ p ∧ p ≤ 1000 ∧
  ∀ d s H', ExB h H H' → H d = none → H' d = some (.dK (toK s)) → Lot p s 3 2 → s ≠ [] → SmK s → HandAt H' h c → Q (.ref d) H'
end
end Fp

namespace Fp
open PySem L2
section
variable {P : Program} {w : World} {K : PySem.W.Frag} {mg : Str → Option Value} {base : Heap} {C_Bag : Addr} {Cs : Addr → Prop}
local macro_rules | `(tactic| walk_at "hp") => `(tactic| first | assumption | rfl)
local macro_rules | `(tactic| walk_at "cond") => `(tactic| first | assumption | decide | omega | (unfold CMul; omega) | (refine ⟨?_, ?_⟩ <;> omega) | (unfold CDiv; omega) | (unfold CPow; omega))
local macro_rules | `(tactic| walk_at "g1") => `(tactic| first
  | with_reducible first
    | refine g_seq ?_ | refine g_asg ?_ | refine g_name ?_ | refine g_ret ?_ | refine g_retN ?_ | refine g_drop ?_ | refine g_ifs ?_
    | refine g_c ?_ | refine g_op ?_ | refine g_un ?_ | refine g_I0 ?_ | refine g_U ?_
    | refine g_test ?_ | refine g_tB ?_ | refine g_bl ?_ | refine g_and ?_ | refine g_or ?_ | refine g_not ?_
    | refine g_andV ?_ | refine g_orV ?_ | refine g_notV ?_ | refine g_if ?_ | refine g_nil ?_ | refine g_cons ?_ | refine g_cb ?_ | refine g_call ?_
    | refine g_lst ?_ | refine g_tup ?_ | refine g_itT ?_ | refine g_itF ?_ | refine g_itNT ?_ | refine g_itNF ?_ | refine g_lc ?_ | refine g_iStr ?_ | refine g_yes ?_ | refine g_exs ?_
    | refine g_chain ?_ | refine g_dget ?_ | refine g_dput ?_ | refine g_dget2 ?_ | refine g_dpop2 ?_ | refine g_fld ?_ | refine g_sfld ?_ | refine g_make ?_ | refine g_meth ?_
    | refine g_bm ?_ | refine g_kw ?_ | refine g_callS ?_ | refine g_revL ?_ | refine g_m1 ?_ | refine g_gsub ?_ | refine g_for ?_ | refine g_iList ?_ | refine g_iTup ?_ | refine g_iRng1 ?_ | refine g_iRng2 ?_ | refine g_sl ?_ | refine g_part ?_ | refine g_noPart ?_
    | refine g_exi ?_ | refine g_exr ?_ | refine g_dnew ?_ | refine g_disp ?_ | refine g_prs0 ?_ | refine g_prs ?_ | refine g_nxt ?_
  | ((with_reducible refine g_var (v := ?vv) ?gv ?_); (case gv => exact rfl))
  | ((with_reducible refine g_I ?gc ?_); (case gc => walk_at "cond"))
  | ((with_reducible refine g_eq ?ge ?_); (case ge => exact rfl))
  | ((with_reducible refine g_ne ?ge ?_); (case ge => exact rfl))
  | (refine g_ixl (SqL.of (by first | assumption | exact upd_same)) rfl ?_)
  | (refine g_setl (by first | assumption | exact upd_same) rfl ?_)
  | ((with_reducible show (∃ i, [V.int _] = [V.int i] ∧ _) ∨ _); refine Or.inl ⟨_, rfl, ?_⟩)
  | ((with_reducible show ∃ i, [V.int _] = [V.int i] ∧ _); refine ⟨_, rfl, ?_⟩)
  | dsimp only)
local macro_rules | `(tactic| walk_at "go") => `(tactic| repeat (walk_at "g1"))

theorem Good.up {p q : Int} {s : Bg} (g : Good p s) (h : p ≤ q) : Good q s := ⟨g.nd, g.lo, fun kv hk => by have := g.hi kv hk; omega⟩
end
end Fp

namespace Fp
open PySem L2
section
variable {P : Program} {w : World} {K : PySem.W.Frag} {mg : Str → Option Value} {base : Heap} {C_Bag : Addr} {Cs : Addr → Prop}
local macro_rules | `(tactic| walk_at "hp") => `(tactic| first | assumption | rfl)
local macro_rules | `(tactic| walk_at "cond") => `(tactic| first | assumption | decide | omega | (unfold CMul; omega) | (refine ⟨?_, ?_⟩ <;> omega) | (unfold CDiv; omega) | (unfold CPow; omega))
local macro_rules | `(tactic| walk_at "g1") => `(tactic| first
  | with_reducible first
    | refine g_seq ?_ | refine g_asg ?_ | refine g_name ?_ | refine g_ret ?_ | refine g_retN ?_ | refine g_drop ?_ | refine g_ifs ?_
    | refine g_c ?_ | refine g_op ?_ | refine g_un ?_ | refine g_I0 ?_ | refine g_U ?_
    | refine g_test ?_ | refine g_tB ?_ | refine g_bl ?_ | refine g_and ?_ | refine g_or ?_ | refine g_not ?_
    | refine g_andV ?_ | refine g_orV ?_ | refine g_notV ?_ | refine g_if ?_ | refine g_nil ?_ | refine g_cons ?_ | refine g_cb ?_ | refine g_call ?_
    | refine g_lst ?_ | refine g_tup ?_ | refine g_itT ?_ | refine g_itF ?_ | refine g_itNT ?_ | refine g_itNF ?_ | refine g_lc ?_ | refine g_iStr ?_ | refine g_yes ?_ | refine g_exs ?_
    | refine g_chain ?_ | refine g_dget ?_ | refine g_dput ?_ | refine g_dget2 ?_ | refine g_dpop2 ?_ | refine g_fld ?_ | refine g_sfld ?_ | refine g_make ?_ | refine g_meth ?_
    | refine g_bm ?_ | refine g_kw ?_ | refine g_callS ?_ | refine g_revL ?_ | refine g_m1 ?_ | refine g_gsub ?_ | refine g_for ?_ | refine g_iList ?_ | refine g_iTup ?_ | refine g_iRng1 ?_ | refine g_iRng2 ?_ | refine g_sl ?_ | refine g_part ?_ | refine g_noPart ?_
    | refine g_exi ?_ | refine g_exr ?_ | refine g_dnew ?_ | refine g_disp ?_ | refine g_prs0 ?_ | refine g_prs ?_ | refine g_nxt ?_
  | ((with_reducible refine g_var (v := ?vv) ?gv ?_); (case gv => exact rfl))
  | ((with_reducible refine g_I ?gc ?_); (case gc => walk_at "cond"))
  | ((with_reducible refine g_eq ?ge ?_); (case ge => exact rfl))
  | ((with_reducible refine g_ne ?ge ?_); (case ge => exact rfl))
  | (refine g_ixl (SqL.of (by first | assumption | exact upd_same)) rfl ?_)
  | (refine g_setl (by first | assumption | exact upd_same) rfl ?_)
  | ((with_reducible show (∃ i, [V.int _] = [V.int i] ∧ _) ∨ _); refine Or.inl ⟨_, rfl, ?_⟩)
  | ((with_reducible show ∃ i, [V.int _] = [V.int i] ∧ _); refine ⟨_, rfl, ?_⟩)
  | dsimp only)
local macro_rules | `(tactic| walk_at "go") => `(tactic| repeat (walk_at "g1"))

/-! ### the bags -/
structure KeyFn (K : PySem.W.Frag) (mg : Str → Option Value) : Prop where
  ex : ∃ f fd, Fun K "ahead_key" "ahead_key" s_ahead_key f fd ∧ mg "ahead_key" = some (.ref f) ∧ Binds K fd ["word"] []
theorem ok_words_in_order {f : Addr} {fd : FuncData} (F : Fun K "words_in_order" "words_in_order" s_words_in_order f fd) (T : Txt K mg C_Bag Cs) (KF : KeyFn K mg) : FnOk P w K mg base CX0 4 f fd ["sparse"] sp_law_order := by
  refine F.ok sc_words_in_order (fun vs H Q E h => ?_) (fun cdv A outer s H vs Q E hr h => ?_)
  · obtain ⟨d, s, rfl, _⟩ := h
    rfl
  · obtain ⟨d, s, rfl, hd, hz, hw, k⟩ := h
    obtain ⟨f_ahead_key, fd_ahead_key, F_ahead_key, M_ahead_key, B_ahead_key⟩ := KF.ex
    have hu := hu_of hr; have hu64 := L2.Room.units hr; refine ⟨_, (pss_one (ps_ret (pe_callBK (cr_sortedKey F_ahead_key sc_ahead_key rfl rfl rfl rfl B_ahead_key T.b_len (hr.mono (by decide))) (by rfl) T.b_sorted (by decide +kernel) (pa_cons (pe_callTy (call_listD rfl) (by rfl) T.b_list (by decide +kernel) (pa_cons (pv 0) pa_nil)) pa_nil) (pk_cons (pe_glob (v := .ref f_ahead_key) rfl M_ahead_key rfl) pk_nil)))), ?_⟩; rw [st_words_in_order]; (try dsimp only [cxOf]); walk_at "go"
    refine ⟨d, toK s, rfl, hd, fun p hp => ?_⟩
    rw [toK_keys]
    walk_at "go"
    refine ⟨p, keys s, rfl, rfl, SqL.of upd_same, fun w hw' => line5 (hw w hw'), fun q hq => ?_⟩
    exact k q _ ((Ex.new hp).trans (Ex.new hq)) ((Ex.new hp).free hq) upd_same
def sp_are_words : Sp := fun vs H Q _ => ∃ (p : Int) (d : Addr) (s : Bg), vs = [.int p, .ref d] ∧ H d = some (.dK (toK s)) ∧ Lot p s 300 12 ∧ ∀ H', Ex H H' → Q (.bl true) H'
theorem ok_are_words {f : Addr} {fd : FuncData} (F : Fun K "are_words" "are_words" s_are_words f fd) (T : Txt K mg C_Bag Cs) (D_is_short_word : DefOk P w K mg base CX0 2 "is_short_word" ["thing"] (sp_is_short_word K)) (D_is_within : DefOk P w K mg base CX0 2 "is_within" ["thing", "least", "most"] (sp_is_within K)) : FnOk P w K mg base CX0 3 f fd ["clock", "thing"] sp_are_words := by
  refine F.ok sc_are_words (fun vs H Q E h => ?_) (fun cdv A outer s H vs Q E hr h => ?_)
  · obtain ⟨p, d, s, rfl, _⟩ := h
    rfl
  · obtain ⟨p, d, s, rfl, hd, hl, k⟩ := h
    obtain ⟨tM, T_MOST_WORDS⟩ := T.g_MOST_WORDS
    have hu := hu_of hr; have hu64 := L2.Room.units hr; refine ⟨_, (pss_cons (ps_if (PW.pt (pw_or (pt_not (pt_val (pe_callB (r := rIsi K) call_isi (by rfl) T.b_isinstance (by decide +kernel) (pa_cons (pv 1) (pa_cons (pe_bltn (v := .ty "dict") rfl T.b_dict (by decide +kernel) rfl) pa_nil))))) (pw_or1 (pt_cmpR op_gt (pe_callB call_lenD (by rfl) T.b_len (by decide +kernel) (pa_cons (pv 1) pa_nil)) (pe_glob (v := .int 300) rfl T_MOST_WORDS ⟨_, rfl⟩) (nomark _))))) (pss_one (ps_ret pe_bl)) pss_nil) (pss_one (ps_ret (pe_callB (r := rAll K) (cr_all rfl) (by rfl) T.b_all (by decide +kernel) (pa_cons (pe_lockR (pe_lc (own := [("word", 2)]) (g := (gName 2)) (tt := tYes) rfl sc_are_words.nd (pi_keys (pv 1)) (blkOk_by (N := N_are_words) (sc := defScope s_are_words) (by decide +kernel)) (fun _ _ _ _ _ => (pg_name (i := 2) sc_are_words.nd rfl (by first | exact Or.inl rfl | exact Or.inr rfl))) (fun _ _ _ _ _ => pts_nil) (fun _ _ _ _ _ => (pe_and (pe_callD D_is_short_word (hr.mono (by decide)) rfl pass0 (pa_cons (pv 2) pa_nil)) (pe_one (pe_callD D_is_within (hr.mono (by decide)) rfl pass0 (pa_cons (pe_dget hu (pv 1) (pv 2) (fun _ _ => rfl)) (pa_cons pe_int (pa_cons (pe_op op_sub (pv 0) pe_int) pa_nil))))))))) pa_nil))))), ?_⟩; rw [st_are_words]; (try dsimp only [cxOf]); walk_at "go"
    refine g_isi (n := "dict") (t := .type "dict") (b := true) (.base (.dK hd)) (kit_ty (by decide +kernel)) ?_
    walk_at "go"
    refine ⟨d, _, rfl, hd, ?_⟩
    rw [toK_len]
    walk_at "go"
    have h3 : ¬ ((300 : Int) < (s.length : Int)) := by have := hl.n; omega
    rw [decide_eq_false h3]
    walk_at "go"
    refine lcd_rel (.inl hd) (line5 (Nat.le_trans hl.n (by decide))) (fun H' Q' _ q => ⟨_, rfl, q⟩) (fun e y H => y = V.bl true) (fun e y H H' t h1 => h1) (fun _ => rfl) ?_ ?_
    · intro i z n H1 Kc hi le hk
      obtain ⟨l1, l2⟩ := hl.l z (mem_keys.mpr ⟨n, mem_fr hi⟩)
      have hsw : isSW z = true := by unfold isSW; rw [l2, decide_eq_true l1]; rfl
      walk_at "go"
      refine ⟨_, true, rfl, .inl ⟨z, rfl, by omega, hsw.symm⟩, fun H2 e2 => ?_⟩
      walk_at "go"
      refine g_dg (e2.rd le.self) (getS_at hl.g.nd hi) ?_
      walk_at "go"
      have c1 := hl.g.lo _ (mem_fr hi)
      have c2 := hl.g.hi _ (mem_fr hi)
      dsimp only at c1 c2
      refine ⟨_, 1, p - 1, true, rfl, .inl ⟨n, rfl, ?_⟩, hk _ _ e2 rfl⟩
      rw [decide_eq_true (by omega : (1 : Int) ≤ n), decide_eq_true (by omega : n ≤ p - 1)]
      rfl
    · intro D H1 ys hD e hl1 hp
      have hys := paired_map (G := fun e : Str × Int => V.bl true) hp
      subst hys
      walk_at "go"
      refine ⟨D, s.map fun _ => true, rfl, SqL.of (by rw [hl1, List.map_map]; rfl), ?_⟩
      have : (s.map fun _ => true).all id = true := by rw [List.all_map]; exact List.all_eq_true.mpr fun _ _ => rfl
      rw [this]
      exact k _ e
theorem putF_len (f : Str) (v : V) : ∀ fs : List (Str × V), (putF f v fs).length ≤ fs.length + 1
  | [] => Nat.le_refl _
  | q :: r => by
    obtain ⟨g, u⟩ := q
    unfold putF
    split
    · simp
    · have := putF_len f v r
      simp only [List.length_cons]
      omega
theorem putF_lt {n k : Nat} (h : n ≤ k) (hk : k < 1000) : n < 1000 := Nat.lt_of_le_of_lt h hk
def sp_keep (Cs : Addr → Prop) : Sp := fun vs H Q _ => ∃ (x d : Addr) (p : Int) (s : Bg) (C dx : Addr), vs = [.ref x, .int p, .ref d] ∧ H x = some (.ins C dx []) ∧ Cs C ∧ H d = some (.dK (toK s)) ∧ s.length ≤ 10000000 ∧ (∀ u ∈ keys s, u.length ≤ 10000000) ∧ (keys s).Nodup ∧
  ∀ k t H', ExB x H H' → H' x = some (.ins C dx (bagF p d k t)) → WordsAt H' t (wordsS s) → Q .non H'
theorem ok_keep {f : Addr} {fd : FuncData} (F : Fun K "keep" "Bag.keep" s_Bag_keep f fd) (T : Txt K mg C_Bag Cs) (D_words_in_order : DefOk P w K mg base CX0 4 "words_in_order" ["sparse"] sp_law_order) : FnOk P w K mg base CX0 5 f fd ["self", "clock", "sparse"] (sp_keep Cs) := by
  refine F.ok sc_Bag_keep (fun vs H Q E h => ?_) (fun cdv A outer s H vs Q E hr h => ?_)
  · obtain ⟨x, d, p, s, C, dx, rfl, _⟩ := h
    rfl
  · obtain ⟨x, d, p, s, C, dx, rfl, hx, hc, hd, hz, hw, hn, k⟩ := h
    have hxd : d ≠ x := fun e => by subst e; rw [hx] at hd; cases hd
    have hu := hu_of hr; have hu64 := L2.Room.units hr; refine ⟨_, (pss_cons (ps_fld (pv 0) (pv 1) rfl) (pss_cons (ps_fld (pv 0) (pv 2) rfl) (pss_cons (ps_fld (pv 0) pe_dnewK rfl) (pss_one (ps_fld (pv 0) (pe_callTy (r := rTupleZ K) call_tupleZ (by rfl) T.b_tuple (by decide +kernel) (pa_cons (pe_lc (own := [("word", 3)]) (g := (gName 3)) (tt := tYes) rfl sc_Bag_keep.nd (pi_list (pe_callD D_words_in_order (hr.mono (by decide)) rfl pass0 (pa_cons (pv 2) pa_nil))) (blkOk_by (N := N_Bag_keep) (sc := defScope s_Bag_keep) (by decide +kernel)) (fun _ _ _ _ _ => (pg_name (i := 3) sc_Bag_keep.nd rfl (by first | exact Or.inl rfl | exact Or.inr rfl))) (fun _ _ _ _ _ => pts_nil) (fun _ _ _ _ _ => (pe_tup (pa_cons (pv 3) (pa_cons (pe_dget hu (pv 2) (pv 3) (fun _ _ => rfl)) pa_nil))))) pa_nil)) rfl))))), ?_⟩; rw [st_Bag_keep]; (try dsimp only [cxOf]); walk_at "go"
    refine ⟨x, C, dx, _, rfl, hx, T.cls C hc, T.n_clock C hc, by decide, ?_⟩
    walk_at "go"
    refine ⟨x, C, dx, _, rfl, upd_same, T.cls C hc, T.n_sparse C hc, putF_lt (putF_len _ _ _) (by decide), ?_⟩
    rw [upd_upd]
    walk_at "go"
    intro k1 hk1
    have hk1x : k1 ≠ x := fun e => by subst e; rw [upd_same] at hk1; cases hk1
    walk_at "go"
    refine ⟨x, C, dx, _, rfl, by rw [upd_ne (Ne.symm hk1x)]; exact upd_same, T.cls C hc, T.n_kept C hc, putF_lt (Nat.le_trans (putF_len _ _ _) (Nat.succ_le_succ (putF_len _ _ _))) (by decide), ?_⟩
    walk_at "go"
    have e0 : ExB x H (upd (upd (upd H x (.ins C dx (putF "sparse" (V.ref d) (putF "clock" (V.int p) [])))) k1 (.dK [])) x (.ins C dx (putF "kept" (V.ref k1) (putF "sparse" (V.ref d) (putF "clock" (V.int p) []))))) := (((ExB.refl x H).upd).new hk1).upd
    have hx0 := upd_same (H := upd (upd H x (.ins C dx (putF "sparse" (V.ref d) (putF "clock" (V.int p) [])))) k1 (.dK [])) (a := x) (o := .ins C dx (putF "kept" (V.ref k1) (putF "sparse" (V.ref d) (putF "clock" (V.int p) []))))
    generalize upd (upd (upd H x (.ins C dx (putF "sparse" (V.ref d) (putF "clock" (V.int p) [])))) k1 (.dK [])) x (.ins C dx (putF "kept" (V.ref k1) (putF "sparse" (V.ref d) (putF "clock" (V.int p) [])))) = H0 at e0 hx0 ⊢
    have hd0 := e0 _ _ hxd hd
    refine ⟨d, s, rfl, .inl hd0, hz, hw, fun l H1 e1 hl1 hl => ?_⟩
    walk_at "go"
    refine ⟨⟨_, SqL.of hl⟩, ?_⟩
    have hlen : (ordW (keys s)).length = s.length := by rw [ordW_len]; unfold keys; rw [List.length_map]
    refine lc_rel (j := 3) walk_list (ordW (keys s)) (by rw [List.length_map]) (by rw [List.length_map, hlen]; exact line5 hz) (fun H' e => SqL.of (e _ _ hl)) (fun z y H => ∃ a, y = V.ref a ∧ H a = some (.tup [.str z, .int (cf s z)])) (fun e y H H' t ⟨a, h1, h2⟩ => ⟨a, h1, t _ _ h2⟩) (fun _ => rfl) ?_ ?_
    · rintro i x z H2 H3 Kc hi e2 ⟨rfl, hx⟩ hz2 hk
      rw [List.getElem?_map, hz2] at hx
      obtain rfl := (Option.some.inj hx).symm
      walk_at "go"
      refine g_dg (.inl ((e1.trans e2) _ _ hd0)) (getS_cf ((ordW_perm _).mem_iff.mp (List.mem_of_getElem? hz2))) ?_
      walk_at "go"
      exact ⟨Nat.le_of_ble_eq_true rfl, fun q hq => hk _ _ (Ex.new hq) ⟨q, rfl, upd_same⟩⟩
    · intro D H2 ys hD e2 hlD hp
      obtain ⟨as, rfl, hp'⟩ := paired_refs hp
      walk_at "go"
      refine ⟨D, _, rfl, SqL.of hlD, fun t o ht ho => ?_⟩
      have e3 : Ex H0 (upd H2 t (.frz o (.tup (as.map V.ref)))) := (e1.trans e2).trans (Ex.new ht)
      have htx : t ≠ x := Ne.symm (ne_of_none ((e1.trans e2) _ _ hx0) ht)
      walk_at "go"
      refine ⟨x, C, dx, _, rfl, e3 _ _ hx0, T.cls C hc, T.n_words C hc, putF_lt (Nat.le_trans (putF_len _ _ _) (Nat.succ_le_succ (Nat.le_trans (putF_len _ _ _) (Nat.succ_le_succ (putF_len _ _ _))))) (by decide), ?_⟩
      refine k k1 t _ ((e0.trans e3.exb).upd) (by rw [upd_same, bagF_made]) ⟨as, o, by rw [upd_ne htx]; exact upd_same, ho, Paired.mapP (pairs_at hp') fun a b q => ?_⟩
      have hax : a ≠ x := fun e => by
        subst e
        have h1 := (e1.trans e2) _ _ hx0
        rw [h1] at q
        cases q
      rw [upd_ne hax]
      exact Ex.new ht _ _ q

end
end Fp

namespace Fp
open PySem L2
section
variable {P : Program} {w : World} {K : PySem.W.Frag} {mg : Str → Option Value} {base : Heap} {C_Bag : Addr} {Cs : Addr → Prop}
local macro_rules | `(tactic| walk_at "hp") => `(tactic| first | assumption | rfl)
local macro_rules | `(tactic| walk_at "cond") => `(tactic| first | assumption | decide | omega | (unfold CMul; omega) | (refine ⟨?_, ?_⟩ <;> omega) | (unfold CDiv; omega) | (unfold CPow; omega))
local macro_rules | `(tactic| walk_at "g1") => `(tactic| first
  | with_reducible first
    | refine g_seq ?_ | refine g_asg ?_ | refine g_name ?_ | refine g_ret ?_ | refine g_retN ?_ | refine g_drop ?_ | refine g_ifs ?_
    | refine g_c ?_ | refine g_op ?_ | refine g_un ?_ | refine g_I0 ?_ | refine g_U ?_
    | refine g_test ?_ | refine g_tB ?_ | refine g_bl ?_ | refine g_and ?_ | refine g_or ?_ | refine g_not ?_
    | refine g_andV ?_ | refine g_orV ?_ | refine g_notV ?_ | refine g_if ?_ | refine g_nil ?_ | refine g_cons ?_ | refine g_cb ?_ | refine g_call ?_
    | refine g_lst ?_ | refine g_tup ?_ | refine g_itT ?_ | refine g_itF ?_ | refine g_itNT ?_ | refine g_itNF ?_ | refine g_lc ?_ | refine g_iStr ?_ | refine g_yes ?_ | refine g_exs ?_
    | refine g_chain ?_ | refine g_dget ?_ | refine g_dput ?_ | refine g_dget2 ?_ | refine g_dpop2 ?_ | refine g_fld ?_ | refine g_sfld ?_ | refine g_make ?_ | refine g_meth ?_
    | refine g_bm ?_ | refine g_kw ?_ | refine g_callS ?_ | refine g_revL ?_ | refine g_m1 ?_ | refine g_gsub ?_ | refine g_for ?_ | refine g_iList ?_ | refine g_iTup ?_ | refine g_iRng1 ?_ | refine g_iRng2 ?_ | refine g_sl ?_ | refine g_part ?_ | refine g_noPart ?_
    | refine g_exi ?_ | refine g_exr ?_ | refine g_dnew ?_ | refine g_disp ?_ | refine g_prs0 ?_ | refine g_prs ?_ | refine g_nxt ?_
  | ((with_reducible refine g_var (v := ?vv) ?gv ?_); (case gv => exact rfl))
  | ((with_reducible refine g_I ?gc ?_); (case gc => walk_at "cond"))
  | ((with_reducible refine g_eq ?ge ?_); (case ge => exact rfl))
  | ((with_reducible refine g_ne ?ge ?_); (case ge => exact rfl))
  | (refine g_ixl (SqL.of (by first | assumption | exact upd_same)) rfl ?_)
  | (refine g_setl (by first | assumption | exact upd_same) rfl ?_)
  | ((with_reducible show (∃ i, [V.int _] = [V.int i] ∧ _) ∨ _); refine Or.inl ⟨_, rfl, ?_⟩)
  | ((with_reducible show ∃ i, [V.int _] = [V.int i] ∧ _); refine ⟨_, rfl, ?_⟩)
  | dsimp only)
local macro_rules | `(tactic| walk_at "go") => `(tactic| repeat (walk_at "g1"))

def Clk (p : Int) : Prop := p = 2 ∨ p = 3 ∨ p = 5 ∨ p = 7
theorem Clk.lo {p : Int} (h : Clk p) : 2 ≤ p := by rcases h with h | h | h | h <;> omega
theorem Clk.hi {p : Int} (h : Clk p) : p ≤ 7 := by rcases h with h | h | h | h <;> omega
def sp_bag_init (C_Bag : Addr) (Cs : Addr → Prop) : Sp := fun vs H Q _ => ∃ (x d : Addr) (p : Int) (s : Bg) (dx : Addr), vs = [.ref x, .int p, .ref d] ∧ H x = some (.ins C_Bag dx []) ∧ Clk p ∧ H d = some (.dK (toK s)) ∧ Lot p s 300 12 ∧
  ∀ H', ExB x H H' → BagAt Cs H' x p s → Q .non H'
theorem ok_bag_init {f : Addr} {fd : FuncData} (F : Fun K "__init__" "Bag.__init__" s_Bag_init f fd) (T : Txt K mg C_Bag Cs) (D_is_clock : DefOk P w K mg base CX0 2 "is_clock" ["thing"] (sp_is_clock K))
    (D_are_words : DefOk P w K mg base CX0 3 "are_words" ["clock", "thing"] sp_are_words) (D_mt_Bag_keep : MtOk P w K mg base CX0 5 C_Bag "keep" ["self", "clock", "sparse"] (sp_keep Cs)) : FnOk P w K mg base CX0 6 f fd ["self", "clock", "words"] (sp_bag_init C_Bag Cs) := by
  refine F.ok sc_Bag_init (fun vs H Q E h => ?_) (fun cdv A outer s H vs Q E hr h => ?_)
  · obtain ⟨x, d, p, s, dx, rfl, _⟩ := h
    rfl
  · obtain ⟨x, d, p, s, dx, rfl, hx, hp, hd, hl, k⟩ := h
    have hxd : d ≠ x := fun e => by subst e; rw [hx] at hd; cases hd
    have hu := hu_of hr; have hu64 := L2.Room.units hr; refine ⟨_, (pss_cons (ps_if (pt_not (pt_val (pe_callD D_is_clock (hr.mono (by decide)) rfl pass0 (pa_cons (pv 1) pa_nil)))) (pss_one ps_never) pss_nil) (pss_cons (ps_if (pt_not (pt_val (pe_callD D_are_words (hr.mono (by decide)) rfl pass0 (pa_cons (pv 1) (pa_cons (pv 2) pa_nil))))) (pss_one ps_never) pss_nil) (pss_one (ps_expr (pe_mtD D_mt_Bag_keep (hr.mono (by decide)) pass0 (pv 0) (pa_cons (pv 1) (pa_cons (pe_callTy call_dictD (by rfl) T.b_dict (by decide +kernel) (pa_cons (pv 2) pa_nil)) pa_nil))))))), ?_⟩; rw [st_Bag_init]; (try dsimp only [cxOf]); walk_at "go"
    refine ⟨_, true, rfl, .inl ⟨p, rfl, (decide_eq_true (show p = 2 ∨ p = 3 ∨ p = 5 ∨ p = 7 from hp)).symm⟩, ?_⟩
    walk_at "go"
    refine ⟨p, d, s, rfl, hd, hl, fun H1 e1 => ?_⟩
    walk_at "go"
    refine ⟨x, dx, [], rfl, e1 _ _ hx, rfl, ?_⟩
    walk_at "go"
    refine ⟨d, toK s, rfl, .inl (e1 _ _ hd), fun d2 hd2 => ?_⟩
    walk_at "go"
    have hd2x : d2 ≠ x := Ne.symm (ne_of_none (e1 _ _ hx) hd2)
    refine ⟨x, d2, p, s, C_Bag, dx, rfl, Ex.new hd2 _ _ (e1 _ _ hx), T.c_base, upd_same, Nat.le_trans hl.n (by decide), fun u hu => Nat.le_trans (hl.l u hu).1 (by decide), hl.g.nd, fun k1 t H2 e2 h2 hw => ?_⟩
    exact k H2 ((e1.trans (Ex.new hd2)).exb.trans e2) ⟨C_Bag, dx, d2, k1, t, T.c_base, h2, e2 _ _ hd2x upd_same, hw⟩
/-- what == with a bag says -/
def EqIs (K : PySem.W.Frag) (C_Bag : Addr) (Cs : Addr → Prop) (H : Hp) (p : Int) (s : Bg) (y : V) (b : Bool) : Prop :=
  (∃ c q t, y = .ref c ∧ BagAt Cs H c q t ∧ b = (decide (p = q) && decide (wordsS s = wordsS t))) ∨ (∃ ty, TyX K H y ty ∧ PySem.W.kitOne K ty (.ref C_Bag) = some false ∧ b = false)
def sp_bag_eq (K : PySem.W.Frag) (C_Bag : Addr) (Cs : Addr → Prop) : Sp := fun vs H Q _ => ∃ (x : Addr) (p : Int) (s : Bg) (y : V) (b : Bool), vs = [.ref x, y] ∧ BagAt Cs H x p s ∧ EqIs K C_Bag Cs H p s y b ∧ Q (.bl b) H
theorem ok_bag_eq {f : Addr} {fd : FuncData} (F : Fun K "__eq__" "Bag.__eq__" s_Bag_eq f fd) (T : Txt K mg C_Bag Cs) : FnOk P w K mg base CX0 1 f fd ["self", "other"] (sp_bag_eq K C_Bag Cs) := by
  refine F.ok sc_Bag_eq (fun vs H Q E h => ?_) (fun cdv A outer s H vs Q E hr h => ?_)
  · obtain ⟨x, p, s, y, b, rfl, _⟩ := h
    rfl
  · obtain ⟨x, p, s, y, b, rfl, hx, he, k⟩ := h
    obtain ⟨C, dx, d, k1, t1, hc, h1, h2, h3⟩ := hx.ex
    have hu := hu_of hr; have hu64 := L2.Room.units hr; refine ⟨_, (pss_one (ps_ret (pe_and (pe_callB (r := rIsi K) call_isi (by rfl) T.b_isinstance (by decide +kernel) (pa_cons (pv 1) (pa_cons (pe_glob (v := .ref C_Bag) rfl T.c_Bag rfl) pa_nil))) (pe_and (pe_cmpR op_eq (pe_fldK (K := K) rfl (pv 0) rfl) (pe_fldK (K := K) rfl (pv 1) rfl) (nomark _)) (pe_one (pe_cmpR (r := rEqP K false) (op_eqP hu64) (pe_fldK (K := K) rfl (pv 0) rfl) (pe_fldK (K := K) rfl (pv 1) rfl) (nomark _))))))), ?_⟩; rw [st_Bag_eq]; (try dsimp only [cxOf]); walk_at "go"
    rcases he with ⟨c, q, t, rfl, hy, rfl⟩ | ⟨ty, hty, hk, rfl⟩
    · obtain ⟨C', dx', d', k1', t1', hc', h1', h2', h3'⟩ := hy.ex
      refine g_isC (b := true) (bag_ty T hc' h1') (T.c_isB C' hc') ?_
      walk_at "go"
      refine ⟨x, C, dx, _, _, rfl, h1, T.cls C hc, T.n_clock C hc, bagF_clock _ _ _ _, ?_⟩
      walk_at "go"
      refine ⟨c, C', dx', _, _, rfl, h1', T.cls C' hc', T.n_clock C' hc', bagF_clock _ _ _ _, ?_⟩
      walk_at "go"
      by_cases hpq : p = q
      · rw [decide_eq_true (by rw [hpq])]
        rw [decide_eq_true hpq] at k
        walk_at "go"
        refine ⟨x, C, dx, _, _, rfl, h1, T.cls C hc, T.n_words C hc, bagF_words _ _ _ _, ?_⟩
        walk_at "go"
        refine ⟨c, C', dx', _, _, rfl, h1', T.cls C' hc', T.n_words C' hc', bagF_words _ _ _ _, ?_⟩
        refine ⟨_, _, h3.dp, h3'.dp, plain_words _, plain_words _, depth_words _, ?_⟩
        rw [if_neg Bool.false_ne_true, eqv_words]
        exact k
      · rw [decide_eq_false (fun e => hpq (V.int.inj e))]
        rw [decide_eq_false hpq] at k
        walk_at "go"
        exact k
    · refine g_isC (b := false) hty hk ?_
      walk_at "go"
      exact k
structure EqOk (P : Program) (w : World) (K : PySem.W.Frag) (mg : Str → Option Value) (base : Heap) (C_Bag : Addr) (Cs : Addr → Prop) : Prop where
  ex : ∃ f fd, FnOk P w K mg base CX0 1 f fd ["self", "other"] (sp_bag_eq K C_Bag Cs) ∧ EqCls K f Cs ∧ Binds K fd ["self", "other"] []
theorem op_eqBagD {X : Cx} (D : EqOk X.prog X.w X.K X.mg X.base C_Bag Cs) (hr : Room 2 X.A) : OpR X (compareOp .Eq) (rBagEq X.K (sp_bag_eq X.K C_Bag Cs) Cs false) := by
  obtain ⟨f, fd, F, ec, hb⟩ := D.ex
  exact op_eqBag F ec hb pass0 hr
theorem op_neBagD {X : Cx} (D : EqOk X.prog X.w X.K X.mg X.base C_Bag Cs) (hr : Room 2 X.A) : OpR X (compareOp .NotEq) (rBagEq X.K (sp_bag_eq X.K C_Bag Cs) Cs true) := by
  obtain ⟨f, fd, F, ec, hb⟩ := D.ex
  exact op_neBag F ec hb pass0 hr
/-- a bag == a bag -/
theorem g_beq (T : Txt K mg C_Bag Cs) {H : Hp} {a c : Addr} {p q : Int} {s t : Bg} {neg : Bool} {Q : VK} (hx : BagAt Cs H a p s) (hy : BagAt Cs H c q t)
    (h : Q (.bl (if neg = true then !(decide (p = q) && decide (wordsS s = wordsS t)) else (decide (p = q) && decide (wordsS s = wordsS t)))) H) : rBagEq K (sp_bag_eq K C_Bag Cs) Cs neg (.ref a) (.ref c) H Q := by
  obtain ⟨C, dx, d, k1, t1, hc, h1, h2, h3⟩ := hx.ex
  obtain ⟨C', dx', d', k1', t1', hc', h1', h2', h3'⟩ := hy.ex
  rcases T.c_two C C' hc hc' with n | ⟨n1, n2⟩
  · exact .inl ⟨a, C, dx, _, .ref C', rfl, h1, hc, bag_ty T hc' h1', n, a, p, s, .ref c, _, rfl, hx, .inl ⟨c, q, t, rfl, hy, rfl⟩, _, rfl, h⟩
  · have e : (decide (q = p) && decide (wordsS t = wordsS s)) = (decide (p = q) && decide (wordsS s = wordsS t)) := by
      rw [Bool.eq_iff_iff]
      simp only [Bool.and_eq_true, decide_eq_true_eq]
      exact ⟨fun z => ⟨z.1.symm, z.2.symm⟩, fun z => ⟨z.1.symm, z.2.symm⟩⟩
    refine .inr ⟨a, c, C, C', dx, _, dx', _, rfl, rfl, h1, h1', hc, hc', n1, n2, c, q, t, .ref a, _, rfl, hy, .inl ⟨a, p, s, rfl, hx, rfl⟩, _, rfl, ?_⟩
    rw [e]
    exact h
/-- a bag == another thing -/
theorem g_bne (T : Txt K mg C_Bag Cs) {H : Hp} {a : Addr} {y : V} {p : Int} {s : Bg} {neg : Bool} {Q : VK} {ty : String} (hx : BagAt Cs H a p s) (hy : TyX K H y (.type ty)) (ht : ty ∈ (["NoneType", "bool", "int", "str", "list", "tuple", "dict"] : List String))
    (h : Q (.bl (if neg = true then !false else false)) H) : rBagEq K (sp_bag_eq K C_Bag Cs) Cs neg (.ref a) y H Q := by
  obtain ⟨C, dx, d, k1, t1, hc, h1, h2, h3⟩ := hx.ex
  exact .inl ⟨a, C, dx, _, .type ty, rfl, h1, hc, hy, T.c_pl C hc ty ht, a, p, s, y, false, rfl, hx, .inr ⟨_, hy, T.c_nb ty ht, rfl⟩, _, rfl, h⟩
/-- Bag(p, d) -/
theorem g_mkBag {H : Hp} {R : Addr → Hp → Prop} {p : Int} {d : Addr} {s : Bg} {E : XK} (hp : Clk p) (hd : H d = some (.dK (toK s))) (hl : Lot p s 300 12) (k : ∀ x H', Ex H H' → H x = none → BagAt Cs H' x p s → R x H') :
    ∀ x dx, H x = none → H dx = none → dx ≠ x → sp_bag_init C_Bag Cs (.ref x :: ([.int p, .ref d] ++ [])) (upd (upd H dx (.own x)) x (.ins C_Bag dx [])) (fun v H2 => v = .non ∧ R x H2) E := by
  intro x dx hx hdx hne
  have hx1 : upd H dx (.own x) x = none := by rw [upd_ne (Ne.symm hne)]; exact hx
  have e1 : Ex H (upd (upd H dx (.own x)) x (.ins C_Bag dx [])) := (Ex.new hdx).trans (Ex.new hx1)
  exact ⟨x, d, p, s, dx, rfl, upd_same, hp, e1 _ _ hd, hl, fun H' e hb => ⟨rfl, k x H' (fun a o q => e a o (ne_of_none q hx) (e1 _ _ q)) hx hb⟩⟩
/-- the same words in any order -/
theorem words_of_perm {s t : Bg} {p : Int} (gs : Good p s) (gt : Good p t) (h : ∀ kv, kv ∈ s ↔ kv ∈ t) : wordsS s = wordsS t := by
  refine wordsS_congr gs gt fun w => ?_
  by_cases hw : w ∈ keys s
  · obtain ⟨n, hn⟩ := mem_keys.mp hw
    rw [cf_of_mem gs.nd hn, cf_of_mem gt.nd ((h _).mp hn)]
  · have hw2 : w ∉ keys t := fun q => by
      obtain ⟨n, hn⟩ := mem_keys.mp q
      exact hw (mem_keys.mpr ⟨n, (h _).mpr hn⟩)
    rw [cf_not_mem hw, cf_not_mem hw2]
/-! ### facts of classes -/
theorem kit_self {K : PySem.W.Frag} {C : Addr} : PySem.W.kitOne K (.ref C) (.ref C) = some true := by
  unfold PySem.W.kitOne
  rw [if_pos (beq_self_eq_true _)]
theorem first_self {K : PySem.W.Frag} {C : Addr} : PySem.W.notFirst K C (.ref C) = true := by
  unfold PySem.W.notFirst
  rw [beq_self_eq_true]
  rfl
theorem first_not {K : PySem.W.Frag} {C : Addr} {t : Value} (h : PySem.W.subIn K t (.ref C) = some false) : PySem.W.notFirst K C t = true := by
  unfold PySem.W.notFirst
  rw [h]
  exact Bool.or_true _
theorem kit_not {K : PySem.W.Frag} {C : Addr} {t : String} (hc : PySem.W.isClsIn K C = true) (ht : PySem.W.typeIn K (.ref C) = some (.type "type")) (hs : PySem.W.subIn K (.type t) (.ref C) = some false) : PySem.W.kitOne K (.type t) (.ref C) = some false := by
  unfold PySem.W.kitOne PySem.W.kitCls
  have hc' : (PySem.W.clsIn K C).isSome = true := hc
  have e : ((Value.type t) == (Value.ref C)) = false := rfl
  rw [e, if_neg Bool.false_ne_true]
  dsimp only
  rw [hc', ht, hs]
  rfl

end
end Fp

/-! The algebra of bags, word by word. -/
namespace Fp
open PySem
/-- the same numbers -/
def Eqv (s t : Bg) : Prop := ∀ l, cl s l = cl t l
theorem Eqv.refl (s : Bg) : Eqv s s := fun _ => rfl
theorem Eqv.symm {s t : Bg} (h : Eqv s t) : Eqv t s := fun l => (h l).symm
theorem Eqv.trans {s t u : Bg} (h : Eqv s t) (h2 : Eqv t u) : Eqv s u := fun l => (h l).trans (h2 l)
section
variable {p : Int} {s t u s' t' : Bg}
theorem Eqv.words (gs : Good p s) (gt : Good p t) (h : Eqv s t) : wordsS s = wordsS t := words_cl gs gt h
theorem Eqv.of_words (hs : (keys s).Nodup) (ht : (keys t).Nodup) (h : wordsS s = wordsS t) : Eqv s t := fun l => cf_congr_words hs ht h _
theorem prod_congr (hp : 0 < p) (hs : (keys s).Nodup) (ht : (keys t).Nodup) (hs' : (keys s').Nodup) (ht' : (keys t').Nodup) (h1 : Eqv s s') (h2 : Eqv t t') : Eqv (prodS p s t) (prodS p s' t') := fun l => by
  rw [cl_prod hp hs ht, cl_prod hp hs' ht', conv_congr h1 h2]
theorem plus_congr (hp : 0 < p) (gs : Good p s) (ht : (keys t).Nodup) (gs' : Good p s') (ht' : (keys t').Nodup) (f : Int) (h1 : Eqv s s') (h2 : Eqv t t') : Eqv (plusS p s t f) (plusS p s' t' f) := fun l => by
  rw [cl_plus hp gs ht, cl_plus hp gs' ht', h1 l, h2 l]
theorem assoc_eqv (hp : 0 < p) (gs : Good p s) (gt : Good p t) (gu : Good p u) : Eqv (prodS p (prodS p s t) u) (prodS p s (prodS p t u)) :=
  .of_words (Good.prod hp _ _).nd (Good.prod hp _ _).nd (prod_assoc hp gs gt gu)
def one1 : Bg := [("", 1)]
theorem one1_good (hp : 1 < p) : Good p one1 := ⟨by decide +kernel, fun kv h => by rw [List.mem_singleton.mp h]; decide, fun kv h => by rw [List.mem_singleton.mp h]; exact hp⟩
def delta (l : List Nat) : Int := if l = [] then 1 else 0
theorem cl_one (l : List Nat) : cl one1 l = delta l := by
  unfold cl delta
  by_cases h : l = []
  · subst h
    rfl
  · rw [if_neg h]
    refine cf_not_mem fun q => h ?_
    have : ofL l = ("" : Str) := List.mem_singleton.mp q
    exact ofL_inj.mp (this.trans (show ("" : Str) = ofL [] from rfl))
theorem conv_zero_l (G : List Nat → Int) : ∀ v, conv (fun _ => 0) G v = 0
  | [] => by rw [conv_nil, Int.zero_mul]
  | c :: v => by rw [conv_cons, Int.zero_mul, conv_zero_l G v]; rfl
theorem conv_delta_l (G : List Nat → Int) : ∀ v, conv delta G v = G v
  | [] => by rw [conv_nil]; exact Int.one_mul _
  | c :: v => by
    rw [conv_cons]
    have : (fun x => delta (c :: x)) = fun _ => (0 : Int) := rfl
    rw [this, conv_zero_l, show delta [] = 1 from rfl, Int.one_mul, Int.add_zero]
theorem conv_delta_r : ∀ (v : List Nat) (G : List Nat → Int), conv G delta v = G v
  | [], G => by rw [conv_nil]; exact Int.mul_one _
  | c :: v, G => by rw [conv_cons, conv_delta_r v, show delta (c :: v) = 0 from rfl, Int.mul_zero, Int.zero_add]
theorem one_prod (hp : 1 < p) (g : Good p s) : Eqv (prodS p one1 s) s := fun l => by
  rw [cl_prod (by omega) (one1_good hp).nd g.nd, conv_congr cl_one (fun _ => rfl), conv_delta_l, cl_mod (by omega) g]
theorem prod_one (hp : 1 < p) (g : Good p s) : Eqv (prodS p s one1) s := fun l => by
  rw [cl_prod (by omega) g.nd (one1_good hp).nd, conv_congr (fun _ => rfl) cl_one, conv_delta_r, cl_mod (by omega) g]
theorem prod_nil : prodS p s [] = [] := by
  unfold prodS
  have : ∀ (l acc : Bg), l.foldl (fun acc a => prodRow p acc a []) acc = acc := by
    intro l
    induction l with
    | nil => intro acc; rfl
    | cons a r ih => intro acc; exact ih acc
  exact this s []
theorem distrib_r (hp : 0 < p) (gs : Good p s) (gt : Good p t) (gu : Good p u) (f : Int) : Eqv (prodS p s (plusS p t u f)) (plusS p (prodS p s t) (prodS p s u) f) := fun l => by
  rw [cl_prod hp gs.nd (Good.plus hp gt u).nd, cl_plus hp (Good.prod hp s t) (Good.prod hp s u).nd, cl_prod hp gs.nd gt.nd, cl_prod hp gs.nd gu.nd]
  have h1 : conv (cl s) (cl (plusS p t u f)) l % p = conv (cl s) (fun x => cl t x + f * cl u x) l % p := conv_mod (fun _ => rfl) (fun x => by rw [cl_plus hp gt gu.nd, Int.emod_emod_of_dvd _ (Int.dvd_refl p)]) l
  rw [h1, conv_addr, conv_mulr]
  simp [Int.add_emod, Int.mul_emod]
theorem distrib_l (hp : 0 < p) (gs : Good p s) (gt : Good p t) (gu : Good p u) (f : Int) : Eqv (prodS p (plusS p t u f) s) (plusS p (prodS p t s) (prodS p u s) f) := fun l => by
  rw [cl_prod hp (Good.plus hp gt u).nd gs.nd, cl_plus hp (Good.prod hp t s) (Good.prod hp u s).nd, cl_prod hp gt.nd gs.nd, cl_prod hp gu.nd gs.nd]
  have h1 : conv (cl (plusS p t u f)) (cl s) l % p = conv (fun x => cl t x + f * cl u x) (cl s) l % p := conv_mod (fun x => by rw [cl_plus hp gt gu.nd, Int.emod_emod_of_dvd _ (Int.dvd_refl p)]) (fun _ => rfl) l
  rw [h1, conv_addl, conv_mull]
  simp [Int.add_emod, Int.mul_emod]
end
end Fp

/-! Full bags: what the numbers of the beginnings of words come to. -/
namespace Fp
open PySem L2
/-- what the numbers at the beginnings of a word come to -/
def pf (F : List Nat → Int) (l : List Nat) : Int := conv F (fun _ => 1) l
theorem pf_nil (F : List Nat → Int) : pf F [] = F [] := by unfold pf; rw [conv_nil, Int.mul_one]
theorem pf_cons (F : List Nat → Int) (c : Nat) (v : List Nat) : pf F (c :: v) = F [] + pf (fun x => F (c :: x)) v := by unfold pf; rw [conv_cons, Int.mul_one]
theorem pf_snoc (c : Nat) : ∀ (a : List Nat) (F : List Nat → Int), pf F (a ++ [c]) = pf F a + F (a ++ [c])
  | [], F => by rw [List.nil_append, pf_cons, pf_nil, pf_nil]
  | d :: a, F => by
    rw [List.cons_append, pf_cons, pf_cons, pf_snoc c a]
    show _ = _ + F (d :: (a ++ [c]))
    omega
theorem pf_zero : ∀ (m : List Nat) (F : List Nat → Int), (∀ x, x <+: m → F x = 0) → pf F m = 0
  | [], F, h => by rw [pf_nil]; exact h [] (List.prefix_refl _)
  | c :: m, F, h => by
    rw [pf_cons, h [] (List.nil_prefix), pf_zero m _ fun x hx => h (c :: x) (List.cons_prefix_cons.mpr ⟨rfl, hx⟩)]
    rfl
/-- nothing comes behind a -/
theorem pf_app (m : List Nat) : ∀ (a : List Nat) (F : List Nat → Int), (∀ x, x ≠ [] → x <+: m → F (a ++ x) = 0) → pf F (a ++ m) = pf F a
  | [], F, h => by
    cases m with
    | nil => rfl
    | cons c m =>
      have e0 : pf (fun x => F (c :: x)) m = 0 := pf_zero m _ fun x hx => h (c :: x) (List.cons_ne_nil _ _) (List.cons_prefix_cons.mpr ⟨rfl, hx⟩)
      rw [List.nil_append, pf_cons, pf_nil, e0]
      omega
  | d :: a, F, h => by
    rw [List.cons_append, pf_cons, pf_cons, pf_app m a _ fun x h1 h2 => h x h1 h2]
theorem pf_add (F G : List Nat → Int) (l : List Nat) : pf (fun x => F x + G x) l = pf F l + pf G l := conv_addl F G _ l
theorem pf_mul (k : Int) (F : List Nat → Int) (l : List Nat) : pf (fun x => k * F x) l = k * pf F l := conv_mull k F _ l
theorem pf_mod {p : Int} {F G : List Nat → Int} (h : ∀ x, F x % p = G x % p) (l : List Nat) : pf F l % p = pf G l % p := conv_mod h (fun _ => rfl) l
/-- the same as a sum over a word's beginnings -/
theorem pf_range (F : List Nat → Int) (l : List Nat) : ((List.range (l.length + 1)).map fun k => F (l.take k)).sum = pf F l := by
  have key : ∀ n, n ≤ l.length → ((List.range (n + 1)).map fun k => F (l.take k)).sum = pf F (l.take n) := by
    intro n
    induction n with
    | zero => intro _; rw [List.take_zero, pf_nil]; simp
    | succ n ih =>
      intro hn
      rw [List.range_succ, List.map_append, List.sum_append, ih (by omega)]
      obtain ⟨c, hc⟩ : ∃ c, l[n]? = some c := ⟨l[n], by rw [List.getElem?_eq_getElem]⟩
      rw [List.take_add_one, hc]
      simp only [Option.toList_some]
      rw [pf_snoc]
      simp only [List.map_cons, List.map_nil, List.sum_cons, List.sum_nil]
      rw [List.take_add_one, hc]
      simp only [Option.toList_some]
      omega
  rw [key l.length (Nat.le_refl _), List.take_length]
/-! ### full -/
def OverL (z l : List Nat) : Prop := ∀ c ∈ l, c ∈ z
theorem OverL.app {z a b : List Nat} (h : OverL z a) (h2 : OverL z b) : OverL z (a ++ b) := fun c hc => (List.mem_append.mp hc).elim (h c) (h2 c)
theorem OverL.rep {z : List Nat} {c : Nat} (h : c ∈ z) (n : Nat) : OverL z (List.replicate n c) := fun d hd => by rw [(List.mem_replicate.mp hd).2]; exact h
theorem OverL.left {z a b : List Nat} (h : OverL z (a ++ b)) : OverL z a := fun c hc => h c (List.mem_append_left _ hc)
theorem OverL.take {z l : List Nat} (h : OverL z l) (n : Nat) : OverL z (l.take n) := fun c hc => h c (List.mem_of_mem_take hc)
/-- F has no word of more than n letters -/
def Len (F : List Nat → Int) (n : Nat) : Prop := ∀ l, n < l.length → F l = 0
def Full (p : Int) (z : List Nat) (F : List Nat → Int) : Prop := ∃ n, ∀ l, OverL z l → n ≤ l.length → pf F l % p = 1
theorem pf_len {F : List Nat → Int} {n : Nat} (h : Len F n) {l m : List Nat} (hl : n ≤ l.length) : pf F (l ++ m) = pf F l :=
  pf_app m l F fun x hx _ => h _ (by rw [List.length_append]; have := List.length_pos_iff.mpr hx; omega)
theorem Full.at {p : Int} {z : List Nat} {F : List Nat → Int} {c n : Nat} (h : Full p z F) (hc : c ∈ z) (hn : Len F n) {l : List Nat} (hl : OverL z l) (hll : n ≤ l.length) : pf F l % p = 1 := by
  obtain ⟨N, h⟩ := h
  rw [← pf_len (m := List.replicate N c) hn hll]
  exact h _ (hl.app (OverL.rep hc N)) (by rw [List.length_append, List.length_replicate]; omega)
/-- at the words of just so many letters, as many as the longest has, alone -/
theorem full_iff {p : Int} {z : List Nat} {F : List Nat → Int} {c n m : Nat} (hc : c ∈ z) (hn : Len F n) (hm : n ≤ m) : Full p z F ↔ ∀ l, OverL z l → l.length = m → pf F l % p = 1 := by
  refine ⟨fun h l h1 h2 => h.at hc hn h1 (by omega), fun h => ⟨m, fun l h1 h2 => ?_⟩⟩
  rw [← List.take_append_drop m l, pf_len hn (by rw [List.length_take]; omega)]
  exact h _ (h1.take m) (by rw [List.length_take]; omega)
/-- K: words that go with their beginnings, all words of F among them -/
structure Tree (F : List Nat → Int) (K : List Nat → Prop) : Prop where
  nil : K []
  pre : ∀ a c, K (a ++ [c]) → K a
  has : ∀ l, F l ≠ 0 → K l
theorem Tree.pre' {F : List Nat → Int} {K : List Nat → Prop} (t : Tree F K) : ∀ (m a : List Nat), K (a ++ m) → K a
  | [], a, h => by rwa [List.append_nil] at h
  | c :: m, a, h => t.pre _ _ (t.pre' m (a ++ [c]) (by rw [List.append_assoc]; exact h))
theorem Tree.out {F : List Nat → Int} {K : List Nat → Prop} (t : Tree F K) {a : List Nat} {c : Nat} (h : ¬ K (a ++ [c])) (m : List Nat) : pf F (a ++ c :: m) = pf F a := by
  refine pf_app _ _ _ fun x hx hp => ?_
  cases x with
  | nil => exact absurd rfl hx
  | cons d x =>
    obtain rfl := (List.cons_prefix_cons.mp hp).1
    refine Classical.byContradiction fun h0 => h ?_
    have := t.has _ h0
    rw [show a ++ d :: x = a ++ [d] ++ x from by simp] at this
    exact t.pre' _ _ this
theorem full_tree {p : Int} {z : List Nat} {F : List Nat → Int} {K : List Nat → Prop} {c n : Nat} (hc : c ∈ z) (hn : Len F n) (t : Tree F K) (hK : ∀ l, K l → l.length ≤ n) :
    Full p z F ↔ ∀ l, OverL z l → K l → pf F l % p = 1 ∨ ∀ d ∈ z, K (l ++ [d]) := by
  constructor
  · intro h l hl hk
    by_cases hd : ∀ d ∈ z, K (l ++ [d])
    · exact .inr hd
    · refine .inl ?_
      obtain ⟨d, hd⟩ := Classical.not_forall.mp hd
      obtain ⟨hdz, hdk⟩ := Classical.not_imp.mp hd
      rw [← t.out hdk (List.replicate n d)]
      refine h.at hc hn ((hl.app fun e he => ?_)) ?_
      · rcases List.mem_cons.mp he with q | q
        · rw [q]; exact hdz
        · rw [(List.mem_replicate.mp q).2]; exact hdz
      · rw [List.length_append, List.length_cons, List.length_replicate]
        omega
  · intro h
    refine (full_iff hc hn (Nat.le_refl n)).mpr fun l hl hll => ?_
    have key : ∀ m a, OverL z (a ++ m) → n ≤ (a ++ m).length → K a → pf F (a ++ m) % p = 1 := by
      intro m
      induction m with
      | nil =>
        intro a ha hal hk
        rw [List.append_nil] at ha hal ⊢
        rcases h a ha hk with q | q
        · exact q
        · have := hK _ (q c hc)
          rw [List.length_append, List.length_singleton] at this
          omega
      | cons d m ih =>
        intro a ha hal hk
        by_cases hdk : K (a ++ [d])
        · have := ih (a ++ [d]) (by simpa using ha) (by simpa using hal) hdk
          simpa using this
        · rw [t.out hdk m]
          rcases h a ha.left hk with q | q
          · exact q
          · exact absurd (q d (ha d (by simp))) hdk
    exact key l [] hl (by rw [List.nil_append]; omega) t.nil
/-! ### grown -/
def dl (l : List Nat) : Int := if l = [] then 1 else 0
def lets (z : List Nat) (l : List Nat) : Int := if ∃ c ∈ z, l = [c] then 1 else 0
def Grown (p : Int) (z : List Nat) (P A : List Nat → Int) : Prop := ∀ l, P l % p = (dl l - A l + conv A (lets z) l) % p
theorem pf_dl : ∀ l, pf dl l = 1
  | [] => by rw [pf_nil]; rfl
  | c :: l => by
    have e0 : pf (fun x => dl (c :: x)) l = 0 := pf_zero l _ fun x _ => if_neg (List.cons_ne_nil _ _)
    rw [pf_cons, e0]
    rfl
theorem pf_lets {z : List Nat} {l : List Nat} (h : OverL z l) : pf (lets z) l = 1 - dl l := by
  cases l with
  | nil => rw [pf_nil]; unfold lets dl; rw [if_neg (by rintro ⟨c, _, e⟩; cases e), if_pos rfl]; rfl
  | cons c l =>
    have h1 : (fun x => lets z (c :: x)) = dl := by
      funext x
      unfold lets dl
      by_cases hx : x = []
      · subst hx
        rw [if_pos ⟨c, h c List.mem_cons_self, rfl⟩, if_pos rfl]
      · rw [if_neg hx, if_neg]
        rintro ⟨d, _, e⟩
        exact hx (List.cons.inj e).2
    have h2 : lets z [] = 0 := by unfold lets; rw [if_neg (by rintro ⟨c, _, e⟩; cases e)]
    rw [pf_cons, h1, pf_dl, h2]
    unfold dl
    rw [if_neg (List.cons_ne_nil _ _)]
    rfl
theorem conv_dl (A : List Nat → Int) (l : List Nat) : conv A dl l = A l := by
  induction l generalizing A with
  | nil => rw [conv_nil]; unfold dl; rw [if_pos rfl, Int.mul_one]
  | cons c l ih =>
    rw [conv_cons, ih]
    unfold dl
    rw [if_neg (List.cons_ne_nil _ _)]
    omega
theorem conv_over {A G G' : List Nat → Int} {z : List Nat} : ∀ {l : List Nat}, OverL z l → (∀ x, OverL z x → G x = G' x) → conv A G l = conv A G' l := by
  intro l
  induction l generalizing A with
  | nil => intro _ h; rw [conv_nil, conv_nil, h [] (fun _ z => nomatch z)]
  | cons c l ih =>
    intro hl h
    rw [conv_cons, conv_cons, h _ hl, ih (fun d hd => hl d (List.mem_cons_of_mem _ hd)) h]
theorem Grown.pfx {p : Int} {z : List Nat} {P A : List Nat → Int} (g : Grown p z P A) {l : List Nat} (hl : OverL z l) : pf P l % p = (1 - A l) % p := by
  have e1 : pf P l % p = pf (fun l => dl l + ((-1) * A l + conv A (lets z) l)) l % p := pf_mod (fun x => by rw [g x]; congr 1; omega) l
  rw [e1, pf_add, pf_add, pf_mul, pf_dl]
  have e2 : pf (conv A (lets z)) l = pf A l - A l := by
    unfold pf
    rw [conv_assoc, conv_over (G' := fun x => 1 + (-1) * dl x) hl (fun x hx => by have := pf_lets hx; unfold pf at this; rw [this]; omega), conv_addr, conv_mulr, conv_dl]
    omega
  rw [e2]
  congr 1
  omega
theorem Grown.full {p : Int} {z : List Nat} {P A : List Nat → Int} {n : Nat} (hp : 1 < p) (g : Grown p z P A) (hA : Len A n) : Full p z P :=
  ⟨n + 1, fun l hl hll => by rw [g.pfx hl, hA l (by omega)]; exact Int.emod_eq_of_lt (by omega) (by omega)⟩
/-- with the number of a word changed -/
theorem not_full {p k : Int} {z : List Nat} {F G : List Nat → Int} {c n : Nat} {w : List Nat} (hp : 1 < p) (hc : c ∈ z) (hn : Len F n) (hw : OverL z w) (hk : 0 < k) (hk1 : k < p) (hG : ∀ l, G l % p = (F l + k * (if l = w then 1 else 0)) % p)
    (h : Full p z F) (h2 : Full p z G) : False := by
  obtain ⟨N, h2⟩ := h2
  have hl : OverL z (w ++ List.replicate (N + n) c) := hw.app (OverL.rep hc _)
  have hlen : (w ++ List.replicate (N + n) c).length = w.length + (N + n) := by rw [List.length_append, List.length_replicate]
  have h3 := h2 _ hl (by omega)
  have h4 := h.at hc hn hl (by omega)
  rw [pf_mod hG, pf_add, pf_mul] at h3
  have h5 : ∀ (u : List Nat) (m : List Nat), pf (fun l => if l = u then (1 : Int) else 0) (u ++ m) = 1 := by
    intro u m
    induction u with
    | nil => exact pf_dl m
    | cons d u ih =>
      rw [List.cons_append, pf_cons, if_neg (by simp)]
      have : (fun x => if d :: x = d :: u then (1 : Int) else 0) = fun x => if x = u then 1 else 0 := by
        funext x
        by_cases q : x = u
        · rw [if_pos (by rw [q]), if_pos q]
        · rw [if_neg (fun e => q (List.cons.inj e).2), if_neg q]
      rw [this, ih]
      rfl
  rw [h5, Int.mul_one] at h3
  have h6 : (1 + k) % p = 1 := by
    have : (pf F (w ++ List.replicate (N + n) c) + k) % p = (pf F (w ++ List.replicate (N + n) c) % p + k) % p := by rw [Int.emod_add_emod]
    rw [this, h4] at h3
    exact h3
  by_cases q : 1 + k < p
  · rw [Int.emod_eq_of_lt (by omega) q] at h6; omega
  · have : 1 + k = p := by omega
    rw [this, Int.emod_self] at h6
    cases h6
end Fp

/-! Lists of bags. -/
namespace Fp
open PySem L2
/-- all but lists stand -/
def ExL (H H' : Hp) : Prop := ∀ a o, (∀ xs, o ≠ .lst xs) → H a = some o → H' a = some o
theorem ExL.trans {H H1 H2 : Hp} (a : ExL H H1) (b : ExL H1 H2) : ExL H H2 := fun x o n h => b x o n (a x o n h)
theorem Ex.exl {H H' : Hp} (e : Ex H H') : ExL H H' := fun a o _ h => e a o h
theorem ExL.upd {H : Hp} {a : Addr} {o : HO} {xs : List V} (h : H a = some (.lst xs)) : ExL H (L2.upd H a o) := fun b u n q => by
  rw [upd_ne (fun e => by subst e; rw [h] at q; exact n xs (Option.some.inj q).symm)]
  exact q
theorem BagAt.exl {Cs : Addr → Prop} {H H' : Hp} {a : Addr} {p : Int} {s : Bg} (e : ExL H H') (b : BagAt Cs H a p s) : BagAt Cs H' a p s := by
  obtain ⟨C, dx, d, k, t, h0, h1, h2, ⟨qs, o, h3, h4, h5⟩⟩ := b.ex
  exact ⟨C, dx, d, k, t, h0, e _ _ (fun _ z => nomatch z) h1, e _ _ (fun _ z => nomatch z) h2, ⟨qs, o, e _ _ (fun _ z => nomatch z) h3, h4, Paired.mapP h5 fun q kv z => e _ _ (fun _ z => nomatch z) z⟩⟩
theorem WordsAt.exl {H H' : Hp} {t : Addr} {l : Bg} (e : ExL H H') (h : WordsAt H t l) : WordsAt H' t l := by
  obtain ⟨qs, o, h1, hd, h2⟩ := h.ex
  exact ⟨qs, o, e _ _ (fun _ z => nomatch z) h1, hd, Paired.mapP h2 fun _ _ z => e _ _ (fun _ z => nomatch z) z⟩
section
variable {J : It} {n : Nat} {G : Hp → Prop} {Y : Nat → Hp → V → Hp → Prop} {α : Type}
theorem lc_relL (w : Walk J n G Y) {j : Nat} {te : TE} {vs : List Nat} {σ : St} {H1 : Hp} {Q : VK} (es : List α) (hl : es.length = n) (hn : n ≤ sizeLine) (hG : ∀ H, Ex H1 H → G H)
    (R : α → V → Hp → Prop) (hR : ∀ e y H H', ExL H H' → R e y H → R e y H') (hw : ∀ x, wipe ((wipe σ vs).set j x) vs = wipe σ vs)
    (hs : ∀ i x e H H' (K : VK), i < n → Ex H1 H → Y i H x H' → es[i]? = some e → (∀ y H4, Ex H H4 → R e y H4 → K y H4) → te ((wipe σ vs).set j (some x)) H' K)
    (hd : ∀ D H' ys, H1 D = none → Ex H1 H' → H' D = some (.lst ys) → Paired (fun y e => R e y H') ys es → Q (.ref D) H') :
    LcG J (gName j) tYes te vs σ H1 Q := by
  intro D hD
  refine lc_it w (fun i H => Ex H1 H ∧ ∃ ys, H D = some (.lst ys) ∧ Paired (fun y e => R e y H) ys (es.take i)) ⟨Ex.new hD, [], upd_same, .nil⟩ (fun i H _ p => hG H p.1) ?_ (fun H p => ?_)
  · rintro i x H H' hi ⟨e, ys, hacc, hp⟩ hy
    have hi' : i < es.length := by omega
    obtain ⟨y, hyi⟩ : ∃ y, es[i]? = some y := ⟨es[i], by simp [hi']⟩
    refine ⟨hw _, ?_⟩
    unfold tYes
    dsimp only
    rw [if_pos rfl]
    have hlen : ys.length = i := by rw [hp.length, List.length_take]; omega
    refine hs i x y H H' _ hi e hy hyi fun z H4 e4 rz => ⟨ys, e4 _ _ hacc, by omega, ?_, ys ++ [z], upd_same, ?_⟩
    · exact Ex.mut (e.trans e4) hD
    · have tu : ExL H4 (L2.upd H4 D (.lst (ys ++ [z]))) := ExL.upd (e4 _ _ hacc)
      rw [List.take_add_one, hyi]
      exact Paired.snoc (Paired.mapP hp fun a b q => hR _ _ _ _ (e4.exl.trans tu) q) (hR _ _ _ _ tu rz)
  · obtain ⟨e, ys, h, hp⟩ := p
    rw [← hl, List.take_length] at hp
    exact hd D H ys hD e h hp
end
theorem pe_bmK {X : Cx} {K : PySem.W.Frag} (hK : X.K = K) {ex : Expr} {T : String} {to : TE} {t : TA} {r : V → List V → Hp → VK → Prop} (h : PE X ex (tBM X.K T r to t)) : PE X ex (tBM K T r to t) := hK ▸ h
/-! ### lists of words -/
theorem dpAll_wordss {K : PySem.W.Frag} {H : Hp} {ts : List Addr} {ls : List Bg} (h : Paired (fun t l => WordsAt H t l) ts ls) : DpAll K H (ts.map V.ref) (ls.map wordsD) := by
  induction h with
  | nil => exact .nil
  | cons h1 _ ih => exact .cons h1.dp ih
theorem plainAll_wordss (ls : List Bg) : PyData.plainAll (ls.map wordsD) = true := by
  induction ls with
  | nil => rfl
  | cons q r ih => rw [List.map_cons, PyData.plainAll, ih, plain_words]; rfl
theorem depthAll_wordss (ls : List Bg) : PyData.depthAll (ls.map wordsD) ≤ 2 := by
  induction ls with
  | nil => simp [PyData.depthAll]
  | cons q r ih =>
    rw [List.map_cons, PyData.depthAll]
    have h1 := depthAll_words q
    have h2 : (wordsD q).depth ≤ 2 := by simp only [wordsD, PyData.depth]; omega
    omega
theorem eqvAll_wordss : ∀ l m : List Bg, PyData.eqvAll (l.map wordsD) (m.map wordsD) = decide (l = m)
  | [], [] => by simp [PyData.eqvAll]
  | [], b :: m => by simp [PyData.eqvAll]
  | a :: l, [] => by simp [PyData.eqvAll]
  | a :: l, b :: m => by
    rw [List.map_cons, List.map_cons, PyData.eqvAll, eqv_words, eqvAll_wordss l m]
    rw [Bool.eq_iff_iff]
    simp
/-- two lists of words are compared -/
theorem g_eqWs {K : PySem.W.Frag} {H : Hp} {a b : Addr} {ts us : List Addr} {ls ms : List Bg} {neg : Bool} {Q : VK} (ha : SqL K H a (ts.map V.ref)) (hb : SqL K H b (us.map V.ref)) (h1 : Paired (fun t l => WordsAt H t l) ts ls) (h2 : Paired (fun t l => WordsAt H t l) us ms)
    (h : Q (.bl (if neg = true then !decide (ls = ms) else decide (ls = ms))) H) : rEqP K neg (.ref a) (.ref b) H Q := by
  refine ⟨.list (ls.map wordsD), .list (ms.map wordsD), .lst ha (dpAll_wordss h1), .lst hb (dpAll_wordss h2), plainAll_wordss _, plainAll_wordss _, ?_, ?_⟩
  · have := depthAll_wordss ls
    simp only [PyData.depth]
    omega
  · have e : PyData.eqv (.list (ls.map wordsD)) (.list (ms.map wordsD)) = decide (ls = ms) := eqvAll_wordss ls ms
    rw [e]
    exact h
end Fp

/-! Comprehensions that choose; dict comprehensions over a dict; dict(pairs). -/
namespace Fp
open PySem L2
section
variable {J : It} {n : Nat} {G : Hp → Prop} {Y : Nat → Hp → V → Hp → Prop} {α : Type}
/-- a comprehension that chooses: its elements stand to the chosen es as R says -/
theorem lc_relF (w : Walk J n G Y) {j : Nat} {te : TE} {tt : TT} {vs : List Nat} {σ : St} {H1 : Hp} {Q : VK} (es : List α) (sel : α → Bool) (hl : es.length = n) (hn : n ≤ sizeLine) (hG : ∀ H, Ex H1 H → G H)
    (R : α → V → Hp → Prop) (hR : ∀ e y H H', ExL H H' → R e y H → R e y H') (hw : ∀ x, wipe ((wipe σ vs).set j x) vs = wipe σ vs)
    (hs : ∀ i x e H H' (K : VK) (N : Hp → Prop), i < n → Ex H1 H → Y i H x H' → es[i]? = some e → (sel e = true → ∀ y H4, Ex H H4 → R e y H4 → K y H4) → (sel e = false → ∀ H4, Ex H H4 → N H4) →
      tt ((wipe σ vs).set j (some x)) H' fun b H3 => if b = true then te ((wipe σ vs).set j (some x)) H3 K else N H3)
    (hd : ∀ D H' ys, H1 D = none → Ex H1 H' → H' D = some (.lst ys) → Paired (fun y e => R e y H') ys (es.filter sel) → Q (.ref D) H') :
    LcG J (gName j) tt te vs σ H1 Q := by
  intro D hD
  refine lc_it w (fun i H => Ex H1 H ∧ ∃ ys, H D = some (.lst ys) ∧ Paired (fun y e => R e y H) ys ((es.take i).filter sel)) ⟨Ex.new hD, [], upd_same, .nil⟩ (fun i H _ p => hG H p.1) ?_ (fun H p => ?_)
  · rintro i x H H' hi ⟨e, ys, hacc, hp⟩ hy
    have hi' : i < es.length := by omega
    obtain ⟨y, hyi⟩ : ∃ y, es[i]? = some y := ⟨es[i], by simp [hi']⟩
    refine ⟨hw _, ?_⟩
    have hlen : ys.length ≤ i := by
      rw [hp.length]
      refine Nat.le_trans (List.length_filter_le _ _) ?_
      rw [List.length_take]
      omega
    refine hs i x y H H' _ _ hi e hy hyi (fun hsel z H4 e4 rz => ⟨ys, e4 _ _ hacc, by omega, ?_, ys ++ [z], upd_same, ?_⟩) fun hsel H4 e4 => ⟨e.trans e4, ys, e4 _ _ hacc, ?_⟩
    · exact Ex.mut (e.trans e4) hD
    · have tu : ExL H4 (L2.upd H4 D (.lst (ys ++ [z]))) := ExL.upd (e4 _ _ hacc)
      rw [List.take_add_one, hyi, List.filter_append]
      have : List.filter sel (some y).toList = [y] := by simp [hsel]
      rw [this]
      exact Paired.snoc (Paired.mapP hp fun a b q => hR _ _ _ _ (e4.exl.trans tu) q) (hR _ _ _ _ tu rz)
    · rw [List.take_add_one, hyi, List.filter_append]
      have : List.filter sel (some y).toList = [] := by simp [hsel]
      rw [this, List.append_nil]
      exact Paired.mapP hp fun a b q => hR _ _ _ _ e4.exl q
  · obtain ⟨e, ys, h, hp⟩ := p
    rw [← hl, List.take_length] at hp
    exact hd D H ys hD e h hp
end
/-- ExL to a heap in which a dict is unlocked -/
def ExT (H H' : Hp) : Prop := TupS H H'
section
variable {σ : St} {H : Hp} {Q : VK} {d : Addr} {s : Bg}
/-- a loop of any kind over a dict's keys: the dict locked, then unlocked -/
theorem lock_any {t : TE} (hd : Rd H d (.dK (toK s)))
    (core : ∀ (Hl : Hp) (od : Obj) (Q' : VK), Hl d = some (.frz od (.dK (toK s))) → LkEx d s H Hl → (∀ a, Hl a = none → H a = none) →
      (∀ v H', (∀ D, v = .ref D → H D = none) → Ex Hl H' → (∀ H2, Ex H H2 → (∀ a, a ≠ d → H2 a = H' a) → TupS H' H2 → Q v H2) → Q' v H') → t σ Hl Q') : tLockRE t σ H Q := by
  rcases hd with hd | ⟨od, hd⟩
  · refine .inl ⟨d, _, hd, trivial, fun od => ?_⟩
    refine core _ od _ upd_same ⟨fun a o ha q => by rw [upd_ne ha]; exact q, .inr ⟨od, upd_same⟩⟩ (fun a ha => ?_) fun v H' hv e hq => ?_
    · by_cases q : a = d
      · subst q; rw [upd_same] at ha; cases ha
      · rw [upd_ne q] at ha; exact ha
    · have hdl : H' d = some (.frz od (.dK (toK s))) := e _ _ upd_same
      refine ⟨hdl, hq _ (fun a o q => ?_) (fun a ha => by rw [upd_ne ha]) (TupS.upd hdl fun _ => by simp)⟩
      by_cases ha : a = d
      · subst ha
        rw [hd] at q
        cases q
        exact upd_same
      · rw [upd_ne ha]
        exact e a o (by rw [upd_ne ha]; exact q)
  · exact .inr (core H od Q hd ⟨fun a o _ h => h, .inr ⟨od, hd⟩⟩ (fun _ h => h) fun v H' hv e hq => hq H' e (fun _ _ => rfl) fun _ _ h => h)
end
/-- a comprehension over a dict's keys that chooses -/
theorem lcd_relF {σ : St} {H : Hp} {Q : VK} {d : Addr} {s : Bg} {te0 te : TE} {tt : TT} {j : Nat} {vs : List Nat} (hd : Rd H d (.dK (toK s))) (hz : s.length ≤ sizeLine)
    (he : ∀ (H' : Hp) (Q : VK), LkEx d s H H' → Q (.ref d) H' → te0 σ H' Q) (sel : Str × Int → Bool)
    (R : Str × Int → V → Hp → Prop) (hR : ∀ e y H H', TupS H H' → R e y H → R e y H') (hw : ∀ x, wipe ((wipe σ vs).set j x) vs = wipe σ vs)
    (hs : ∀ (i : Nat) (w : Str) (n : Int) (H' : Hp) (K : VK) (N : Hp → Prop), s[i]? = some (w, n) → LkEx d s H H' → (sel (w, n) = true → ∀ y H4, Ex H' H4 → R (w, n) y H4 → K y H4) → (sel (w, n) = false → ∀ H4, Ex H' H4 → N H4) →
      tt ((wipe σ vs).set j (some (.str w))) H' fun b H3 => if b = true then te ((wipe σ vs).set j (some (.str w))) H3 K else N H3)
    (hend : ∀ D H' ys, H D = none → Ex H H' → H' D = some (.lst ys) → Paired (fun y e => R e y H') ys (s.filter sel) → Q (.ref D) H') : tLockRE (tLc (iKeys te0) (gName j) tt te vs) σ H Q := by
  refine lock_any hd fun Hl od Q' hl l0 hnone hq => ?_
  refine he Hl _ l0 ⟨d, od, rfl, .inl ⟨toK s, hl, ?_⟩⟩
  show LcG _ _ _ _ _ _ _ _
  refine lc_relF walk_keys s sel (toK_len s).symm (by rw [toK_len]; exact hz) (fun H' e => e _ _ hl) R (fun e y H H' t => hR e y H H' fun a xs h => t a _ (fun _ z => nomatch z) h) hw ?_ (fun D H' ys hD e hl2 hp => ?_)
  · rintro i x e H2 H3 K N hi e2 ⟨rfl, k, v, hk, rfl⟩ hei hK hN
    obtain ⟨w, n, hw', ekv⟩ := toK_get hk
    cases ekv
    rw [hw'] at hei
    obtain rfl := (Option.some.inj hei).symm
    exact hs i w n H3 K N hw' (l0.ex e2) hK hN
  · have hDd : D ≠ d := fun z => by subst z; rw [hl] at hD; cases hD
    refine hq _ H' (fun D' z => by cases z; exact hnone _ hD) e fun H2 e2 hs2 ht => hend D H2 ys (hnone _ hD) e2 (by rw [hs2 D hDd]; exact hl2) (Paired.mapP hp fun a b q => hR _ _ _ _ ht q)
theorem putS_new {t : Bg} {w : Str} {n : Int} (h : w ∉ keys t) : putS t w n = t ++ [(w, n)] := by
  unfold putS
  rw [if_neg]
  intro z
  rw [List.any_eq_true] at z
  obtain ⟨kv, h1, h2⟩ := z
  exact h (mem_keys.mpr ⟨kv.2, by rw [← of_decide_eq_true h2]; exact h1⟩)
/-- a dict comprehension over a dict's keys: the pairs that f makes of them -/
theorem dcd_rel {σ : St} {H : Hp} {Q : VK} {d : Addr} {s : Bg} {te0 tk tv : TE} {tt : TT} {j : Nat} {vs : List Nat} (hd : Rd H d (.dK (toK s))) (hz : s.length < sizeLine)
    (he : ∀ (H' : Hp) (Q : VK), LkEx d s H H' → Q (.ref d) H' → te0 σ H' Q) (f : Str × Int → Option (Str × Int)) (hnd : (keys (s.filterMap f)).Nodup) (hw : ∀ x, wipe ((wipe σ vs).set j x) vs = wipe σ vs)
    (hs : ∀ (i : Nat) (w : Str) (n : Int) (H' : Hp) (K : V → V → Hp → Prop) (N : Hp → Prop), s[i]? = some (w, n) → LkEx d s H H' → (∀ w' n' H5, f (w, n) = some (w', n') → Ex H' H5 → K (.str w') (.int n') H5) → (f (w, n) = none → ∀ H4, Ex H' H4 → N H4) →
      tt ((wipe σ vs).set j (some (.str w))) H' fun b H3 => if b = true then tk ((wipe σ vs).set j (some (.str w))) H3 fun y H4 => tv ((wipe σ vs).set j (some (.str w))) H4 fun z H5 => K y z H5 else N H3)
    (hend : ∀ D H', H D = none → Ex H H' → H' D = some (.dK (toK (s.filterMap f))) → Q (.ref D) H') : tLockRE (tDc (iKeys te0) (gName j) tt tk tv vs) σ H Q := by
  refine lock_any hd fun Hl od Q' hl l0 hnone hq => ?_
  refine he Hl _ l0 ⟨d, od, rfl, .inl ⟨toK s, hl, fun D hD => ?_⟩⟩
  have hDd : D ≠ d := fun z => by subst z; rw [hl] at hD; cases hD
  refine ⟨fun i m H' => m = s.length - i ∧ i ≤ s.length ∧ Ex Hl H' ∧ H' D = some (.dK (toK ((s.take i).filterMap f))), ⟨s.length, by simp, Nat.zero_le _, Ex.new hD, upd_same⟩, ?_⟩
  rintro i m H2 ⟨rfl, hi, e2, hD2⟩
  have hl2 := e2 _ _ hl
  by_cases hlt : i < s.length
  · refine .inr ⟨⟨hl2, by rw [toK_len]; exact hlt⟩, fun H' => Ex Hl H' ∧ H' D = some (.dK (toK ((s.take (i + 1)).filterMap f))), fun H' p => ⟨s.length - (i + 1), by omega, rfl, hlt, p.1, p.2⟩, ?_⟩
    rintro x H' ⟨rfl, k, v, hk, rfl⟩
    obtain ⟨w, n, hw', ekv⟩ := toK_get hk
    cases ekv
    have etk : s.take (i + 1) = s.take i ++ [(w, n)] := by rw [List.take_add_one, hw']; rfl
    refine ⟨hw _, ?_⟩
    refine hs i w n H' _ _ hw' (l0.ex e2) (fun w' n' H5 hf e5 => ⟨toK ((s.take i).filterMap f), Sum.inr w', rfl, e5 _ _ hD2, ?_, Ex.mut (e2.trans e5) hD, ?_⟩) fun hf H4 e4 => ⟨e2.trans e4, ?_⟩
    · rw [toK_len]
      exact Nat.lt_of_le_of_lt (Nat.le_trans (List.length_filterMap_le _ _) (by rw [List.length_take]; omega)) hz
    · rw [upd_same, putK_toK, etk, List.filterMap_append]
      have e3 : List.filterMap f [(w, n)] = [(w', n')] := by simp [hf]
      rw [e3, putS_new]
      intro hmem
      have hsub : keys ((s.take (i + 1)).filterMap f) = keys ((s.take i).filterMap f) ++ [w'] := by
        rw [etk, List.filterMap_append, e3]
        unfold keys
        rw [List.map_append]
        rfl
      have hnd2 : (keys ((s.take (i + 1)).filterMap f)).Nodup := by
        unfold keys at hnd ⊢
        refine List.Sublist.nodup (List.Sublist.map _ ?_) hnd
        exact List.Sublist.filterMap _ (List.take_sublist _ _)
      rw [hsub, List.nodup_append] at hnd2
      exact hnd2.2.2 _ hmem _ (by simp) rfl
    · rw [e4 _ _ hD2, etk, List.filterMap_append]
      have e3 : List.filterMap f [(w, n)] = [] := by simp [hf]
      rw [e3, List.append_nil]
  · have ei : i = s.length := by omega
    subst ei
    rw [List.take_length] at hD2
    refine .inl ⟨⟨hl2, by rw [toK_len]; exact Nat.le_refl _⟩, ?_⟩
    exact hq _ H2 (fun D' z => by cases z; exact hnone _ hD) e2 fun H3 e3 hs3 ht => hend D H3 (hnone _ hD) e3 (by rw [hs3 D hDd]; exact hD2)
/-! ### dict(list of pairs) -/
def rDictP (K : PySem.W.Frag) : List V → Hp → VK → Prop := fun xs H Q => ∃ (a : Addr) (ps : List Addr) (kvs : List (Key × V)), xs = [.ref a] ∧ SqL K H a (ps.map V.ref) ∧ Paired (fun p kv => SqT K H p [kV kv.1, kv.2]) ps kvs ∧
    ∀ p, H p = none → Q (.ref p) (upd H p (.dK (mergeK [] kvs)))
theorem call_dictQ {X : Cx} (h : X.calm = true) : CallR X (.type "dict") (rDictP X.K) := call_dictP h
/-- a list of tuples (word, number) -/
theorem g_dictP {K : PySem.W.Frag} {H : Hp} {a : Addr} {ps : List Addr} {s : Bg} {Q : VK} (hl : SqL K H a (ps.map V.ref)) (hp : Paired (fun p (kv : Str × Int) => SqT K H p [.str kv.1, .int kv.2]) ps s) (hn : (keys s).Nodup)
    (h : ∀ p, H p = none → Q (.ref p) (upd H p (.dK (toK s)))) : rDictP K [.ref a] H Q := by
  refine ⟨a, ps, toK s, rfl, hl, ?_, ?_⟩
  · exact paired_mapr hp fun a b z => z
  · rw [mergeK_toK hn]
    exact h
end Fp

/-! A dict comprehension of two clauses without tests: {k: v for t0 in i0 for t1 in i1}. -/
namespace Fp
open PySem PySem.Spec PyProof.Rows L2
/-- the two clauses -/
abbrev gens2 (t0 i0 t1 i1 : Expr) : List Comprehension := [⟨t0, i0, [], 0⟩, ⟨t1, i1, [], 0⟩]
theorem turn_out (kx vx t0 i0 t1 i1 : Expr) (scope : Scope) (pos : Pos) (it acc : Value) (env : Env) :
    compTurn (.DictComp kx vx (gens2 t0 i0 t1 i1) scope pos) 0 it acc env = (do
      standAt i0.pos
      match ← pyNext it with
      | none => pure (.done .next)
      | some v =>
        letOwnedTupleGo t0 it v
        assign t0 env v
        let x ← eval i1 env
        standAt i1.pos
        let x ← foldedSetIterable i1 env x
        let _ ← runOwn (.compStart (.DictComp kx vx (gens2 t0 i0 t1 i1) scope pos) 1 (← holding [x] (pyIter x)) acc env) env
        again (.compLoop (.DictComp kx vx (gens2 t0 i0 t1 i1) scope pos) 0 it acc env)) := by rfl
theorem turn_in (kx vx t0 i0 t1 i1 : Expr) (scope : Scope) (pos : Pos) (it : Value) (D : Addr) (env : Env) :
    compTurn (.DictComp kx vx (gens2 t0 i0 t1 i1) scope pos) 1 it (.ref D) env = (do
      standAt i1.pos
      match ← pyNext it with
      | none => pure (.done .next)
      | some v =>
        letOwnedTupleGo t1 it v
        assign t1 env v
        (do
          let kv ← eval kx env
          let vv ← holding [kv] (eval vx env)
          standAt { kx.pos with endLine := vx.pos.endLine, endCol := vx.pos.endCol }
          holding [kv, vv] (dictSet D kv vv))
        again (.compLoop (.DictComp kx vx (gens2 t0 i0 t1 i1) scope pos) 1 it (.ref D) env)) := by rfl
section
variable {prog : Program} {w : World} {A : Around} {R : Result → Shared → Prop} {s : Shared} {kx vx t0 i0 t1 i1 : Expr} {scope : Scope} {pos : Pos} {it acc : Value} {D : Addr} {env : Env}
abbrev nb (prog : Program) (w : World) (A : Around) (env : Env) (R : Result → Shared → Prop) : Value → Shared → Prop := notedBy (model prog w) A env fun e s' => R (.error e) s'
theorem loop_out (hs : ∀ x, foldedSetIterable i1 env x = pure x) (I : Nat → Shared → Prop)
    (turn : ∀ n s, I n s → wpAny (model prog w) A (pyNext it) (fun r s₁ => match r with
      | none => R (.ok .next) s₁
      | some v => wpAny (model prog w) A (letOwnedTupleGo t0 it v) (fun _ s₂ => wpAny (model prog w) A (assign t0 env v) (fun _ s₃ =>
          wpAny (model prog w) A (eval i1 env) (fun x s₄ => wpAny (model prog w) A (pyIter x) (fun it1 s₅ =>
            codeAny (model prog w) A (.compStart (.DictComp kx vx (gens2 t0 i0 t1 i1) scope pos) 1 it1 acc env) (fun r s' => match r with
              | .ok _ => ∃ m, m < n ∧ I m s'
              | .error _ => False) s₅) (nb prog w A env R) s₄) (nb prog w A env R) s₃) (nb prog w A env R) s₂) (nb prog w A env R) s₁) (nb prog w A env R) s)
    (n : Nat) (h : I n s) : codeAny (model prog w) A (.compLoop (.DictComp kx vx (gens2 t0 i0 t1 i1) scope pos) 0 it acc env) R s := by
  refine codeAny_loop rfl I (fun n s hI => ?_) n h
  show wpAny _ A ((compTurn (.DictComp kx vx (gens2 t0 i0 t1 i1) scope pos) 0 it acc env).onRaise (fun x => do noteFrame x env; theTreesLotGoes x)) _ _ s
  refine wpAny_noted ?_
  rw [turn_out]
  refine wpAny_bind (wpAny_standAt (wpAny_bind (wpAny_mono (turn n s hI) (fun r s₁ h₁ => ?_) fun _ _ h' => h')))
  cases r with
  | none => exact wpAny_pure h₁
  | some v =>
    refine wpAny_bind (wpAny_mono h₁ (fun _ s₂ h₂ => wpAny_bind (wpAny_mono h₂ (fun _ s₃ h₃ => wpAny_bind (wpAny_mono h₃ (fun x s₄ h₄ => ?_) fun _ _ h' => h')) fun _ _ h' => h')) fun _ _ h' => h')
    refine wpAny_bind (wpAny_standAt (wpAny_bind (wpAny_of_eq (hs x) (wpAny_bind (wpAny_holding (wpAny_mono h₄ (fun it1 s₅ h₅ => ?_) fun _ _ h' => h'))))))
    refine wpAny_bind (wpAny_runOwn ?_)
    rw [Around.mark_none]
    refine codeAny_mono h₅ fun r s' hr => ?_
    cases r with
    | ok f => exact wpAny_pure ⟨rfl, hr⟩
    | error e => exact hr.elim
theorem loop_in (I : Nat → Shared → Prop)
    (turn : ∀ n s, I n s → wpAny (model prog w) A (pyNext it) (fun r s₁ => match r with
      | none => R (.ok .next) s₁
      | some v => wpAny (model prog w) A (letOwnedTupleGo t1 it v) (fun _ s₂ => wpAny (model prog w) A (assign t1 env v) (fun _ s₃ =>
          wpAny (model prog w) A (eval kx env) (fun kv s₄ => wpAny (model prog w) A (eval vx env) (fun vv s₅ =>
            wpAny (model prog w) A (dictSet D kv vv) (fun _ s₆ => ∃ m, m < n ∧ I m s₆) (nb prog w A env R) s₅) (nb prog w A env R) s₄) (nb prog w A env R) s₃) (nb prog w A env R) s₂) (nb prog w A env R) s₁) (nb prog w A env R) s)
    (n : Nat) (h : I n s) : codeAny (model prog w) A (.compLoop (.DictComp kx vx (gens2 t0 i0 t1 i1) scope pos) 1 it (.ref D) env) R s := by
  refine codeAny_loop rfl I (fun n s hI => ?_) n h
  show wpAny _ A ((compTurn (.DictComp kx vx (gens2 t0 i0 t1 i1) scope pos) 1 it (.ref D) env).onRaise (fun x => do noteFrame x env; theTreesLotGoes x)) _ _ s
  refine wpAny_noted ?_
  rw [turn_in]
  refine wpAny_bind (wpAny_standAt (wpAny_bind (wpAny_mono (turn n s hI) (fun r s₁ h₁ => ?_) fun _ _ h' => h')))
  cases r with
  | none => exact wpAny_pure h₁
  | some v =>
    refine wpAny_bind (wpAny_mono h₁ (fun _ s₂ h₂ => wpAny_bind (wpAny_mono h₂ (fun _ s₃ h₃ => ?_) fun _ _ h' => h')) fun _ _ h' => h')
    exact wpAny_bind (wpAny_bind (wpAny_mono h₃ (fun kv s₄ h₄ => wpAny_bind (wpAny_holding (wpAny_mono h₄ (fun vv s₅ h₅ => wpAny_bind (wpAny_standAt (wpAny_holding (wpAny_mono h₅ (fun _ s₆ h₆ => wpAny_pure ⟨rfl, h₆⟩) fun _ _ h' => h')))) fun _ _ h' => h'))) fun _ _ h' => h'))
theorem start_in (h0 : codeAny (model prog w) A (.compLoop (.DictComp kx vx (gens2 t0 i0 t1 i1) scope pos) 1 it acc env) R s)
    (h : wpAny (model prog w) A (pyIter it) (fun it' s' => codeAny (model prog w) A (.compLoop (.DictComp kx vx (gens2 t0 i0 t1 i1) scope pos) 1 it' acc env) R s') (nb prog w A env R) s) :
    codeAny (model prog w) A (.compStart (.DictComp kx vx (gens2 t0 i0 t1 i1) scope pos) 1 it acc env) R s := by
  refine codeAny_of_tree ?_
  show wpAny _ _ ((compStart (.DictComp kx vx (gens2 t0 i0 t1 i1) scope pos) 1 it acc env).onRaise (fun x => do noteFrame x env; standAt theWindowsPlace)) _ _ s
  refine wpAny_notedAt ?_
  unfold compStart
  show wpAny _ _ (ask >>= _) _ _ s
  refine wpAny_bind (wpAny_askSetting (wpAny_ite ?_))
  split
  · first
      | exact wpAny_bind (wpAny_pure (wpAny_pure (And.intro rfl h0)))
      | exact wpAny_pure (And.intro rfl h0)
  · first
      | exact wpAny_bind (wpAny_rule (wpAny_bind (wpAny_standAt (wpAny_bind (wpAny_mono h (fun it' s' h' => wpAny_pure (And.intro rfl h')) fun _ _ x => x)))))
      | (refine wpAny_bind (wpAny_rule ?_); show wpAny _ _ (standAt i1.pos >>= _) _ _ s; exact wpAny_bind (wpAny_standAt (wpAny_bind (wpAny_mono h (fun it' s' h' => wpAny_pure (And.intro rfl h')) fun _ _ x => x))))
end
section
variable {X : Cx}
/-- behind the first clause's store the second source's own loop, from which Nx is reached; vs: the block's names, vs1: those of the second target -/
def tDc2 (wi : TI) (g : TG) (wi1 : TI) (g1 : TG) (tk tv : TE) (vs vs1 : List Nat) : TE := fun σ H Q => wi σ H fun J H1 => ∀ D, H1 D = none → ∃ W : Nat → Nat → Hp → Prop, (∃ m, W 0 m (upd H1 D (.dK []))) ∧ ∀ i m H, W i m H →
  (J.stop i H ∧ Q (.ref D) H) ∨ (J.go i H ∧ ∃ Nx : Hp → Prop, (∀ H', Nx H' → ∃ m', m' < m ∧ W (i + 1) m' H') ∧ ∀ x H', J.yld i H x H' → g x (wipe σ vs) H' fun σ2 H3 => wipe σ2 vs = wipe σ vs ∧
    wi1 σ2 H3 fun J1 H4 => ∃ W1 : Nat → Nat → Hp → Prop, (∃ m, W1 0 m H4) ∧ ∀ j k H, W1 j k H →
      (J1.stop j H ∧ Nx H) ∨ (J1.go j H ∧ ∃ Nx1 : Hp → Prop, (∀ H', Nx1 H' → ∃ k', k' < k ∧ W1 (j + 1) k' H') ∧ ∀ x H', J1.yld j H x H' → g1 x (wipe σ2 vs1) H' fun σ3 H5 => wipe σ3 vs1 = wipe σ2 vs1 ∧
        tk σ3 H5 fun y H6 => tv σ3 H6 fun z H7 => ∃ kvs ky, y = kV ky ∧ H7 D = some (.dK kvs) ∧ kvs.length < sizeLine ∧ Nx1 (upd H7 D (.dK (putK kvs ky z)))))
theorem pe_dc2 {kx vx tg iter tg1 iter1 : Expr} {scope : Scope} {own : List (Str × Nat)} {vs1 : List Nat} {pos : Pos} {wi wi1 : TI} {g g1 : TG} {tk tv : TE} (hc : X.calm = true) (hN : X.N.Nodup) (hi : PI X tg iter wi) (ok : BlkOk X.N X.env.scope scope own) (hv : ∀ i ∈ vs1, i ∈ own.map (·.2))
    (hg : ∀ (s : Shared) (H : Hp) (C : Addr) (cl : List (Str × Addr)) (fp : List Addr), PG (X.blk s H scope (compEnvC scope cl C X.env) fp) tg g)
    (hi1 : ∀ (s : Shared) (H : Hp) (C : Addr) (cl : List (Str × Addr)) (fp : List Addr), PI (X.blk s H scope (compEnvC scope cl C X.env) fp) tg1 iter1 wi1)
    (hg1 : ∀ (s : Shared) (H : Hp) (C : Addr) (cl : List (Str × Addr)) (fp : List Addr), PG (X.blk s H scope (compEnvC scope cl C X.env) fp) tg1 g1)
    (hk : ∀ (s : Shared) (H : Hp) (C : Addr) (cl : List (Str × Addr)) (fp : List Addr), PE (X.blk s H scope (compEnvC scope cl C X.env) fp) kx tk)
    (he : ∀ (s : Shared) (H : Hp) (C : Addr) (cl : List (Str × Addr)) (fp : List Addr), PE (X.blk s H scope (compEnvC scope cl C X.env) fp) vx tv) (hs : ∀ x, foldedSetIterable iter X.env x = pure x := by intro _; rfl) (hs1 : ∀ env x, foldedSetIterable iter1 env x = pure x := by intro _ _; rfl) :
    PE X (.DictComp kx vx (gens2 tg iter tg1 iter1) scope pos) (tDc2 wi g wi1 g1 tk tv (own.map (·.2)) vs1) := by
  refine ⟨fun pins s σ H Q I h => ?_⟩
  rw [arm_eval_DictComp]
  have hfree : ∀ y ∈ scope.names, y.2 = .free → ∃ c, X.env.cells.lookup y.1 = some c := fun y hy e => (ok.free y hy e).elim (fun k => I.ok.has _ (.inl k)) fun k => I.ok.has _ (.inr k)
  refine wpAny_comprehension_free rfl hs (closure_ok hfree) ok.kind (fun y hy e => by rw [ok.uniq y hy, e]) (thn (hi.run pins s σ H _ I h) fun xv s1 hx => thn hx fun itv s2 h2 => ?_)
  obtain ⟨it, fp, tn, J, H2, e, I2, T, st2, f2, q⟩ := h2
  subst e
  refine wpAny_newObj_type (newEnv_comp ?_)
  generalize hD : s2.heap.objs.size = D
  obtain ⟨W, ⟨m0, w0⟩, turn⟩ := q D (I2.hok.fresh (Nat.le_of_eq hD))
  -- the new dict
  generalize hs3 : ({ s2 with heap := s2.heap.push { cls := .type "dict", data := .dict #[] } } : Shared) = s3
  have I3 : Inv X pins σ (upd H2 D (.dK [])) s3 := by
    rw [← hs3]
    refine I2.laid (t' := s2.toks) (fun b o e => Heap.get?_push_of_some _ e) (Nat.le_of_eq hD) ?_
    rw [← hD]
    exact dk_empty s2.heap I2.big
  have h3 : s3.heap = s2.heap.push { cls := .type "dict", data := .dict #[] } := by rw [← hs3]
  have f3 : ∀ b ∈ fp, FpOk X pins (upd H2 D (.dK [])) b ∧ b < s3.heap.objs.size := fun b hb => by
    obtain ⟨o, e, _⟩ := T.obj _ _ st2 b hb
    have hlt := Heap.lt_size e
    refine ⟨⟨?_, (f2 b hb).2⟩, by rw [h3, Heap.size_push]; exact Nat.lt_succ_of_lt hlt⟩
    rw [upd_ne (by rw [← hD]; exact Nat.ne_of_lt hlt)]
    exact (f2 b hb).1
  have st3 : tn 0 s3.heap := T.keep _ _ _ st2 fun b _ o e => by rw [h3]; exact Heap.get?_push_of_some _ e
  have I4 := block_start I3 ok hN f3
  have pg := hg s3 (upd H2 D (.dK [])) s3.heap.objs.size (cellsFrom (s3.heap.objs.size + 1) scope.names (cloFrom X.env.cells scope.names [])) fp
  have pi1 := hi1 s3 (upd H2 D (.dK [])) s3.heap.objs.size (cellsFrom (s3.heap.objs.size + 1) scope.names (cloFrom X.env.cells scope.names [])) fp
  have pg1 := hg1 s3 (upd H2 D (.dK [])) s3.heap.objs.size (cellsFrom (s3.heap.objs.size + 1) scope.names (cloFrom X.env.cells scope.names [])) fp
  have pk := hk s3 (upd H2 D (.dK [])) s3.heap.objs.size (cellsFrom (s3.heap.objs.size + 1) scope.names (cloFrom X.env.cells scope.names [])) fp
  have pe := he s3 (upd H2 D (.dK [])) s3.heap.objs.size (cellsFrom (s3.heap.objs.size + 1) scope.names (cloFrom X.env.cells scope.names [])) fp
  have nfp : ∀ b ∈ fp, (upd H2 D (.dK [])) b = none := fun b hb => (f3 b hb).1.1
  have fin0 : ∀ s' m H', Inv X pins σ H' s' → Q (.ref D) H' → s'.heap.Ns s3.heap.objs.size m → FpOk X pins H' s3.heap.objs.size → compPost (model X.prog X.w) X.A X.xe none (EP X pins σ Q) (.ref D) s3.heap.objs.size (.ok .next) s' := fun s' m H' I' q hn f => ⟨m, hn, fun h'' sb => by
    obtain ⟨f0, f1, f2, f3, f4, f5⟩ := f
    exact ⟨.ref D, H', I'.turned (t' := s'.toks) (fun b o hb e => (sb.2 b hb).trans e) f0 f1 f3 f4 f5, rfl, q⟩⟩
  show codeAny _ _ (.compStart (.DictComp kx vx (gens2 tg iter tg1 iter1) scope pos) 0 (.ref it) (.ref D) (compEnvC scope (cellsFrom (s3.heap.objs.size + 1) scope.names (cloFrom X.env.cells scope.names [])) s3.heap.objs.size X.env)) (compPost (model X.prog X.w) X.A X.xe none (EP X pins σ Q) (.ref D) s3.heap.objs.size) { s3 with heap := pushCells (s3.heap.push { cls := .type "dict", data := .dict #[] }) scope.names }
  generalize hce : compEnvC scope (cellsFrom (s3.heap.objs.size + 1) scope.names (cloFrom X.env.cells scope.names [])) s3.heap.objs.size X.env = ce at I4 pg pk pe pi1 pg1 ⊢
  have cL : ce.locals = s3.heap.objs.size := by subst hce; rfl
  generalize hH3 : upd H2 D (.dK []) = H3 at I3 I4 pg pk pe pi1 pg1 w0 nfp f3
  generalize hs4 : ({ s3 with heap := pushCells (s3.heap.push { cls := .type "dict", data := .dict #[] }) scope.names } : Shared) = s4 at I4 ⊢
  have st4 : tn 0 s4.heap := T.keep _ _ _ st3 fun b _ o e => by rw [← hs4]; exact pushCells_keeps _ _ _ _ (Heap.get?_push_of_some _ e)
  have stat : ∀ {σ' : L2.St} {H' : Hp} {s' : Shared}, Inv (X.blk s3 H3 scope ce fp) [] σ' H' s' → (∀ b ∈ fp, H' b = none) → ∀ b ∈ fp, FpOk (X.blk s3 H3 scope ce fp) [] H' b := fun {σ' H' s'} I' hn b hb =>
    ⟨hn b hb, (I'.ok.exf b hb).1, I'.ok.exfs b hb, .inl hb, fun x c e => (I'.ok.exf b hb).2 x c e, fun p hp => absurd (show p ∈ ([] : List (Addr × Obj)) ++ [] from hp) (by simp)⟩
  have loop : codeAny (model X.prog X.w) X.A (.compLoop (.DictComp kx vx (gens2 tg iter tg1 iter1) scope pos) 0 (.ref it) (.ref D) ce) (compPost (model X.prog X.w) X.A X.xe none (EP X pins σ Q) (.ref D) s3.heap.objs.size) s4 := by
    refine loop_out (hs1 ce) (fun n s' => ∃ i H', Inv (X.blk s3 H3 scope ce fp) [] (wipe σ (own.map (·.2))) H' s' ∧ tn i s'.heap ∧ (∀ b ∈ fp, H' b = none) ∧ W i n H') ?_ m0 ⟨0, H3, I4, st4, nfp, w0⟩
    rintro n s5 ⟨i, H5, I5, st5, n5, w5⟩
    rcases turn i n H5 w5 with ⟨stop, qq⟩ | ⟨go, Nx, hNx, step⟩
    · refine thnF (T.done (X.blk s3 H3 scope ce fp) rfl rfl rfl hc i [] s5 _ H5 (fun _ _ => False) I5 (stat I5 n5) st5 stop) fun r s6 ⟨hr, I6⟩ => ?_
      subst hr
      have I7 : Inv X pins σ H5 s6 := I3.call' (ch := fp) I6.os I6.base I6.hok I6.bare fun b hb => ⟨(f3 b hb).1.2.2.2.1, (f3 b hb).1.2.1, (f3 b hb).1.2.2.2.2.1, (f3 b hb).1.2.2.2.2.2⟩
      have nC : H5 s3.heap.objs.size = none := by
        have z : H5 ce.locals = none := I6.free
        rwa [cL] at z
      obtain ⟨m, hn, _⟩ := I6.loc
      have hn : s6.heap.Ns ce.locals m := hn
      rw [cL] at hn
      exact fin0 s6 m H5 I7 qq hn (I3.fpOk (Nat.le_refl _) nC)
    · refine thnF (T.item (X.blk s3 H3 scope ce fp) rfl rfl rfl hc i [] s5 _ H5 (fun _ _ => False) I5 (stat I5 n5) st5 go) fun r s6 ⟨u, hr, h6⟩ => ?_
      subst hr
      refine thnF h6 fun _ s7 ⟨x, H7, I7, r7, y7, st7, n7⟩ => ?_
      have I7' := I7.pinned (stat I7 n7) (T.obj _ _ st7)
      refine thnF (pg.run _ s7 _ H7 x u _ I7' r7 (step x H7 y7)) fun _ s8 ⟨σ8, H8, I8, hw8, q8⟩ => ?_
      have fin : ∀ {σ9 : L2.St} {s' : Shared} {H' : Hp}, Inv (X.blk s3 H3 scope ce fp) ([] ++ pinsAt fp s7.heap) σ9 H' s' → (wipe σ (own.map (·.2))).length = σ9.length → (∀ (j : Nat) v, (wipe σ (own.map (·.2)))[j]? = some (some v) → σ9[j]? = some (some v)) → Nx H' →
          ∃ m, m < n ∧ ∃ i H', Inv (X.blk s3 H3 scope ce fp) [] (wipe σ (own.map (·.2))) H' s' ∧ tn i s'.heap ∧ (∀ b ∈ fp, H' b = none) ∧ W i m H' := fun {σ9 s' H'} I' hl hk nx => by
        obtain ⟨m', hm, w'⟩ := hNx H' nx
        have pin' : ∀ b ∈ fp, ∀ o, s7.heap.get? b = some o → s'.heap.get? b = some o ∧ H' b = none := fun b hb o e =>
          let z := I'.pin (b, o) (List.mem_append_right _ (List.mem_append_right _ (mem_pinsAt hb e)))
          ⟨z.1, z.2.1⟩
        refine ⟨m', hm, i + 1, H', (I'.unpinned (pins := [])).weak hl hk, T.keep _ _ _ st7 fun b hb o e => (pin' b hb o e).1, fun b hb => ?_, w'⟩
        obtain ⟨o, e, _⟩ := T.obj _ _ st7 b hb
        exact (pin' b hb o e).2
      have hl8 : (wipe σ (own.map (·.2))).length = σ8.length := by rw [← hw8, wipe_length]
      have hk9 : ∀ (j : Nat) v, (wipe σ (own.map (·.2)))[j]? = some (some v) → (wipe σ8 vs1)[j]? = some (some v) := fun j v e => by
        rw [← hw8] at e
        obtain ⟨e1, e2⟩ := wipe_some e
        rw [wipe_out fun z => e2 (hv j z)]
        exact e1
      refine thnF (pi1.run _ s8 σ8 H8 _ I8 q8) fun xv s10 hx => thnF hx fun itv s11 h11 => ?_
      obtain ⟨it1, fp1, tn1, J1, H11, e1, I11, T1, st11, f11, W1, ⟨m1, w1⟩, turn1⟩ := h11
      subst e1
      have stat1 : ∀ {H' : Hp}, (∀ b ∈ fp1, H' b = none) → ∀ b ∈ fp1, FpOk (X.blk s3 H3 scope ce fp) ([] ++ pinsAt fp s7.heap) H' b := fun hn b hb => ⟨hn b hb, (f11 b hb).2⟩
      have loop1 : codeAny (model X.prog X.w) X.A (.compLoop (.DictComp kx vx (gens2 tg iter tg1 iter1) scope pos) 1 (.ref it1) (.ref D) ce)
          (fun r s' => match r with
            | .ok _ => ∃ m, m < n ∧ ∃ i H', Inv (X.blk s3 H3 scope ce fp) [] (wipe σ (own.map (·.2))) H' s' ∧ tn i s'.heap ∧ (∀ b ∈ fp, H' b = none) ∧ W i m H'
            | .error _ => False) s11 := by
        refine loop_in (fun k s' => ∃ j H', Inv (X.blk s3 H3 scope ce fp) ([] ++ pinsAt fp s7.heap) (wipe σ8 vs1) H' s' ∧ tn1 j s'.heap ∧ (∀ b ∈ fp1, H' b = none) ∧ W1 j k H') ?_ m1 ⟨0, H11, I11.weak (wipe_length _ _) (fun j v e => (wipe_some e).1), st11, fun b hb => (f11 b hb).1, w1⟩
        rintro k s12 ⟨j, H12, I12, st12, n12, w12⟩
        rcases turn1 j k H12 w12 with ⟨stop1, nx1⟩ | ⟨go1, Nx1, hNx1, step1⟩
        · refine thnF (T1.done (X.blk s3 H3 scope ce fp) rfl rfl rfl hc j _ s12 (wipe σ8 vs1) H12 (fun _ _ => False) I12 (stat1 n12) st12 stop1) fun r s13 ⟨hr, I13⟩ => ?_
          subst hr
          exact fin I13 (hl8.trans (wipe_length σ8 vs1).symm) hk9 nx1
        · refine thnF (T1.item (X.blk s3 H3 scope ce fp) rfl rfl rfl hc j _ s12 (wipe σ8 vs1) H12 (fun _ _ => False) I12 (stat1 n12) st12 go1) fun r s13 ⟨u1, hr, h13⟩ => ?_
          subst hr
          refine thnF h13 fun _ s14 ⟨x1, H14, I14, r14, y14, st14, n14⟩ => ?_
          have I14' := I14.pinned (stat1 n14) (T1.obj _ _ st14)
          refine thnF (pg1.run _ s14 (wipe σ8 vs1) H14 x1 u1 _ I14' r14 (step1 x1 H14 y14)) fun _ s15 ⟨σ15, H15, I15, hw15, q15⟩ => ?_
          have fin1 : ∀ {s' : Shared} {H' : Hp}, Inv (X.blk s3 H3 scope ce fp) (([] ++ pinsAt fp s7.heap) ++ pinsAt fp1 s14.heap) σ15 H' s' → Nx1 H' → ∃ m, m < k ∧ ∃ j H', Inv (X.blk s3 H3 scope ce fp) ([] ++ pinsAt fp s7.heap) (wipe σ8 vs1) H' s' ∧ tn1 j s'.heap ∧ (∀ b ∈ fp1, H' b = none) ∧ W1 j m H' := fun {s' H'} I' nx => by
            obtain ⟨m', hm, w'⟩ := hNx1 H' nx
            have pin' : ∀ b ∈ fp1, ∀ o, s14.heap.get? b = some o → s'.heap.get? b = some o ∧ H' b = none := fun b hb o e =>
              let z := I'.pin (b, o) (List.mem_append_right _ (List.mem_append_right _ (mem_pinsAt hb e)))
              ⟨z.1, z.2.1⟩
            refine ⟨m', hm, j + 1, H', I'.unpinned.weak (by rw [← hw15, wipe_length]) (fun j v e => by rw [← hw15] at e; exact (wipe_some e).1), T1.keep _ _ _ st14 fun b hb o e => (pin' b hb o e).1, fun b hb => ?_, w'⟩
            obtain ⟨o, e, _⟩ := T1.obj _ _ st14 b hb
            exact (pin' b hb o e).2
          refine thnF (pk.run _ s15 σ15 H15 _ I15 q15) fun z s16 ⟨yk, H16, I16, r16, q16⟩ => ?_
          refine thnF (pe.run _ s16 σ15 H16 _ I16 q16) fun z2 s17 ⟨yv, H17, I17, r17, kvs, ky, ek, hD17, hz17, nx⟩ => ?_
          subst ek
          exact d_dictSet (X := X.blk s3 H3 scope ce fp) I17 hD17 hz17 r16 r17 fun s18 I18 => fin1 I18 nx
      exact start_in loop1 (T1.self X.A 0 _ _ _ st11 loop1)
  exact codeAny_compStart_dict loop (T.self X.A 0 _ _ _ st4 loop)
end
end Fp

/-! A comprehension whose elements are made while the hand turns. -/
namespace Fp
open PySem L2
theorem lc_mutR {J : It} {n : Nat} {G : Hp → Prop} {Y : Nat → Hp → V → Hp → Prop} (w : Walk J n G Y) {f : Addr} {o0 : HO} {j : Nat} {te : TE} {vs : List Nat} {σ : St} {H1 : Hp} {Q : VK} (hf : H1 f = some o0) (hn : n ≤ sizeLine) (I : Hp → Prop) (h0 : I H1)
    (hI : ∀ H D o, H1 D = none → I H → I (upd H D o)) (hG : ∀ H, ExB f H1 H → I H → G H) (R : Nat → V → Hp → Prop) (hR : ∀ i y H H', ExB f H H' → I H → R i y H → R i y H') (hRu : ∀ i y H D ys zs, H D = some (.lst ys) → R i y H → R i y (upd H D (.lst zs))) (hw : ∀ x, wipe ((wipe σ vs).set j x) vs = wipe σ vs)
    (hs : ∀ i x H H' (K : VK), i < n → ExB f H1 H → I H → Y i H x H' → (∀ y H4, ExB f H H4 → I H4 → R i y H4 → K y H4) → te ((wipe σ vs).set j (some x)) H' K)
    (hd : ∀ D H' ys, H1 D = none → ExB f H1 H' → I H' → H' D = some (.lst ys) → ys.length = n → (∀ (i : Nat) (y : V), ys[i]? = some y → R i y H') → Q (.ref D) H') :
    LcG J (gName j) tYes te vs σ H1 Q := by
  intro D hD
  have hDf : D ≠ f := Ne.symm (ne_of_none hf hD)
  refine lc_it w (fun i H => ExB f H1 H ∧ I H ∧ ∃ ys, H D = some (.lst ys) ∧ ys.length = i ∧ ∀ i y, ys[i]? = some y → R i y H) ⟨(Ex.new hD).exb, hI _ _ _ hD h0, [], upd_same, rfl, fun _ _ h => nomatch h⟩ (fun i H _ p => hG H p.1 p.2.1) ?_ (fun H p => ?_)
  · rintro i x H H' hi ⟨e, hi1, ys, hacc, hl, hp⟩ hy
    refine ⟨hw _, ?_⟩
    unfold tYes
    dsimp only
    rw [if_pos rfl]
    refine hs i x H H' _ hi e hi1 hy fun z H4 e4 i4 pz => ⟨ys, e4 _ _ hDf hacc, by omega, ?_, hI _ _ _ hD i4, ys ++ [z], upd_same, by rw [List.length_append, hl]; rfl, fun k y hy => ?_⟩
    · exact fun a o hne q => by rw [upd_ne (ne_of_none q hD)]; exact e4 a o hne (e a o hne q)
    · refine hRu _ _ _ _ _ _ (e4 _ _ hDf hacc) ?_
      rcases Nat.lt_or_ge k ys.length with hk | hk
      · rw [List.getElem?_append_left hk] at hy
        exact hR _ _ _ _ e4 hi1 (hp k y hy)
      · rw [List.getElem?_append_right hk] at hy
        have hk2 : k - ys.length = 0 := by
          rcases Nat.eq_zero_or_pos (k - ys.length) with q | q
          · exact q
          · rw [List.getElem?_eq_none (by simp; omega)] at hy; cases hy
        rw [hk2] at hy
        obtain rfl : z = y := Option.some.inj hy
        have : k = i := by omega
        subst this
        exact pz
  · obtain ⟨e, hi, ys, h, hl, hp⟩ := p
    exact hd D H ys hD e hi h hl hp
/-- each is one of such: they are so in pairs -/
theorem paired_all {α β : Type} {F : α → β → Prop} {g : α → V} : ∀ {ys : List V}, (∀ (i : Nat) (y : V), ys[i]? = some y → ∃ a b, y = g a ∧ F a b) → ∃ as bs, ys = List.map g as ∧ Paired F as bs
  | [], _ => ⟨[], [], rfl, .nil⟩
  | y :: ys, h => by
    obtain ⟨a, b, rfl, hab⟩ := h 0 y rfl
    obtain ⟨as, bs, rfl, hp⟩ := paired_all (ys := ys) fun i z hz => h (i + 1) z hz
    exact ⟨a :: as, b :: bs, rfl, .cons hab hp⟩
end Fp

/-! First words, lengths, tops, plain bags. -/
namespace Fp
open PySem PySem.W
/-- the first word -/
def lead (s : Bg) : Str := ((ordW (keys s)).head?).getD ""
theorem ordW_cons {ws : List Str} (h : ws ≠ []) : ∃ w r, ordW ws = w :: r := by
  cases e : ordW ws with
  | nil =>
    have := ordW_len ws
    rw [e] at this
    exact absurd (List.length_eq_zero_iff.mp this.symm) h
  | cons w r => exact ⟨w, r, rfl⟩
theorem keys_ne {s : Bg} (h : s ≠ []) : keys s ≠ [] := fun e => h (List.map_eq_nil_iff.mp e)
theorem lead_head {s : Bg} (h : s ≠ []) : (ordW (keys s)).head? = some (lead s) := by
  obtain ⟨w, r, e⟩ := ordW_cons (keys_ne h)
  unfold lead
  rw [e]
  rfl
theorem lead_mem {s : Bg} (h : s ≠ []) : lead s ∈ keys s := by
  have h1 := lead_head h
  exact (ordW_perm _).mem_iff.mp (List.mem_of_head? h1)
theorem lead_le {s : Bg} {u : Str} (hu : u ∈ keys s) : leW (lead s) u = true := by
  have h : s ≠ [] := fun e => by subst e; cases hu
  have hs := ordW_sorted (keys s)
  have hm := (ordW_perm (keys s)).mem_iff.mpr hu
  unfold lead
  cases e : ordW (keys s) with
  | nil => rw [e] at hm; cases hm
  | cons w r =>
    rw [e] at hs hm
    rcases List.mem_cons.mp hm with z | z
    · subst z; exact (leW_total.total _ _).elim id id
    · exact (List.pairwise_cons.mp hs).1 u z
theorem head_cons_ord {ws : List Str} {m : Str} (h : (ordW ws).head? = some m) : m ∈ ws ∧ ∀ w ∈ ws, leW m w = true := by
  have hs := ordW_sorted ws
  refine ⟨(ordW_perm _).mem_iff.mp (List.mem_of_head? h), fun w hw => ?_⟩
  have hm := (ordW_perm ws).mem_iff.mpr hw
  cases e : ordW ws with
  | nil => rw [e] at hm; cases hm
  | cons x r =>
    rw [e] at hs hm h
    obtain rfl : x = m := Option.some.inj h
    rcases List.mem_cons.mp hm with z | z
    · subst z; exact (leW_total.total _ _).elim id id
    · exact (List.pairwise_cons.mp hs).1 w z
theorem lead_is {s : Bg} {m : Str} (h : m ∈ keys s) (hl : ∀ u ∈ keys s, leW m u = true) : lead s = m := leW_anti (lead_le h) (hl _ (lead_mem fun e => by subst e; cases h))
theorem leW_len {a b : Str} (h : leW a b = true) : b.length ≤ a.length := by
  rw [leW_eq] at h
  rcases of_decide_eq_true h with h | h <;> omega
theorem lead_len {s : Bg} {u : Str} (hu : u ∈ keys s) : u.length ≤ (lead s).length := leW_len (lead_le hu)
theorem str_len (a : Str) : a.cps.toList.length = a.length := by
  show a.cps.toList.length = a.cps.size
  rw [Array.length_toList]
theorem le_app {a b : List Nat} {c d : List Nat} (hl : a.length = c.length) (h1 : a ≤ c) (h2 : b ≤ d) : a ++ b ≤ c ++ d := by
  induction a generalizing c with
  | nil =>
    cases c with
    | nil => exact h2
    | cons x c => cases hl
  | cons y a ih =>
    cases c with
    | nil => cases hl
    | cons x c =>
      rw [List.cons_append, List.cons_append, List.cons_le_cons_iff]
      rcases List.cons_le_cons_iff.mp h1 with h | ⟨h, h3⟩
      · exact .inl h
      · exact .inr ⟨h, ih (by simpa using hl) h3⟩
theorem leW_app {a b c d : Str} (h1 : leW a c = true) (h2 : leW b d = true) : leW (a ++ b) (c ++ d) = true := by
  rw [leW_eq] at h1 h2 ⊢
  refine decide_eq_true ?_
  have k1 := of_decide_eq_true h1
  have k2 := of_decide_eq_true h2
  rw [len_app, len_app]
  by_cases e1 : c.length < a.length
  · left
    rcases k2 with k2 | k2 <;> omega
  · by_cases e2 : d.length < b.length
    · left
      rcases k1 with k1 | k1 <;> omega
    · right
      obtain ⟨l1, m1⟩ := k1.resolve_left e1
      obtain ⟨l2, m2⟩ := k2.resolve_left e2
      refine ⟨by omega, ?_⟩
      rw [app_toList, app_toList]
      exact le_app (by rw [str_len, str_len]; exact l1) m1 m2
theorem app_inj {a b c d : Str} (hl : a.length = c.length) (h : a ++ b = c ++ d) : a = c ∧ b = d := by
  have h1 : a.cps.toList ++ b.cps.toList = c.cps.toList ++ d.cps.toList := by rw [← app_toList, ← app_toList, h]
  have h2 := List.append_inj h1 (by rw [str_len, str_len]; exact hl)
  exact ⟨str_ext h2.1, str_ext h2.2⟩
/-- the coefficient of a product at the first words -/
theorem cvS_lead {s t : Bg} (hs : (keys s).Nodup) (ht : (keys t).Nodup) {a b : Str} (ha : ∀ u ∈ keys s, u.length ≤ a.length) (hb : ∀ u ∈ keys t, u.length ≤ b.length) : cvS s t (a ++ b) = cf s a * cf t b := by
  have e : cvS s t (a ++ b) = sumL s fun x => (if x.1 = a then x.2 else 0) * sumL t fun y => if y.1 = b then y.2 else 0 := by
    unfold cvS
    refine sumL_congr fun x hx => ?_
    rw [← sumL_mul]
    refine sumL_congr fun y hy => ?_
    have hxa := ha x.1 (mem_keys.mpr ⟨x.2, hx⟩)
    have hyb := hb y.1 (mem_keys.mpr ⟨y.2, hy⟩)
    by_cases h : x.1 ++ y.1 = a ++ b
    · have hl : x.1.length = a.length := by
        have := congrArg Str.length h
        rw [len_app, len_app] at this
        omega
      obtain ⟨e1, e2⟩ := app_inj hl h
      rw [if_pos h, if_pos e1, if_pos e2]
    · rw [if_neg h]
      by_cases e1 : x.1 = a
      · by_cases e2 : y.1 = b
        · exact absurd (by rw [e1, e2]) h
        · rw [if_neg e2, Int.mul_zero]
      · rw [if_neg e1, Int.zero_mul]
  rw [e, sumL_mulr, sum_ind hs, sum_ind ht]
/-- the clocks -/
def Prm (p : Int) : Prop := p = 2 ∨ p = 3 ∨ p = 5 ∨ p = 7
theorem Prm.pos {p : Int} (h : Prm p) : 1 < p := by rcases h with rfl | rfl | rfl | rfl <;> decide
theorem rng_cases {x p : Int} (h0 : 0 < x) (h1 : x < p) (hp : p ≤ 7) : x = 1 ∨ x = 2 ∨ x = 3 ∨ x = 4 ∨ x = 5 ∨ x = 6 := by omega
theorem prm_mul {p x y : Int} (hp : Prm p) (hx : 0 < x) (hx1 : x < p) (hy : 0 < y) (hy1 : y < p) : 0 < x * y % p := by
  have h7 : p ≤ 7 := by rcases hp with rfl | rfl | rfl | rfl <;> decide
  rcases hp with rfl | rfl | rfl | rfl <;> rcases rng_cases hx hx1 h7 with rfl | rfl | rfl | rfl | rfl | rfl <;> rcases rng_cases hy hy1 h7 with rfl | rfl | rfl | rfl | rfl | rfl <;> first | decide | omega
/-- the inverse, as the program reckons it -/
def powM (p x : Int) : Nat → Int
  | 0 => 1
  | n + 1 => powM p x n * x % p
def inv (p x : Int) : Int := powM p x (p - 2).toNat
theorem inv_one {p x : Int} (hp : Prm p) (hx : 0 < x) (hx1 : x < p) : inv p x * x % p = 1 ∧ 0 < inv p x ∧ inv p x < p := by
  have h7 : p ≤ 7 := by rcases hp with rfl | rfl | rfl | rfl <;> decide
  rcases hp with rfl | rfl | rfl | rfl <;> rcases rng_cases hx hx1 h7 with rfl | rfl | rfl | rfl | rfl | rfl <;> first | decide | omega
theorem inv_uniq {p x n : Int} (hp : Prm p) (hx : 0 < x) (hx1 : x < p) (hn : 0 < n) (hn1 : n < p) (h : n * x % p = 1) : n = inv p x := by
  have h7 : p ≤ 7 := by rcases hp with rfl | rfl | rfl | rfl <;> decide
  rcases hp with rfl | rfl | rfl | rfl <;> rcases rng_cases hx hx1 h7 with rfl | rfl | rfl | rfl | rfl | rfl <;> rcases rng_cases hn hn1 h7 with rfl | rfl | rfl | rfl | rfl | rfl <;> first | rfl | omega | (revert h; decide)
theorem inv_mul {p x y : Int} (hp : Prm p) (hx : 0 < x) (hx1 : x < p) (hy : 0 < y) (hy1 : y < p) : inv p (x * y % p) % p = inv p x * inv p y % p := by
  have h7 : p ≤ 7 := by rcases hp with rfl | rfl | rfl | rfl <;> decide
  rcases hp with rfl | rfl | rfl | rfl <;> rcases rng_cases hx hx1 h7 with rfl | rfl | rfl | rfl | rfl | rfl <;> rcases rng_cases hy hy1 h7 with rfl | rfl | rfl | rfl | rfl | rfl <;> first | decide | omega
section
variable {p : Int} {s t : Bg}
theorem cf_pos_of {w : Str} (g : Good p s) (h : w ∈ keys s) : 0 < cf s w := by
  obtain ⟨n, hn⟩ := mem_keys.mp h
  rw [cf_of_mem g.nd hn]
  exact g.lo _ hn
theorem cf_lt_of {w : Str} (hp : 0 < p) (g : Good p s) : cf s w < p := cf_lt hp g w
theorem prod_lead (hp : Prm p) (gs : Good p s) (gt : Good p t) (hs : s ≠ []) (ht : t ≠ []) : lead s ++ lead t ∈ keys (prodS p s t) ∧ lead (prodS p s t) = lead s ++ lead t ∧ cf (prodS p s t) (lead s ++ lead t) = cf s (lead s) * cf t (lead t) % p := by
  have hp0 : 0 < p := by have := hp.pos; omega
  have e1 : cf (prodS p s t) (lead s ++ lead t) = cf s (lead s) * cf t (lead t) % p := by
    rw [cf_prod hp0, cvS_lead gs.nd gt.nd (fun u hu => lead_len hu) (fun u hu => lead_len hu)]
  have hm : lead s ++ lead t ∈ keys (prodS p s t) := by
    rw [cf_ne (Good.prod hp0 s t), e1]
    have := prm_mul hp (cf_pos_of gs (lead_mem hs)) (cf_lt_of hp0 gs) (cf_pos_of gt (lead_mem ht)) (cf_lt_of hp0 gt)
    exact (Int.ne_of_lt this).symm
  refine ⟨hm, lead_is hm fun u hu => ?_, e1⟩
  obtain ⟨a, ha, b, hb, rfl⟩ := keys_prod hu
  exact leW_app (lead_le ha) (lead_le hb)
theorem prod_ne (hp : Prm p) (gs : Good p s) (gt : Good p t) (hs : s ≠ []) (ht : t ≠ []) : prodS p s t ≠ [] := fun e => by
  have := (prod_lead hp gs gt hs ht).1
  rw [e] at this
  cases this
/-! ### words of one length -/
def sizedS (s : Bg) (n : Int) : Bg := s.filter fun kv => decide ((kv.1.length : Int) = n)
/-- the length -/
def sizeS (s : Bg) : Int := if s = [] then -1 else (lead s).length
theorem Good.sized (g : Good p s) (n : Int) : Good p (sizedS s n) := ⟨by
    unfold sizedS keys
    exact (List.filter_sublist.map _).nodup g.nd, fun kv h => g.lo kv (List.mem_filter.mp h).1, fun kv h => g.hi kv (List.mem_filter.mp h).1⟩
theorem sumL_filter {α : Type} (l : List α) (q : α → Bool) (f : α → Int) : sumL (l.filter q) f = sumL l fun a => if q a = true then f a else 0 := by
  induction l with
  | nil => rfl
  | cons a l ih =>
    rw [List.filter_cons, sumL_cons]
    by_cases h : q a = true
    · rw [if_pos h, if_pos h, sumL_cons, ih]
    · rw [if_neg h, if_neg h, ih, Int.zero_add]
theorem cf_sized (hn : (keys s).Nodup) (n : Int) (w : Str) : cf (sizedS s n) w = if (w.length : Int) = n then cf s w else 0 := by
  have hn2 : (keys (sizedS s n)).Nodup := by
    unfold sizedS keys
    exact (List.filter_sublist.map _).nodup hn
  rw [← sum_ind hn2 w]
  unfold sizedS
  rw [sumL_filter]
  by_cases h : (w.length : Int) = n
  · rw [if_pos h, ← sum_ind hn w]
    refine sumL_congr fun a ha => ?_
    by_cases e : a.1 = w
    · rw [if_pos e, e, if_pos (decide_eq_true h)]
    · rw [if_neg e, ite_self]
  · rw [if_neg h]
    refine sumL_zero fun a ha => ?_
    by_cases e : a.1 = w
    · rw [e, if_neg (by rw [decide_eq_false h]; exact Bool.false_ne_true)]
    · rw [if_neg e, ite_self]
theorem top_prod (hp : Prm p) (gs : Good p s) (gt : Good p t) (hs : s ≠ []) (ht : t ≠ []) : Eqv (sizedS (prodS p s t) (sizeS (prodS p s t))) (prodS p (sizedS s (sizeS s)) (sizedS t (sizeS t))) := fun l => by
  have hp0 : 0 < p := by have := hp.pos; omega
  obtain ⟨_, e1, _⟩ := prod_lead hp gs gt hs ht
  unfold cl
  rw [cf_sized (Good.prod hp0 s t).nd, cf_prod hp0, cf_prod hp0]
  unfold sizeS
  rw [if_neg hs, if_neg ht, if_neg (prod_ne hp gs gt hs ht), e1, len_app]
  have e : cvS (sizedS s (lead s).length) (sizedS t (lead t).length) (ofL l) = if ((ofL l).length : Int) = ((lead s).length + (lead t).length : Nat) then cvS s t (ofL l) else 0 := by
    unfold cvS sizedS
    rw [sumL_filter]
    have e2 : ∀ x ∈ s, (if decide ((x.1.length : Int) = (lead s).length) = true then sumL (t.filter fun kv => decide ((kv.1.length : Int) = (lead t).length)) (fun b => if x.1 ++ b.1 = ofL l then x.2 * b.2 else 0) else 0) =
        if ((ofL l).length : Int) = ((lead s).length + (lead t).length : Nat) then sumL t (fun b => if x.1 ++ b.1 = ofL l then x.2 * b.2 else 0) else 0 := by
      intro x hx
      have hxl := lead_len (mem_keys.mpr ⟨x.2, hx⟩)
      rw [sumL_filter]
      by_cases h : ((ofL l).length : Int) = ((lead s).length + (lead t).length : Nat)
      · rw [if_pos h]
        by_cases h2 : (x.1.length : Int) = (lead s).length
        · rw [if_pos (decide_eq_true h2)]
          refine sumL_congr fun y hy => ?_
          by_cases h3 : x.1 ++ y.1 = ofL l
          · have h4 := congrArg Str.length h3
            rw [len_app] at h4
            rw [if_pos (decide_eq_true (by omega))]
          · rw [if_neg h3, ite_self]
        · rw [if_neg (by rw [decide_eq_false h2]; exact Bool.false_ne_true)]
          refine (sumL_zero fun y hy => ?_).symm
          have hyl := lead_len (mem_keys.mpr ⟨y.2, hy⟩)
          refine if_neg fun h3 => ?_
          have h4 := congrArg Str.length h3
          rw [len_app] at h4
          omega
      · rw [if_neg h]
        by_cases h2 : (x.1.length : Int) = (lead s).length
        · rw [if_pos (decide_eq_true h2)]
          refine sumL_zero fun y hy => ?_
          by_cases h3 : x.1 ++ y.1 = ofL l
          · have h4 := congrArg Str.length h3
            rw [len_app] at h4
            rw [if_neg]
            intro h5
            have := of_decide_eq_true h5
            omega
          · rw [if_neg h3, ite_self]
        · rw [if_neg (by rw [decide_eq_false h2]; exact Bool.false_ne_true)]
    rw [sumL_congr e2]
    by_cases h : ((ofL l).length : Int) = ((lead s).length + (lead t).length : Nat)
    · simp only [if_pos h]
    · simp only [if_neg h]
      exact sumL_zero fun _ _ => rfl
  rw [e]
  split
  · rfl
  · exact (Int.zero_emod p).symm
/-! ### plain bags -/
def plainS (p : Int) (s : Bg) : Bg := plusS p [] s (inv p (cf s (lead s)))
theorem cf_plain (hp : 0 < p) (hn : (keys s).Nodup) (w : Str) : cf (plainS p s) w = inv p (cf s (lead s)) * cf s w % p := by
  unfold plainS
  rw [cf_plus hp Good.nil hn, cf_nil, Int.zero_add]
theorem plain_prod (hp : Prm p) (gs : Good p s) (gt : Good p t) (hs : s ≠ []) (ht : t ≠ []) : Eqv (plainS p (prodS p s t)) (prodS p (plainS p s) (plainS p t)) := fun l => by
  have hp0 : 0 < p := by have := hp.pos; omega
  obtain ⟨_, e1, e2⟩ := prod_lead hp gs gt hs ht
  have gps : Good p (plainS p s) := Good.plus hp0 Good.nil s
  have gpt : Good p (plainS p t) := Good.plus hp0 Good.nil t
  have h1 : cl (plainS p (prodS p s t)) l = inv p (cf s (lead s) * cf t (lead t) % p) * cl (prodS p s t) l % p := by
    unfold cl
    rw [cf_plain hp0 (Good.prod hp0 s t).nd, e1, e2]
  rw [h1, cl_prod hp0 gs.nd gt.nd, cl_prod hp0 gps.nd gpt.nd]
  have h2 : conv (cl (plainS p s)) (cl (plainS p t)) l % p = conv (fun v => inv p (cf s (lead s)) * cl s v) (fun v => inv p (cf t (lead t)) * cl t v) l % p := conv_mod (fun v => by
      unfold cl
      rw [cf_plain hp0 gs.nd, Int.emod_emod_of_dvd _ (Int.dvd_refl p)]) (fun v => by
      unfold cl
      rw [cf_plain hp0 gt.nd, Int.emod_emod_of_dvd _ (Int.dvd_refl p)]) l
  rw [h2, conv_mull, conv_mulr, ← Int.mul_assoc]
  have h3 := inv_mul hp (cf_pos_of gs (lead_mem hs)) (cf_lt_of hp0 gs) (cf_pos_of gt (lead_mem ht)) (cf_lt_of hp0 gt)
  rw [Int.mul_emod, h3, Int.emod_emod_of_dvd _ (Int.dvd_refl p), ← Int.mul_emod]
end
end Fp

/-! Dividing: what stands behind a front. -/
namespace Fp
open PySem PySem.W
/-! ### a bag with a word behind it -/
def withB (F : Bg) (t : Str) : Bg := F.map fun kv => (kv.1 ++ t, kv.2)
theorem app_cancel {a b t : Str} (h : a ++ t = b ++ t) : a = b := by
  have h1 : a.cps.toList ++ t.cps.toList = b.cps.toList ++ t.cps.toList := by rw [← app_toList, ← app_toList, h]
  exact str_ext (List.append_cancel_right h1)
theorem app_cancel_l {a b t : Str} (h : t ++ a = t ++ b) : a = b := by
  have h1 : t.cps.toList ++ a.cps.toList = t.cps.toList ++ b.cps.toList := by rw [← app_toList, ← app_toList, h]
  exact str_ext (List.append_cancel_left h1)
theorem withB_keys (F : Bg) (t : Str) : keys (withB F t) = (keys F).map fun u => u ++ t := by
  unfold withB keys
  rw [List.map_map, List.map_map]
  rfl
theorem withB_nodup {F : Bg} {t : Str} (h : (keys F).Nodup) : (keys (withB F t)).Nodup := by
  rw [withB_keys]
  exact List.Pairwise.map _ (fun a b q e => q (app_cancel e)) h
theorem withB_one {p : Int} {F : Bg} (t : Str) (hp : 0 < p) (g : Good p F) : (F.map fun kv => (kv.1 ++ t, kv.2 * 1 % p)) = withB F t := by
  unfold withB
  refine List.map_congr_left fun kv h => ?_
  have h1 := g.lo kv h
  have h2 := g.hi kv h
  rw [Int.mul_one, Int.emod_eq_of_lt (by omega) h2]
theorem addTo_new {p : Int} {s : Bg} {w : Str} {n : Int} (h : w ∉ keys s) (h0 : 0 < n) (h1 : n < p) : addTo p s w n = s ++ [(w, n)] := by
  unfold addTo
  have e : cf s w = 0 := cf_not_mem h
  have e2 : (cf s w + n) % p = n := by rw [e, Int.zero_add, Int.emod_eq_of_lt (by omega) h1]
  rw [e2, if_neg (by omega)]
  unfold putS
  rw [if_neg]
  intro z
  rw [List.any_eq_true] at z
  obtain ⟨kv, q1, q2⟩ := z
  exact h (mem_keys.mpr ⟨kv.2, by rw [← of_decide_eq_true q2]; exact q1⟩)
theorem fold_new {p : Int} {t : Str} : ∀ (l acc : Bg), (keys l).Nodup → (∀ kv ∈ l, 0 < kv.2 ∧ kv.2 < p) → (∀ u ∈ keys l, u ++ t ∉ keys acc) → l.foldl (fun acc a => prodRow p acc a [(t, 1)]) acc = acc ++ withB l t
  | [], acc, _, _, _ => (List.append_nil acc).symm
  | a :: l, acc, hn, hv, hd => by
    have hn2 := List.nodup_cons.mp (show (a.1 :: keys l).Nodup from hn)
    have ha := hv a List.mem_cons_self
    have e1 : prodRow p acc a [(t, 1)] = acc ++ [(a.1 ++ t, a.2)] := by
      show addTo p acc (a.1 ++ t) (a.2 * 1) = _
      rw [Int.mul_one]
      exact addTo_new (hd a.1 (show a.1 ∈ a.1 :: keys l from List.mem_cons_self)) ha.1 ha.2
    rw [List.foldl_cons, e1, fold_new l _ hn2.2 (fun kv h => hv kv (List.mem_cons_of_mem _ h)) (fun u hu hm => ?_), List.append_assoc]
    · rfl
    · unfold keys at hm
      rw [List.map_append, List.mem_append] at hm
      rcases hm with hm | hm
      · exact hd u (show u ∈ a.1 :: keys l from List.mem_cons_of_mem _ hu) hm
      · have e := List.mem_singleton.mp hm
        have e2 := app_cancel e
        rw [e2] at hu
        exact hn2.1 hu
theorem prod_word {p : Int} {F : Bg} (t : Str) (g : Good p F) : prodS p F [(t, 1)] = withB F t := by
  unfold prodS
  rw [fold_new F [] g.nd (fun kv h => ⟨g.lo kv h, g.hi kv h⟩) (fun _ _ h => nomatch h)]
  rfl
theorem withB_good {p : Int} {F : Bg} {t : Str} (g : Good p F) : Good p (withB F t) := ⟨withB_nodup g.nd, fun kv h => by
    obtain ⟨q, hq, rfl⟩ := List.mem_map.mp h
    exact g.lo q hq, fun kv h => by
    obtain ⟨q, hq, rfl⟩ := List.mem_map.mp h
    exact g.hi q hq⟩
theorem cf_withB {F : Bg} {t u : Str} (hn : (keys F).Nodup) : cf (withB F t) (u ++ t) = cf F u := by
  by_cases h : u ∈ keys F
  · obtain ⟨n, hm⟩ := mem_keys.mp h
    rw [cf_of_mem hn hm, cf_of_mem (withB_nodup hn) (n := n) (List.mem_map.mpr ⟨(u, n), hm, rfl⟩)]
  · rw [cf_not_mem h, cf_not_mem]
    rw [withB_keys]
    intro z
    obtain ⟨v, hv, e⟩ := List.mem_map.mp z
    exact h (by rw [← app_cancel e]; exact hv)
theorem withB_len (F : Bg) (t : Str) : (withB F t).length = F.length := List.length_map _
/-! ### numbers -/
theorem step_zero {p l x : Int} (hp : Prm p) (hl : 0 < l) (hl1 : l < p) (hx : 0 < x) (hx1 : x < p) : (l + (-(l * inv p x % p)) * x) % p = 0 ∧ 0 < l * inv p x % p ∧ l * inv p x % p < p := by
  have h7 : p ≤ 7 := by rcases hp with rfl | rfl | rfl | rfl <;> decide
  rcases hp with rfl | rfl | rfl | rfl <;> rcases rng_cases hl hl1 h7 with rfl | rfl | rfl | rfl | rfl | rfl <;> rcases rng_cases hx hx1 h7 with rfl | rfl | rfl | rfl | rfl | rfl <;> first | decide | omega
theorem step_only {p l x k : Int} (hp : Prm p) (hl : 0 < l) (hl1 : l < p) (hx : 0 < x) (hx1 : x < p) (hk : 0 < k) (hk1 : k < p) : (k * x - l) % p = 0 ↔ k = l * inv p x % p := by
  have h7 : p ≤ 7 := by rcases hp with rfl | rfl | rfl | rfl <;> decide
  rcases hp with rfl | rfl | rfl | rfl <;> rcases rng_cases hl hl1 h7 with rfl | rfl | rfl | rfl | rfl | rfl <;> rcases rng_cases hx hx1 h7 with rfl | rfl | rfl | rfl | rfl | rfl <;> rcases rng_cases hk hk1 h7 with rfl | rfl | rfl | rfl | rfl | rfl <;> first | decide | omega
theorem step_back {p c x : Int} (hp : Prm p) (hc : 0 < c) (hc1 : c < p) (hx : 0 < x) (hx1 : x < p) : (x * c % p) * inv p x % p = c := by
  have h7 : p ≤ 7 := by rcases hp with rfl | rfl | rfl | rfl <;> decide
  rcases hp with rfl | rfl | rfl | rfl <;> rcases rng_cases hc hc1 h7 with rfl | rfl | rfl | rfl | rfl | rfl <;> rcases rng_cases hx hx1 h7 with rfl | rfl | rfl | rfl | rfl | rfl <;> first | decide | omega
/-! ### the words of so many letters x, y, z -/
def allL : Nat → List (List Nat)
  | 0 => [[]]
  | n + 1 => [] :: ((allL n).map (120 :: ·) ++ ((allL n).map (121 :: ·) ++ (allL n).map (122 :: ·)))
def lenU : Nat → Nat
  | 0 => 1
  | n + 1 => 1 + (lenU n + (lenU n + lenU n))
theorem allL_len : ∀ n, (allL n).length = lenU n
  | 0 => rfl
  | n + 1 => by
    unfold allL lenU
    rw [List.length_cons, List.length_append, List.length_append, List.length_map, List.length_map, List.length_map, allL_len n]
    omega
def Ltr (l : List Nat) : Prop := ∀ c ∈ l, c = 120 ∨ c = 121 ∨ c = 122
theorem mem_allL : ∀ (n : Nat) (l : List Nat), l.length ≤ n → Ltr l → l ∈ allL n
  | 0, [], _, _ => List.mem_singleton.mpr rfl
  | 0, c :: l, h, _ => absurd h (by simp)
  | n + 1, [], _, _ => List.mem_cons_self
  | n + 1, c :: l, h, hl => by
    have ih := mem_allL n l (by simp at h; omega) fun d hd => hl d (List.mem_cons_of_mem _ hd)
    unfold allL
    refine List.mem_cons_of_mem _ ?_
    rcases hl c List.mem_cons_self with rfl | rfl | rfl
    · exact List.mem_append_left _ (List.mem_map.mpr ⟨l, ih, rfl⟩)
    · exact List.mem_append_right _ (List.mem_append_left _ (List.mem_map.mpr ⟨l, ih, rfl⟩))
    · exact List.mem_append_right _ (List.mem_append_right _ (List.mem_map.mpr ⟨l, ih, rfl⟩))
def allW (n : Nat) : List Str := (allL n).map ofL
/-- words of at most so many letters -/
def Bd (n : Nat) (s : Bg) : Prop := ∀ u ∈ keys s, u.length ≤ n ∧ Ltr u.cps.toList
theorem mem_allW {n : Nat} {w : Str} (h : w.length ≤ n) (hl : Ltr w.cps.toList) : w ∈ allW n :=
  List.mem_map.mpr ⟨w.cps.toList, mem_allL n _ (by rw [str_len]; exact h) hl, ofL_toList w⟩
theorem len_sub {α : Type} [DecidableEq α] : ∀ {l m : List α}, l.Nodup → (∀ x ∈ l, x ∈ m) → l.length ≤ m.length
  | [], _, _, _ => Nat.zero_le _
  | a :: l, m, hn, hs => by
    have hn2 := List.nodup_cons.mp hn
    have ha := hs a List.mem_cons_self
    have h1 := len_sub (l := l) (m := m.erase a) hn2.2 fun x hx => by
      have hne : x ≠ a := fun e => by subst e; exact hn2.1 hx
      exact (List.mem_erase_of_ne hne).mpr (hs x (List.mem_cons_of_mem _ hx))
    rw [List.length_erase_of_mem ha] at h1
    have := List.length_pos_of_mem ha
    rw [List.length_cons]
    omega
theorem Bd.len {n : Nat} {s : Bg} (hn : (keys s).Nodup) (h : Bd n s) : s.length ≤ lenU n := by
  have h1 := len_sub hn (m := allW n) fun u hu => mem_allW (h u hu).1 (h u hu).2
  unfold allW at h1
  rw [List.length_map, allL_len] at h1
  unfold keys at h1
  rw [List.length_map] at h1
  exact h1
theorem filter_le {α : Type} {p q : α → Bool} (h : ∀ x, q x = true → p x = true) : ∀ l : List α, (l.filter q).length ≤ (l.filter p).length
  | [] => Nat.le_refl _
  | a :: l => by
    have ih := filter_le h l
    rw [List.filter_cons, List.filter_cons]
    cases hq : q a with
    | true => rw [h a hq, if_pos rfl, if_pos rfl, List.length_cons, List.length_cons]; omega
    | false =>
      rw [if_neg Bool.false_ne_true]
      split
      · rw [List.length_cons]; omega
      · exact ih
theorem filter_lt {α : Type} {p q : α → Bool} (h : ∀ x, q x = true → p x = true) {a : α} (hp : p a = true) (hq : q a = false) : ∀ l : List α, a ∈ l → (l.filter q).length < (l.filter p).length
  | [], hm => nomatch hm
  | b :: l, hm => by
    have ih2 := filter_le h l
    rw [List.filter_cons, List.filter_cons]
    rcases List.mem_cons.mp hm with e | hm2
    · subst e
      rw [hp, hq, if_neg Bool.false_ne_true, if_pos rfl, List.length_cons]
      omega
    · have ih := filter_lt h hp hq l hm2
      cases hqb : q b with
      | true => rw [h b hqb, if_pos rfl, if_pos rfl, List.length_cons, List.length_cons]; omega
      | false =>
        rw [if_neg Bool.false_ne_true]
        split
        · rw [List.length_cons]; omega
        · exact ih
/-- how many words are not ahead of the first word -/
def mu (n : Nat) (L : Bg) : Nat := if L = [] then 0 else ((allW n).filter fun u => leW (lead L) u).length
theorem leW_refl (a : Str) : leW a a = true := (leW_total.total _ _).elim id id
theorem mu_lt {n : Nat} {L L' : Bg} (hL : L ≠ []) (hb : Bd n L) (h : L' ≠ [] → leW (lead L) (lead L') = true ∧ lead L ≠ lead L') : mu n L' < mu n L := by
  have hm := hb _ (lead_mem hL)
  have hin := mem_allW hm.1 hm.2
  unfold mu
  rw [if_neg hL]
  by_cases e : L' = []
  · rw [if_pos e]
    exact List.length_pos_of_mem (List.mem_filter.mpr ⟨hin, leW_refl _⟩)
  · rw [if_neg e]
    obtain ⟨h1, h2⟩ := h e
    refine filter_lt (p := fun u => leW (lead L) u) (q := fun u => leW (lead L') u) (fun u hu => leW_total.trans _ _ _ h1 hu) (a := lead L) (leW_refl _) ?_ _ hin
    show leW (lead L') (lead L) = false
    cases q : leW (lead L') (lead L) with
    | false => rfl
    | true => exact absurd (leW_anti h1 q) h2
/-! ### dividing -/
def divK (p : Int) (F L : Bg) : Int := cf L (lead L) * inv p (cf F (lead F)) % p
def divL (p : Int) (F L : Bg) (t : Str) : Bg := plusS p L (withB F t) (-(divK p F L))
inductive DivR (p : Int) (F : Bg) : Bg → Bg → Option Bg → Prop
  | done {f : Bg} : DivR p F [] f (some f)
  | stop {L f : Bg} : L ≠ [] → (¬ ∃ t, lead L = lead F ++ t) → DivR p F L f none
  | step {L f : Bg} {r : Option Bg} {t : Str} : L ≠ [] → lead L = lead F ++ t → DivR p F (divL p F L t) (putS f t (divK p F L)) r → DivR p F L f r
section
variable {p : Int} {F L : Bg} {t : Str}
theorem divK_bd (hp : Prm p) (gF : Good p F) (gL : Good p L) (hF : F ≠ []) (hL : L ≠ []) : 0 < divK p F L ∧ divK p F L < p := by
  have hp0 : 0 < p := by have := hp.pos; omega
  exact (step_zero hp (cf_pos_of gL (lead_mem hL)) (cf_lt_of hp0 gL) (cf_pos_of gF (lead_mem hF)) (cf_lt_of hp0 gF)).2
theorem divL_good (hp : Prm p) (gL : Good p L) : Good p (divL p F L t) := Good.plus (by have := hp.pos; omega) gL _
theorem divL_keys {u : Str} (h : u ∈ keys (divL p F L t)) : u ∈ keys L ∨ ∃ v ∈ keys F, u = v ++ t := by
  rcases keys_plus h with h | h
  · exact .inl h
  · rw [withB_keys] at h
    obtain ⟨v, hv, rfl⟩ := List.mem_map.mp h
    exact .inr ⟨v, hv, rfl⟩
theorem divL_bd {n : Nat} (hF : Bd n F) (hL : Bd n L) (hne : L ≠ []) (ht : lead L = lead F ++ t) : Bd n (divL p F L t) := fun u hu => by
  rcases divL_keys hu with h | ⟨v, hv, rfl⟩
  · exact hL u h
  · have h1 := hL _ (lead_mem hne)
    have h2 := lead_len hv
    rw [ht, len_app, app_toList] at h1
    rw [len_app, app_toList]
    refine ⟨by omega, fun c hc => ?_⟩
    rcases List.mem_append.mp hc with hc | hc
    · exact (hF v hv).2 c hc
    · exact h1.2 c (List.mem_append_right _ hc)
theorem divL_lead (hp : Prm p) (gF : Good p F) (gL : Good p L) (hF : F ≠ []) (hne : L ≠ []) (ht : lead L = lead F ++ t) : divL p F L t ≠ [] → leW (lead L) (lead (divL p F L t)) = true ∧ lead L ≠ lead (divL p F L t) := fun h => by
  have hp0 : 0 < p := by have := hp.pos; omega
  have hm := lead_mem h
  refine ⟨?_, fun e => ?_⟩
  · rcases divL_keys hm with q | ⟨v, hv, q⟩
    · exact lead_le q
    · rw [q, ht]
      exact leW_app (lead_le hv) (leW_refl _)
  · rw [← e, cf_ne (divL_good hp gL)] at hm
    refine hm ?_
    unfold divL
    rw [cf_plus hp0 gL (withB_nodup gF.nd)]
    have e2 : cf (withB F t) (lead L) = cf F (lead F) := by rw [ht]; exact cf_withB gF.nd
    rw [e2]
    exact (step_zero hp (cf_pos_of gL (lead_mem hne)) (cf_lt_of hp0 gL) (cf_pos_of gF (lead_mem hF)) (cf_lt_of hp0 gF)).1
theorem divL_mu {n : Nat} (hp : Prm p) (gF : Good p F) (gL : Good p L) (hF : F ≠ []) (hne : L ≠ []) (hb : Bd n L) (ht : lead L = lead F ++ t) : mu n (divL p F L t) < mu n L := mu_lt hne hb (divL_lead hp gF gL hF hne ht)
theorem DivR.det {f : Bg} {r r' : Option Bg} (h : DivR p F L f r) (h' : DivR p F L f r') : r = r' := by
  induction h with
  | done => cases h' with
    | done => rfl
    | stop q _ => exact absurd rfl q
    | step q _ _ => exact absurd rfl q
  | stop q1 q2 => cases h' with
    | done => exact absurd rfl q1
    | stop _ _ => rfl
    | step _ q3 _ => exact absurd ⟨_, q3⟩ q2
  | step q1 q2 _ ih => cases h' with
    | done => exact absurd rfl q1
    | stop _ q3 => exact absurd ⟨_, q2⟩ q3
    | step _ q3 q4 =>
      have e := app_cancel_l (q2.symm.trans q3)
      subst e
      exact ih q4
theorem eqv_nil {s : Bg} (g : Good p s) (h : Eqv s []) : s = [] := by
  cases s with
  | nil => rfl
  | cons q r =>
    have h1 := h q.1.cps.toList
    have hm : q.1 ∈ keys (q :: r) := List.mem_cons_self
    rw [cf_ne g] at hm
    unfold cl at h1
    rw [ofL_toList] at h1
    exact absurd h1 hm
theorem eqv_cf {s t : Bg} (h : Eqv s t) (w : Str) : cf s w = cf t w := by
  have := h w.cps.toList
  unfold cl at this
  rwa [ofL_toList] at this
theorem eqv_lead {s t : Bg} (gs : Good p s) (gt : Good p t) (h : Eqv s t) : lead s = lead t := by
  unfold lead
  rw [ordW_congr (keys_perm gs gt (eqv_cf h))]
theorem DivR.congr {f : Bg} {r : Option Bg} (hp : Prm p) (gF : Good p F) (h : DivR p F L f r) : ∀ {M : Bg}, Good p L → Good p M → Eqv L M → DivR p F M f r := by
  have hp0 : 0 < p := by have := hp.pos; omega
  induction h with
  | done =>
    intro M gL gM e
    rw [eqv_nil gM e.symm]
    exact .done
  | stop q1 q2 =>
    intro M gL gM e
    exact .stop (fun z => q1 (by subst z; exact eqv_nil gL e)) (by rw [← eqv_lead gL gM e]; exact q2)
  | @step L f r t q1 q2 _ ih =>
    intro M gL gM e
    have el := eqv_lead gL gM e
    have ek : divK p F M = divK p F L := by unfold divK; rw [← el, eqv_cf e]
    refine .step (t := t) (fun z => q1 (by subst z; exact eqv_nil gL e)) (by rw [← el]; exact q2) ?_
    rw [ek]
    refine ih (divL_good hp gL) (divL_good hp gM) ?_
    unfold divL
    rw [ek]
    exact plus_congr hp0 gL (withB_nodup gF.nd) gM (withB_nodup gF.nd) _ e (Eqv.refl _)
/-- of a product: the second bag is found -/
theorem DivR.planted {f : Bg} {r : Option Bg} (hp : Prm p) (gF : Good p F) (hF : F ≠ []) (h : DivR p F L f r) : ∀ {R : Bg}, Good p L → Good p R → Good p f → Eqv L (prodS p F R) → (∀ u ∈ keys R, u ∉ keys f) → ∃ f', r = some f' ∧ Good p f' ∧ ∀ w, cf f' w = cf f w + cf R w := by
  have hp0 : 0 < p := by have := hp.pos; omega
  induction h with
  | @done f =>
    intro R gL gR gf e hd
    have hR : R = [] := by
      by_cases h : R = []
      · exact h
      · have := prod_ne hp gF gR hF h
        exact absurd (eqv_nil (Good.prod hp0 F R) e.symm) this
    subst hR
    exact ⟨f, rfl, gf, fun w => by rw [cf_nil, Int.add_zero]⟩
  | stop q1 q2 =>
    intro R gL gR gf e hd
    have hR : R ≠ [] := fun z => by
      subst z
      rw [prod_nil] at e
      exact q1 (eqv_nil gL e)
    obtain ⟨_, e1, _⟩ := prod_lead hp gF gR hF hR
    exact absurd ⟨lead R, by rw [eqv_lead gL (Good.prod hp0 F R) e, e1]⟩ q2
  | @step L f r t q1 q2 _ ih =>
    intro R gL gR gf e hd
    have hR : R ≠ [] := fun z => by
      subst z
      rw [prod_nil] at e
      exact q1 (eqv_nil gL e)
    obtain ⟨_, e1, e2⟩ := prod_lead hp gF gR hF hR
    have el : lead L = lead F ++ lead R := by rw [eqv_lead gL (Good.prod hp0 F R) e, e1]
    obtain rfl : t = lead R := app_cancel_l (q2.symm.trans el)
    have ek : divK p F L = cf R (lead R) := by
      unfold divK
      rw [el, eqv_cf e, e2]
      exact step_back hp (cf_pos_of gR (lead_mem hR)) (cf_lt_of hp0 gR) (cf_pos_of gF (lead_mem hF)) (cf_lt_of hp0 gF)
    have hk := divK_bd hp gF gL hF q1
    have gw : Good p [(lead R, (1 : Int))] := ⟨by unfold keys; simp, fun kv h => by rw [List.mem_singleton.mp h]; exact (by decide : (0 : Int) < 1), fun kv h => by rw [List.mem_singleton.mp h]; exact hp.pos⟩
    have hcf : ∀ w, cf (plusS p R [(lead R, 1)] (-(divK p F L))) w = if w = lead R then 0 else cf R w := fun w => by
      rw [cf_plus hp0 gR gw.nd]
      by_cases h : w = lead R
      · subst h
        rw [if_pos rfl, cf_pos rfl, ek, Int.mul_one, Int.add_right_neg]
        exact Int.zero_emod p
      · rw [if_neg h, cf_neg (fun z => h z.symm), cf_nil, Int.mul_zero, Int.add_zero]
        exact cf_mod hp0 gR w
    have hdis : ∀ u ∈ keys (plusS p R [(lead R, 1)] (-(divK p F L))), u ∉ keys (putS f (lead R) (divK p F L)) := fun u hu hm => by
      have hne : u ≠ lead R := fun z => by
        subst z
        rw [cf_ne (Good.plus hp0 gR _), hcf] at hu
        exact hu (if_pos rfl)
      have hu2 : u ∈ keys R := by
        rw [cf_ne (Good.plus hp0 gR _), hcf, if_neg hne] at hu
        exact (cf_ne gR).mpr hu
      rw [keys_put] at hm
      split at hm
      · exact hd u hu2 hm
      · rcases List.mem_append.mp hm with hm | hm
        · exact hd u hu2 hm
        · exact hne (List.mem_singleton.mp hm)
    obtain ⟨f', h1, h2, h3⟩ := ih (R := plusS p R [(lead R, 1)] (-(divK p F L))) (divL_good hp gL) (Good.plus hp0 gR _) (gf.put hk.1 hk.2) (by
      unfold divL
      refine (plus_congr hp0 gL (withB_nodup gF.nd) (Good.prod hp0 F R) (Good.prod hp0 F _).nd _ e ?_).trans (distrib_r hp0 gF gR gw _).symm
      rw [prod_word (lead R) gF]
      exact Eqv.refl _) hdis
    · refine ⟨f', h1, h2, fun w => ?_⟩
      rw [h3 w, cf_put, hcf w]
      by_cases h : w = lead R
      · subst h
        rw [if_pos rfl, if_pos rfl, ek, cf_not_mem (hd _ (lead_mem hR))]
        omega
      · rw [if_neg h, if_neg h]
end
end Fp

/-! Dicts of any values by texts: comprehensions over their keys; loops over a dict's keys that change no object. -/
namespace Fp
open PySem L2
/-- all but d's object and lists stand -/
def ExD (d : Addr) (H H' : Hp) : Prop := ∀ a o, a ≠ d → (∀ xs, o ≠ .lst xs) → H a = some o → H' a = some o
theorem ExD.trans {d : Addr} {H H1 H2 : Hp} (a : ExD d H H1) (b : ExD d H1 H2) : ExD d H H2 := fun x o n m h => b x o n m (a x o n m h)
theorem Ex.exd {d : Addr} {H H' : Hp} (e : Ex H H') : ExD d H H' := fun a o _ _ h => e a o h
theorem ExD.upd {d : Addr} {H : Hp} {a : Addr} {o : HO} {xs : List V} (h : H a = some (.lst xs)) : ExD d H (L2.upd H a o) := fun b u _ n q => by
  rw [upd_ne (fun e => by subst e; rw [h] at q; exact n xs (Option.some.inj q).symm)]
  exact q
/-- a bag stands, whatever a locked dict's object becomes -/
theorem BagAt.exd {Cs : Addr → Prop} {d : Addr} {od : Obj} {kvs : List (Key × V)} {H H' : Hp} {a : Addr} {p : Int} {s : Bg} (e : ExD d H H') (hd : H d = some (.frz od (.dK kvs))) (b : BagAt Cs H a p s) : BagAt Cs H' a p s := by
  obtain ⟨C, dx, d', k, t, h0, h1, h2, ⟨qs, o, h3, h4, h5⟩⟩ := b.ex
  refine ⟨C, dx, d', k, t, h0, e _ _ (ne_of h1 hd (fun z => nomatch z)) (fun _ z => nomatch z) h1, e _ _ (ne_of h2 hd (fun z => nomatch z)) (fun _ z => nomatch z) h2, ⟨qs, o, e _ _ (ne_of h3 hd (fun z => by injection z with _ z2; cases z2)) (fun _ z => nomatch z) h3, h4, Paired.mapP h5 fun q kv z => e _ _ (ne_of z hd (fun z => nomatch z)) (fun _ z => nomatch z) z⟩⟩
/-- while the dict at d is walked -/
structure LkK (d : Addr) (kvs : List (Key × V)) (H H' : Hp) : Prop where
  keep : ∀ a o, a ≠ d → H a = some o → H' a = some o
  self : ∃ od, H' d = some (.frz od (.dK kvs))
theorem LkK.ex {d : Addr} {kvs : List (Key × V)} {H H' H'' : Hp} (l : LkK d kvs H H') (e : Ex H' H'') : LkK d kvs H H'' := ⟨fun a o n h => e _ _ (l.keep a o n h), let ⟨od, h⟩ := l.self; ⟨od, e _ _ h⟩⟩
theorem LkK.rd {d : Addr} {kvs : List (Key × V)} {H H' : Hp} (l : LkK d kvs H H') : Rd H' d (.dK kvs) := .inr l.self
/-- a bag stands while another dict is walked -/
theorem BagAt.lk {Cs : Addr → Prop} {d : Addr} {kvs : List (Key × V)} {H H' : Hp} {a : Addr} {p : Int} {s : Bg} (l : LkK d kvs H H') (hd : H d = some (.dK kvs)) (hk : kvs ≠ toK s) (b : BagAt Cs H a p s) : BagAt Cs H' a p s := by
  obtain ⟨C, dx, d', k, t, h0, h1, h2, ⟨qs, o, h3, h4, h5⟩⟩ := b.ex
  exact ⟨C, dx, d', k, t, h0, l.keep _ _ (ne_of h1 hd (fun z => nomatch z)) h1, l.keep _ _ (ne_of h2 hd (fun z => hk (HO.dK.inj z).symm)) h2, ⟨qs, o, l.keep _ _ (ne_of h3 hd (fun z => nomatch z)) h3, h4, Paired.mapP h5 fun q kv z => l.keep _ _ (ne_of z hd (fun z => nomatch z)) z⟩⟩
/-- anything over a dict's keys: the dict locked, then unlocked; it was unlocked -/
theorem lockK {σ : St} {H : Hp} {Q : VK} {d : Addr} {kvs : List (Key × V)} {t : TE} (hd : H d = some (.dK kvs))
    (core : ∀ (Hl : Hp) (od : Obj) (Q' : VK), Hl d = some (.frz od (.dK kvs)) → LkK d kvs H Hl → (∀ a, Hl a = none → H a = none) →
      (∀ v H', Ex Hl H' → (∀ H2, Ex H H2 → (∀ a, a ≠ d → H2 a = H' a) → ExD d H' H2 → Q v H2) → Q' v H') → t σ Hl Q') : tLockRE t σ H Q := by
  refine .inl ⟨d, _, hd, trivial, fun od => ?_⟩
  refine core _ od _ upd_same ⟨fun a o ha q => by rw [upd_ne ha]; exact q, od, upd_same⟩ (fun a ha => ?_) fun v H' e hq => ?_
  · by_cases q : a = d
    · subst q; rw [upd_same] at ha; cases ha
    · rw [upd_ne q] at ha; exact ha
  · have hdl : H' d = some (.frz od (.dK kvs)) := e _ _ upd_same
    refine ⟨hdl, hq _ (fun a o q => ?_) (fun a ha => by rw [upd_ne ha]) (fun a o n _ q => by rw [upd_ne n]; exact q)⟩
    by_cases ha : a = d
    · subst ha
      rw [hd] at q
      cases q
      exact upd_same
    · rw [upd_ne ha]
      exact e a o (by rw [upd_ne ha]; exact q)
theorem lcK_rel {σ : St} {H : Hp} {Q : VK} {d : Addr} {kvs : List (Key × V)} {te0 te : TE} {j : Nat} {vs : List Nat} (hd : H d = some (.dK kvs)) (hz : kvs.length ≤ sizeLine)
    (he : ∀ (H' : Hp) (Q : VK), LkK d kvs H H' → Q (.ref d) H' → te0 σ H' Q)
    (R : Key × V → V → Hp → Prop) (hR : ∀ e y H H', (∃ od, H d = some (.frz od (.dK kvs))) → ExD d H H' → R e y H → R e y H') (hw : ∀ x, wipe ((wipe σ vs).set j x) vs = wipe σ vs)
    (hs : ∀ (i : Nat) (k : Key) (v : V) (H' : Hp) (K : VK), kvs[i]? = some (k, v) → LkK d kvs H H' → (∀ y H4, Ex H' H4 → R (k, v) y H4 → K y H4) → te ((wipe σ vs).set j (some (kV k))) H' K)
    (hend : ∀ D H' ys, H D = none → Ex H H' → H' D = some (.lst ys) → Paired (fun y e => R e y H') ys kvs → Q (.ref D) H') : tLockRE (tLc (iKeys te0) (gName j) tYes te vs) σ H Q := by
  refine lockK hd fun Hl od Q' hl l0 hnone hq => ?_
  refine he Hl _ l0 ⟨d, od, rfl, .inl ⟨kvs, hl, ?_⟩⟩
  intro D hD
  refine lc_it walk_keys (fun i H => Ex Hl H ∧ ∃ ys, H D = some (.lst ys) ∧ Paired (fun y e => R e y H) ys (kvs.take i)) ⟨Ex.new hD, [], upd_same, .nil⟩ (fun i H _ p => p.1 _ _ hl) ?_ (fun H p => ?_)
  · rintro i x H1 H' hi ⟨e, ys, hacc, hp⟩ ⟨rfl, k, v, hk, rfl⟩
    refine ⟨hw _, ?_⟩
    unfold tYes
    dsimp only
    rw [if_pos rfl]
    have hlen : ys.length = i := by rw [hp.length, List.length_take]; omega
    refine hs i k v H' _ hk (l0.ex e) fun z H4 e4 rz => ⟨ys, e4 _ _ hacc, by omega, ?_, ys ++ [z], upd_same, ?_⟩
    · exact Ex.mut (e.trans e4) hD
    · have tu : ExD d H4 (L2.upd H4 D (.lst (ys ++ [z]))) := ExD.upd (e4 _ _ hacc)
      have hdl : H' d = some (.frz od (.dK kvs)) := e _ _ hl
      have hdl4 := e4 _ _ hdl
      have etk : kvs.take (i + 1) = kvs.take i ++ [(k, v)] := by rw [List.take_add_one, hk]; rfl
      rw [etk]
      exact Paired.snoc (Paired.mapP hp fun a b q => hR _ _ _ _ ⟨od, hdl⟩ (e4.exd.trans tu) q) (hR _ _ _ _ ⟨od, hdl4⟩ tu rz)
  · obtain ⟨e, ys, h, hp⟩ := p
    rw [List.take_length] at hp
    have hDd : D ≠ d := fun z => by subst z; rw [hl] at hD; cases hD
    exact hq _ H e fun H2 e2 hs2 ht => hend D H2 ys (hnone _ hD) e2 (by rw [hs2 D hDd]; exact h) (Paired.mapP hp fun a b q => hR _ _ _ _ ⟨od, e _ _ hl⟩ ht q)
/-- a loop over a dict's keys that changes no object that was there -/
theorem for_keysE {σ : St} {H : Hp} {D : Ends} {d : Addr} {s : Bg} {te : TE} {j : Nat} {tb : TS} (hd : Rd H d (.dK (toK s)))
    (he : ∀ (H' : Hp) (Q : VK), LkEx d s H H' → Q (.ref d) H' → te σ H' Q)
    (I : Nat → St → Hp → Prop) (h0 : I 0 σ H) (hI : ∀ i σ H H', (∀ a o, a ≠ d → H a = some o → H' a = some o) → I i σ H → I i σ H')
    (hs : ∀ i w n σ' H' (E : Ends), s[i]? = some (w, n) → I i σ' H' → LkEx d s H H' → (∀ σ'' H'', I (i + 1) σ'' H'' → Ex H' H'' → E.nx σ'' H'') → tb E (σ'.set j (some (.str w))) H')
    (hend : ∀ σ' H', I s.length σ' H' → Ex H H' → D.nx σ' H') : tLockR (tFor (iKeys te) (gName j) tb) D σ H := by
  have core : ∀ (Hl : Hp) (od : Obj) (E : Ends), Hl d = some (.frz od (.dK (toK s))) → LkEx d s H Hl → I 0 σ Hl → (∀ σ' H', I s.length σ' H' → Ex Hl H' → E.nx σ' H') → tFor (iKeys te) (gName j) tb E σ Hl := by
    intro Hl od E hl l0 hI0 hE
    refine he Hl _ l0 ⟨d, od, rfl, .inl ⟨toK s, hl, ?_⟩⟩
    refine for_it walk_keys (fun i σ' H' => I i σ' H' ∧ Ex Hl H') ⟨hI0, Ex.refl _⟩ (fun i σ' H' _ p => p.2 _ _ hl) ?_ (fun σ' H' p => ?_)
    · rintro i x σ' H' H1 hi ⟨hi1, e⟩ ⟨rfl, k, v, hk, rfl⟩
      obtain ⟨w, n, hw, ekv⟩ := toK_get hk
      cases ekv
      exact hs i w n σ' H1 _ hw hi1 (l0.ex e) fun σ'' H'' i2 e2 => ⟨i2, e.trans e2⟩
    · obtain ⟨hi1, e⟩ := p
      rw [toK_len] at hi1
      exact hE σ' H' hi1 e
  rcases hd with hd | ⟨od, hd⟩
  · refine .inl ⟨d, _, hd, trivial, fun od => ?_⟩
    refine core _ od _ upd_same ⟨fun a o ha q => by rw [upd_ne ha]; exact q, .inr ⟨od, upd_same⟩⟩ (hI _ _ _ _ (fun a o ha q => by rw [upd_ne ha]; exact q) h0) (fun σ' H' hi1 e => ?_)
    have hdl : H' d = some (.frz od (.dK (toK s))) := e _ _ upd_same
    refine ⟨hdl, hend σ' _ (hI _ _ _ _ (fun a o ha q => by rw [upd_ne ha]; exact q) hi1) (fun a o q => ?_)⟩
    by_cases ha : a = d
    · subst ha
      rw [hd] at q
      cases q
      exact upd_same
    · rw [upd_ne ha]
      exact e a o (by rw [upd_ne ha]; exact q)
  · exact .inr (core H od D hd ⟨fun a o _ h => h, .inr ⟨od, hd⟩⟩ h0 hend)
/-! ### the letters of words -/
def chS (c : Nat) : Str := ⟨#[c]⟩
theorem chS_inj {a b : Nat} (h : chS a = chS b) : a = b := by
  have := congrArg (fun z : Str => z.cps.toList) h
  simpa [chS] using this
/-- a dict of some letters of the words ws -/
def LetK (ws : List Str) (kvs : List (Key × V)) : Prop := ∃ cs : List Nat, kvs = cs.map (fun c => ((Sum.inr (chS c) : Key), V.bl true)) ∧ cs.Nodup ∧ ∀ c ∈ cs, ∃ w ∈ ws, c ∈ w.cps.toList
theorem LetK.put {ws : List Str} {kvs : List (Key × V)} {c : Nat} {w : Str} (h : LetK ws kvs) (hw : w ∈ ws) (hc : c ∈ w.cps.toList) : LetK ws (putK kvs (Sum.inr (chS c)) (.bl true)) := by
  obtain ⟨cs, rfl, hn, hm⟩ := h
  by_cases hcs : c ∈ cs
  · refine ⟨cs, ?_, hn, hm⟩
    unfold putK
    rw [if_pos]
    · rw [List.map_map]
      refine List.map_congr_left fun d _ => ?_
      show (if (Sum.inr (chS d) : Key) = Sum.inr (chS c) then ((Sum.inr (chS d) : Key), V.bl true) else ((Sum.inr (chS d) : Key), V.bl true)) = _
      split <;> rfl
    · exact List.any_eq_true.mpr ⟨_, List.mem_map.mpr ⟨c, hcs, rfl⟩, decide_eq_true rfl⟩
  · refine ⟨cs ++ [c], ?_, ?_, fun d hd => ?_⟩
    · unfold putK
      rw [if_neg, List.map_append]
      · rfl
      · intro z
        obtain ⟨kv, h1, h2⟩ := List.any_eq_true.mp z
        obtain ⟨d, hd, rfl⟩ := List.mem_map.mp h1
        have := chS_inj (Sum.inr.inj (of_decide_eq_true h2))
        rw [this] at hd
        exact hcs hd
    · rw [List.nodup_append]
      exact ⟨hn, by simp, fun a ha b hb e => by rw [List.mem_singleton.mp hb] at e; rw [e] at ha; exact hcs ha⟩
    · rcases List.mem_append.mp hd with h | h
      · exact hm d h
      · rw [List.mem_singleton.mp h]; exact ⟨w, hw, hc⟩
/-- {letter: True for word in s for letter in word} -/
theorem dc2_letters {σ : St} {H : Hp} {Q : VK} {d : Addr} {s : Bg} {te0 te1 tk tv : TE} {j j1 : Nat} {vs vs1 : List Nat} (hd : Rd H d (.dK (toK s))) (hz : ∀ u ∈ keys s, ∀ c ∈ u.cps.toList, c = 120 ∨ c = 121 ∨ c = 122)
    (he : ∀ (H' : Hp) (Q : VK), Q (.ref d) H' → te0 σ H' Q) (hw : ∀ x, wipe ((wipe σ vs).set j x) vs = wipe σ vs)
    (h1 : ∀ (w : Str) (H' : Hp) (R : It → Hp → Prop), R (Its w) H' → iStr te1 ((wipe σ vs).set j (some (.str w))) H' R) (hw1 : ∀ (w : Str) x, wipe ((wipe ((wipe σ vs).set j (some (.str w))) vs1).set j1 x) vs1 = wipe ((wipe σ vs).set j (some (.str w))) vs1)
    (hk : ∀ (w : Str) (c : Nat) (H' : Hp) (Q : VK), Q (.str (chS c)) H' → tk ((wipe ((wipe σ vs).set j (some (.str w))) vs1).set j1 (some (.str (chS c)))) H' Q)
    (hv : ∀ (w : Str) (c : Nat) (H' : Hp) (Q : VK), Q (.bl true) H' → tv ((wipe ((wipe σ vs).set j (some (.str w))) vs1).set j1 (some (.str (chS c)))) H' Q)
    (hend : ∀ D H' kvs, H D = none → Ex H H' → H' D = some (.dK kvs) → LetK (keys s) kvs → Q (.ref D) H') : tLockRE (tDc2 (iKeys te0) (gName j) (iStr te1) (gName j1) tk tv vs vs1) σ H Q := by
  refine lock_any hd fun Hl od Q' hl l0 hnone hq => ?_
  refine he Hl _ ⟨d, od, rfl, .inl ⟨toK s, hl, fun D hD => ?_⟩⟩
  have hDd : D ≠ d := fun z => by subst z; rw [hl] at hD; cases hD
  have small : ∀ kvs, LetK (keys s) kvs → kvs.length < sizeLine := fun kvs ⟨cs, e, hn, hm⟩ => by
    rw [e, List.length_map]
    have := len_sub hn (m := [120, 121, 122]) fun c hc => by
      obtain ⟨w, hw, hcw⟩ := hm c hc
      rcases hz w hw c hcw with rfl | rfl | rfl <;> simp
    exact Nat.lt_of_le_of_lt this (by decide)
  refine ⟨fun i m H' => m = s.length - i ∧ i ≤ s.length ∧ Ex Hl H' ∧ ∃ kvs, H' D = some (.dK kvs) ∧ LetK (keys s) kvs, ⟨s.length, by simp, Nat.zero_le _, Ex.new hD, [], upd_same, [], rfl, List.nodup_nil, fun _ z => nomatch z⟩, ?_⟩
  rintro i m H2 ⟨rfl, hi, e2, kvs, hD2, hL⟩
  have hl2 := e2 _ _ hl
  by_cases hlt : i < s.length
  · refine .inr ⟨⟨hl2, by rw [toK_len]; exact hlt⟩, fun H' => Ex Hl H' ∧ ∃ kvs, H' D = some (.dK kvs) ∧ LetK (keys s) kvs, fun H' p => ⟨s.length - (i + 1), by omega, rfl, hlt, p.1, p.2⟩, ?_⟩
    rintro x H' ⟨rfl, k, v, hk', rfl⟩
    obtain ⟨w, n, hw', ekv⟩ := toK_get hk'
    cases ekv
    have hmem : w ∈ keys s := mem_keys.mpr ⟨n, List.mem_of_getElem? hw'⟩
    refine ⟨hw _, ?_⟩
    refine h1 w H' _ ?_
    refine ⟨fun j k H3 => k = w.cps.size - j ∧ j ≤ w.cps.size ∧ Ex Hl H3 ∧ ∃ kvs, H3 D = some (.dK kvs) ∧ LetK (keys s) kvs, ⟨w.cps.size, by simp, Nat.zero_le _, e2, kvs, hD2, hL⟩, ?_⟩
    rintro a b H3 ⟨rfl, ha, e3, kvs3, hD3, hL3⟩
    by_cases hla : a < w.cps.size
    · refine .inr ⟨hla, fun H' => Ex Hl H' ∧ ∃ kvs, H' D = some (.dK kvs) ∧ LetK (keys s) kvs, fun H' p => ⟨w.cps.size - (a + 1), by omega, rfl, hla, p.1, p.2⟩, ?_⟩
      rintro x H4 ⟨rfl, c, hc, rfl⟩
      refine ⟨hw1 w _, ?_⟩
      refine hk w c H4 _ (hv w c H4 _ ⟨kvs3, Sum.inr (chS c), rfl, hD3, small _ hL3, Ex.mut e3 hD, _, upd_same, hL3.put hmem ?_⟩)
      have : w.cps.toList[a]? = some c := by rw [Array.getElem?_toList]; exact hc
      exact List.mem_of_getElem? this
    · exact .inl ⟨by show w.cps.size ≤ a; omega, e3, kvs3, hD3, hL3⟩
  · have ei : i = s.length := by omega
    subst ei
    refine .inl ⟨⟨hl2, by rw [toK_len]; exact Nat.le_refl _⟩, ?_⟩
    exact hq _ H2 (fun D' z => by cases z; exact hnone _ hD) e2 fun H3 e3 hs3 ht => hend D H3 kvs (hnone _ hD) e3 (by rw [hs3 D hDd]; exact hD2) hL
end Fp

/-! A caught error's class asked; beginnings of texts. -/
namespace Fp
open PySem L2 PyProof.Rows
section
variable {X : Cx}
/-- isinstance(e, c), e the error that the suite holds, of a class without own fields -/
def rIsEx (K : PySem.W.Frag) (cls : Value) (d : Option Addr) (a : Addr) : List V → Hp → VK → Prop := fun xs H Q => ∃ (D : Addr) (c : V) (cv : Value) (b : Bool), cls = .ref D ∧ d = none ∧ ExcC K D ∧ xs = [.ref a, c] ∧ (∀ u, RelV c u → u = cv) ∧ PySem.W.kitOne K (.ref D) cv = some b ∧ Q (.bl b) H
theorem call_isEx {a : Addr} {oe : Obj} {cls : Value} {d : Option Addr} {pn : List (Addr × Obj)} (hz : Zc cls d oe) (hf : ∃ vs, oe.data = .fields vs) : CallR (X.suite a ((a, oe) :: pn)) (.builtin "isinstance") (rIsEx X.K cls d a) := by
  intro pins s σ H xs us Q I r h
  obtain ⟨D, c, cv, b, rfl, rfl, C, rfl, hcv, e, q⟩ := h
  exact call_isE C hz hf pins s σ H _ us Q I r ⟨c, cv, b, rfl, hcv, e, q⟩
theorem g_isEx {K : PySem.W.Frag} {a D C : Addr} {b : Bool} {H : Hp} {Q : VK} (hD : ExcC K D) (hk : PySem.W.kitOne K (.ref D) (.ref C) = some b) (h : Q (.bl b) H) : rIsEx K (.ref D) none a [.ref a, .ref C] H Q :=
  ⟨D, .ref C, .ref C, b, rfl, rfl, hD, rfl, fun u r => by cases r; rfl, hk, h⟩
end
/-! ### beginnings -/
theorem startswith_iff (x y : Str) : Txt.startswith x y = true ↔ ∃ t, x = y ++ t := by
  unfold Txt.startswith
  rw [Bool.and_eq_true, decide_eq_true_iff, PySem.StrLaws.subAt_eq, List.drop_zero, beq_iff_eq]
  constructor
  · rintro ⟨h1, h2⟩
    refine ⟨ofL (x.cps.toList.drop y.length), str_ext ?_⟩
    rw [app_toList, toList_ofL, ← h2, List.take_append_drop]
  · rintro ⟨t, rfl⟩
    rw [len_app, app_toList]
    refine ⟨by omega, ?_⟩
    rw [← str_len y, List.take_left']
    rfl
theorem cutS_front (x y : Str) : cutS (x ++ y) none (some (x.length : Int)) = x := by
  refine str_ext ?_
  unfold cutS
  show ((((x ++ y).cps.toList.drop (HT.sIx (x ++ y).length 0 none)).take (HT.sIx (x ++ y).length (x ++ y).length (some (x.length : Int)) - HT.sIx (x ++ y).length 0 none)).toArray).toList = _
  rw [HT.sIx_none, HT.sIx_nat, List.drop_zero, len_app, Nat.min_eq_left (by omega), Nat.sub_zero, List.toList_toArray, app_toList, ← str_len x, List.take_left']
  rfl
theorem cutS_back (x y : Str) : cutS (x ++ y) (some (x.length : Int)) none = y := by
  refine str_ext ?_
  unfold cutS
  show ((((x ++ y).cps.toList.drop (HT.sIx (x ++ y).length 0 (some (x.length : Int)))).take (HT.sIx (x ++ y).length (x ++ y).length none - HT.sIx (x ++ y).length 0 (some (x.length : Int)))).toArray).toList = _
  rw [HT.sIx_none, HT.sIx_nat, len_app, Nat.min_eq_left (by omega), List.toList_toArray, app_toList, ← str_len x, List.drop_left']
  · rw [str_len, show x.length + y.length - x.length = y.length from by omega, ← str_len y, List.take_length]
  · rfl
theorem cutS_pre {w x : Str} (h : cutS w none (some (x.length : Int)) = x) : ∃ t, w = x ++ t := by
  have h1 : ((w.cps.toList.drop (HT.sIx w.length 0 none)).take (HT.sIx w.length w.length (some (x.length : Int)) - HT.sIx w.length 0 none)) = x.cps.toList := by
    have := congrArg (fun z : Str => z.cps.toList) h
    unfold cutS at this
    simpa using this
  rw [HT.sIx_none, HT.sIx_nat, List.drop_zero, Nat.sub_zero] at h1
  have h2 := congrArg List.length h1
  rw [List.length_take, str_len, str_len] at h2
  refine ⟨ofL (w.cps.toList.drop x.length), str_ext ?_⟩
  rw [app_toList, toList_ofL]
  have h3 : min x.length w.length = x.length := by omega
  rw [h3] at h1
  rw [← h1, List.take_append_drop]
end Fp

/-! Rules for beginnings of words: sorted by len, comprehensions of two clauses over a dict's words. -/
namespace Fp
open PySem L2 PySem.W
/-! ### cuts -/
theorem cutS_take (w : Str) {k : Nat} (hk : k ≤ w.length) : cutS w none (some (k : Int)) = ofL (w.cps.toList.take k) := by
  have e : w = ofL (w.cps.toList.take k) ++ ofL (w.cps.toList.drop k) := by rw [← ofL_app, List.take_append_drop, ofL_toList]
  have hl : (ofL (w.cps.toList.take k)).length = k := by
    rw [← str_len, toList_ofL, List.length_take, str_len]
    omega
  have := cutS_front (ofL (w.cps.toList.take k)) (ofL (w.cps.toList.drop k))
  rw [hl, ← e] at this
  exact this
theorem cutS_last (w : Str) : cutS w none (some (-1)) = ofL w.cps.toList.dropLast := by
  refine str_ext ?_
  unfold cutS
  show ((((w).cps.toList.drop (HT.sIx (w).length 0 none)).take (HT.sIx (w).length (w).length (some (-1)) - HT.sIx (w).length 0 none)).toArray).toList = w.cps.toList.dropLast
  rw [HT.sIx_none, List.drop_zero, List.toList_toArray, List.dropLast_eq_take]
  congr 1
  have h := str_len w
  show (if (-1 : Int) < 0 then ((-1 : Int) + (w.length : Int)).toNat else min (-1 : Int).toNat w.length) - 0 = _
  rw [if_pos (by decide)]
  omega
/-! ### sorted(xs, key=len) -/
def lenD (w : Str) : PyData := .int (w.length : Int)
def ordL (ws : List Str) : List Str := ws.mergeSort (dataLe false lenD)
theorem ordL_perm (ws : List Str) : (ordL ws).Perm ws := List.mergeSort_perm _ _
theorem lenD_eq : dataLe false lenD = fun a b : Str => decide ((a.length : Int) ≤ b.length) := dataLe_int fun w : Str => (w.length : Int)
theorem ordL_sorted (ws : List Str) : (ordL ws).Pairwise (fun a b => a.length ≤ b.length) := by
  have h : TotalLe (dataLe false lenD) := by
    rw [lenD_eq]
    exact ⟨fun a b c h1 h2 => by have := of_decide_eq_true h1; have := of_decide_eq_true h2; exact decide_eq_true (by omega), fun a b => (Nat.le_total a.length b.length).imp (fun h => decide_eq_true (by omega)) fun h => decide_eq_true (by omega)⟩
  refine (sort_pairwise h ws).imp fun {a b} q => ?_
  rw [lenD_eq] at q
  have := of_decide_eq_true q
  omega
def tSortLen (K : PySem.W.Frag) (te : TE) : TE := fun σ H Q => te σ H fun x H1 => ∃ (a : Addr) (ws : List Str), [x] = [V.ref a] ∧ SqL K H1 a (ws.map V.str) ∧ (∀ w ∈ ws, w.length ≤ sizeLine) ∧
  ∀ q, H1 q = none → Q (.ref q) (upd H1 q (.lst ((ordL ws).map V.str)))
theorem pe_sortLen {X : L2.Cx} {e : Expr} {te : TE} {p p2 pos kpos : Pos} (hg : Gl X "sorted") (hm : X.mg "sorted" = none) (hv : bootBuiltins "sorted" = some (.builtin "sorted")) (hg2 : Gl X "len") (hm2 : X.mg "len" = none) (hv2 : bootBuiltins "len" = some (.builtin "len")) (hr : Room 3 X.A) (he : PE X e te)
    (h0 : starEach [e] X.env = (false, eval e X.env) :: starEach [] X.env := by rfl) (h1 : backTo pos (starEach [e] X.env) = (false, eval e X.env) :: backTo pos (starEach [] X.env) := by rfl) (h2 : (backTo pos (starEach [e] X.env)).any (·.1) = false := by rfl) :
    PE X (.Call (.Name "sorted" p) [e] [⟨some "key", .Name "len" p2, kpos⟩] pos) (tSortLen X.K te) := by
  refine ⟨fun pins s σ H Q I h => ?_⟩
  refine wpAny_Call_Name_kw (ld_blt I hg hm hv ?_)
  have ha : PA X [e] (tCons te tNil) := pa_cons he pa_nil h0
  refine PyProof.Rows.callWith_kw (thn (ha.run pos pins s σ H (fun vs H1 => ∃ (a : Addr) (ws : List Str), vs = [.ref a] ∧ SqL X.K H1 a (ws.map V.str) ∧ (∀ w ∈ ws, w.length ≤ sizeLine) ∧
    ∀ q, H1 q = none → Q (.ref q) (upd H1 q (.lst ((ordL ws).map V.str)))) I ?_) fun us s1 ⟨vs, H1, I1, r1, q1⟩ => ?_) h1 h2 rfl rfl
  · exact h
  · show wpAny _ _ (evalAll ((do let v ← eval (.Name "len" p2) X.env; standAt pos; pure v) :: [])) _ _ s1
    refine wpAny_evalAll_cons (wpAny_bind (ld_blt I1 hg2 hm2 hv2 (wpAny_bind (wpAny_standAt (wpAny_pure (wpAny_evalAll_nil ?_))))))
    obtain ⟨a, ws, rfl, hs, hx, q⟩ := q1
    obtain rfl := Vals.ref1 r1
    obtain ⟨its, rv, hl, hz⟩ := I1.list hs
    rw [List.length_map] at hz
    show wpAny _ _ (call (.builtin "sorted") [.ref a] [(Str.ofString "key", .builtin "len")]) _ _ _
    refine PySem.W.sorted_key_data (R := fun v x => ∃ t, v = Value.str x t) (bs := ws) (b := false) lenD hl.isList (each_strs rv) (AllAlike.of fun _ _ => rfl) (Sortable.others fun b => ⟨(fun z => nomatch z), (fun xs z => nomatch z)⟩) hz (fun x _ => ?_) (PyProof.Rows.ksk_s1 _ _) (fun x => PyProof.Rows.ksk_l1 _ _) (fun x => PyProof.Rows.ksk_t4 "len" x) (fun v x hv hm h tk kk => ?_) (fun out c h' tk keep _ hget hlen ho => ?_)
    · have := hr.un
      show _ + 2 + 0 < _
      omega
    · obtain ⟨t, rfl⟩ := hv
      have := hx x hm
      have hn := L2.line63
      refine PyProof.Rows.len_str (by omega) ?_
      exact ⟨_, _, rfl, fun _ _ z => z, .int _ _⟩
    · have hl2 : ((ordL ws).map V.str).length ≤ sizeLine := by rw [List.length_map, (ordL_perm ws).length_eq]; exact hz
      exact ⟨.ref _, upd H1 (s1.heap.objs.size + 1) (.lst ((ordL ws).map V.str)), I1.laid (t' := tk) keep (Nat.le_succ _) ⟨hl2, out, c, vals_each ho, hget⟩, rfl, q _ (I1.hok.fresh (Nat.le_succ _))⟩
/-! ### the beginnings of a dict's words -/
def trueK (ws : List Str) : List (Key × V) := ws.map fun u => ((Sum.inr u : Key), V.bl true)
theorem putK_true (ws : List Str) (u : Str) : putK (trueK ws) (Sum.inr u) (.bl true) = trueK (if u ∈ ws then ws else ws ++ [u]) := by
  by_cases h : u ∈ ws
  · rw [if_pos h]
    unfold putK
    rw [if_pos]
    · unfold trueK
      rw [List.map_map]
      refine List.map_congr_left fun v _ => ?_
      show (if (Sum.inr v : Key) = Sum.inr u then ((Sum.inr v : Key), V.bl true) else ((Sum.inr v : Key), V.bl true)) = _
      split <;> rfl
    · exact List.any_eq_true.mpr ⟨_, List.mem_map.mpr ⟨u, h, rfl⟩, decide_eq_true rfl⟩
  · rw [if_neg h]
    unfold putK
    rw [if_neg]
    · unfold trueK
      rw [List.map_append]
      rfl
    · intro z
      obtain ⟨kv, h1, h2⟩ := List.any_eq_true.mp z
      obtain ⟨v, hv, rfl⟩ := List.mem_map.mp h1
      have e : v = u := Sum.inr.inj (of_decide_eq_true h2)
      rw [e] at hv
      exact h hv
/-- so far: all beginnings of the words us, and those of w of fewer than a letters -/
structure Pre (us : List Str) (w : Str) (a : Nat) (ws : List Str) : Prop where
  nd : ws.Nodup
  mem : ∀ u, u ∈ ws ↔ (∃ v ∈ us, u.cps.toList <+: v.cps.toList) ∨ ∃ k, k < a ∧ u = ofL (w.cps.toList.take k)
theorem Pre.put {us : List Str} {w : Str} {a : Nat} {ws : List Str} (h : Pre us w a ws) : Pre us w (a + 1) (if ofL (w.cps.toList.take a) ∈ ws then ws else ws ++ [ofL (w.cps.toList.take a)]) := by
  by_cases hm : ofL (w.cps.toList.take a) ∈ ws
  · rw [if_pos hm]
    refine ⟨h.nd, fun u => ⟨fun q => ((h.mem u).mp q).imp id fun ⟨k, h1, h2⟩ => ⟨k, by omega, h2⟩, fun q => ?_⟩⟩
    rcases q with q | ⟨k, h1, h2⟩
    · exact (h.mem u).mpr (.inl q)
    · by_cases e : k = a
      · subst e; rw [h2]; exact hm
      · exact (h.mem u).mpr (.inr ⟨k, by omega, h2⟩)
  · rw [if_neg hm]
    refine ⟨?_, fun u => ⟨fun q => ?_, fun q => ?_⟩⟩
    · rw [List.nodup_append]
      exact ⟨h.nd, by simp, fun a ha b hb e => by rw [List.mem_singleton.mp hb] at e; rw [e] at ha; exact hm ha⟩
    · rcases List.mem_append.mp q with q | q
      · exact ((h.mem u).mp q).imp id fun ⟨k, h1, h2⟩ => ⟨k, by omega, h2⟩
      · exact .inr ⟨a, by omega, List.mem_singleton.mp q⟩
    · rcases q with q | ⟨k, h1, h2⟩
      · exact List.mem_append_left _ ((h.mem u).mpr (.inl q))
      · by_cases e : k = a
        · subst e; rw [h2]; exact List.mem_append_right _ List.mem_cons_self
        · exact List.mem_append_left _ ((h.mem u).mpr (.inr ⟨k, by omega, h2⟩))
theorem take_prefix (l : List Nat) (k : Nat) : l.take k <+: l := List.take_prefix k l
theorem Pre.next {us : List Str} {w : Str} {ws : List Str} (h : Pre us w (w.length + 1) ws) (v : Str) : Pre (us ++ [w]) v 0 ws := by
  refine ⟨h.nd, fun u => ⟨fun q => .inl ?_, fun q => (h.mem u).mpr ?_⟩⟩
  · rcases (h.mem u).mp q with ⟨x, h1, h2⟩ | ⟨k, h1, h2⟩
    · exact ⟨x, List.mem_append_left _ h1, h2⟩
    · exact ⟨w, List.mem_append_right _ List.mem_cons_self, by rw [h2]; exact take_prefix _ _⟩
  · rcases q with ⟨x, h1, h2⟩ | ⟨k, h1, _⟩
    · rcases List.mem_append.mp h1 with h1 | h1
      · exact .inl ⟨x, h1, h2⟩
      · obtain rfl := List.mem_singleton.mp h1
        refine .inr ⟨u.length, ?_, ?_⟩
        · have := h2.length_le
          rw [str_len, str_len] at this
          omega
        · refine str_ext ?_
          rw [toList_ofL, ← str_len u]
          exact (List.prefix_iff_eq_take.mp h2)
    · omega
theorem Pre.other {us : List Str} {w v : Str} {ws : List Str} (h : Pre us w 0 ws) : Pre us v 0 ws :=
  ⟨h.nd, fun u => ⟨fun q => ((h.mem u).mp q).imp id fun ⟨k, h1, _⟩ => absurd h1 (by omega), fun q => (h.mem u).mpr (q.imp id fun ⟨k, h1, _⟩ => absurd h1 (by omega))⟩⟩
theorem put_len (ws : List Str) (u : Str) : (if u ∈ ws then ws else ws ++ [u]).length ≤ ws.length + 1 := by
  by_cases h : u ∈ ws
  · rw [if_pos h]; omega
  · rw [if_neg h, List.length_append, List.length_singleton]; omega
/-- {w[:k]: True for w in s for k in range(len(w) + 1)} -/
theorem dc2_pre {σ : St} {H : Hp} {Q : VK} {d : Addr} {s : Bg} {te0 tk tv : TE} {tA : TA} {j j1 : Nat} {vs vs1 : List Nat} (hd : Rd H d (.dK (toK s))) (hz : ∀ u ∈ keys s, u.length ≤ 1000) (hn : s.length ≤ 1000)
    (he : ∀ (H' : Hp) (Q : VK), LkEx d s H H' → Q (.ref d) H' → te0 σ H' Q) (hw : ∀ x, wipe ((wipe σ vs).set j x) vs = wipe σ vs)
    (h1 : ∀ (w : Str) (H' : Hp) (R : It → Hp → Prop), w.length ≤ 1000 → R (Itr 0 (w.length + 1)) H' → iRng1 tA ((wipe σ vs).set j (some (.str w))) H' R) (hw1 : ∀ (w : Str) x, wipe ((wipe ((wipe σ vs).set j (some (.str w))) vs1).set j1 x) vs1 = wipe ((wipe σ vs).set j (some (.str w))) vs1)
    (hk : ∀ (w : Str) (k : Nat) (H' : Hp) (Q : VK), w.length ≤ 1000 → k ≤ w.length → Q (.str (ofL (w.cps.toList.take k))) H' → tk ((wipe ((wipe σ vs).set j (some (.str w))) vs1).set j1 (some (.int (k : Int)))) H' Q)
    (hv : ∀ (w : Str) (k : Nat) (H' : Hp) (Q : VK), Q (.bl true) H' → tv ((wipe ((wipe σ vs).set j (some (.str w))) vs1).set j1 (some (.int (k : Int)))) H' Q)
    (hend : ∀ D H' ws, H D = none → Ex H H' → H' D = some (.dK (trueK ws)) → ws.Nodup → (∀ u, u ∈ ws ↔ ∃ v ∈ keys s, u.cps.toList <+: v.cps.toList) → ws.length ≤ 1001000 → Q (.ref D) H') : tLockRE (tDc2 (iKeys te0) (gName j) (iRng1 tA) (gName j1) tk tv vs vs1) σ H Q := by
  refine lock_any hd fun Hl od Q' hl l0 hnone hq => ?_
  refine he Hl _ l0 ⟨d, od, rfl, .inl ⟨toK s, hl, fun D hD => ?_⟩⟩
  have hDd : D ≠ d := fun z => by subst z; rw [hl] at hD; cases hD
  refine ⟨fun i m H' => m = s.length - i ∧ i ≤ s.length ∧ Ex Hl H' ∧ ∃ ws, H' D = some (.dK (trueK ws)) ∧ Pre (keys (s.take i)) Str.empty 0 ws ∧ ws.length ≤ i * 1001, ⟨s.length, by simp, Nat.zero_le _, Ex.new hD, [], upd_same, ⟨List.nodup_nil, fun u => ⟨(fun z => nomatch z), fun z => ?_⟩⟩, Nat.zero_le _⟩, ?_⟩
  · rcases z with ⟨v, h1, _⟩ | ⟨k, h1, _⟩
    · cases h1
    · omega
  rintro i m H2 ⟨rfl, hi, e2, ws, hD2, hP, hL⟩
  have hl2 := e2 _ _ hl
  by_cases hlt : i < s.length
  · refine .inr ⟨⟨hl2, by rw [toK_len]; exact hlt⟩, fun H' => Ex Hl H' ∧ ∃ ws, H' D = some (.dK (trueK ws)) ∧ Pre (keys (s.take (i + 1))) Str.empty 0 ws ∧ ws.length ≤ (i + 1) * 1001, fun H' p => ⟨s.length - (i + 1), by omega, rfl, hlt, p.1, p.2⟩, ?_⟩
    rintro x H' ⟨rfl, k, v, hk', rfl⟩
    obtain ⟨w, n, hw', ekv⟩ := toK_get hk'
    cases ekv
    have hmem : w ∈ keys s := mem_keys.mpr ⟨n, List.mem_of_getElem? hw'⟩
    have hwl := hz w hmem
    refine ⟨hw _, ?_⟩
    refine h1 w H' _ hwl ?_
    refine ⟨fun a k H3 => k = w.length + 1 - a ∧ a ≤ w.length + 1 ∧ Ex Hl H3 ∧ ∃ ws, H3 D = some (.dK (trueK ws)) ∧ Pre (keys (s.take i)) w a ws ∧ ws.length ≤ i * 1001 + a, ⟨w.length + 1, by simp, Nat.zero_le _, e2, ws, hD2, hP.other, by omega⟩, ?_⟩
    rintro a b H3 ⟨rfl, ha, e3, ws3, hD3, hP3, hL3⟩
    by_cases hla : a < w.length + 1
    · refine .inr ⟨hla, fun H' => Ex Hl H' ∧ ∃ ws, H' D = some (.dK (trueK ws)) ∧ Pre (keys (s.take i)) w (a + 1) ws ∧ ws.length ≤ i * 1001 + (a + 1), fun H' p => ⟨w.length + 1 - (a + 1), by omega, rfl, hla, p.1, p.2⟩, ?_⟩
      rintro x H4 ⟨rfl, rfl⟩
      rw [Int.zero_add]
      refine ⟨hw1 w _, ?_⟩
      have hbig : (trueK ws3).length < sizeLine := by
        unfold trueK
        rw [List.length_map]
        have : i * 1001 ≤ 1000 * 1001 := Nat.mul_le_mul_right _ (by omega)
        show _ < 2 ^ 24
        omega
      refine hk w a H4 _ hwl (by omega) (hv w a H4 _ ⟨_, Sum.inr (ofL (w.cps.toList.take a)), rfl, hD3, hbig, Ex.mut e3 hD, _, ?_, hP3.put, ?_⟩)
      · rw [upd_same, putK_true]
      · have := put_len ws3 (ofL (w.cps.toList.take a))
        omega
    · have ea : a = w.length + 1 := by omega
      subst ea
      refine .inl ⟨Nat.le_refl _, e3, ws3, hD3, ?_, by rw [Nat.succ_mul]; omega⟩
      have := hP3.next Str.empty
      have e : keys (s.take (i + 1)) = keys (s.take i) ++ [w] := by
        unfold keys
        rw [List.take_add_one, hw', List.map_append]
        rfl
      rw [e]
      exact this
  · have ei : i = s.length := by omega
    subst ei
    rw [List.take_length] at hP
    refine .inl ⟨⟨hl2, by rw [toK_len]; exact Nat.le_refl _⟩, ?_⟩
    refine hq _ H2 (fun D' z => by cases z; exact hnone _ hD) e2 fun H3 e3 hs3 ht => hend D H3 ws (hnone _ hD) e3 (by rw [hs3 D hDd]; exact hD2) hP.nd (fun u => (hP.mem u).trans ⟨fun q => q.elim id fun ⟨k, h1, _⟩ => absurd h1 (by omega), .inl⟩) ?_
    have : s.length * 1001 ≤ 1000 * 1001 := Nat.mul_le_mul_right _ hn
    omega
/-! ### flags of all letters of a dict's words -/
/-- [f(c) for w in s for c in w] -/
theorem lc2_flags {σ : St} {H : Hp} {Q : VK} {d : Addr} {s : Bg} {te0 te1 te : TE} {j j1 : Nat} {vs vs1 : List Nat} (f : Nat → Bool) (hd : Rd H d (.dK (toK s))) (hz : ∀ u ∈ keys s, u.length ≤ 1000) (hn : s.length ≤ 1000)
    (he : ∀ (H' : Hp) (Q : VK), LkEx d s H H' → Q (.ref d) H' → te0 σ H' Q) (hw : ∀ x, wipe ((wipe σ vs).set j x) vs = wipe σ vs)
    (h1 : ∀ (w : Str) (H' : Hp) (R : It → Hp → Prop), R (Its w) H' → iStr te1 ((wipe σ vs).set j (some (.str w))) H' R) (hw1 : ∀ (w : Str) x, wipe ((wipe ((wipe σ vs).set j (some (.str w))) vs1).set j1 x) vs1 = wipe ((wipe σ vs).set j (some (.str w))) vs1)
    (hk : ∀ (w : Str) (c : Nat) (H' : Hp) (Q : VK), Q (.bl (f c)) H' → te ((wipe ((wipe σ vs).set j (some (.str w))) vs1).set j1 (some (.str (chS c)))) H' Q)
    (hend : ∀ D H' (bs : List Bool), H D = none → Ex H H' → H' D = some (.lst (bs.map V.bl)) → bs = (keys s).flatMap (fun w => w.cps.toList.map f) → Q (.ref D) H') : tLockRE (tLc2 (iKeys te0) (gName j) tYes (iStr te1) (gName j1) tYes te vs vs1) σ H Q := by
  refine lock_any hd fun Hl od Q' hl l0 hnone hq => ?_
  refine he Hl _ l0 ⟨d, od, rfl, .inl ⟨toK s, hl, fun D hD => ?_⟩⟩
  have hDd : D ≠ d := fun z => by subst z; rw [hl] at hD; cases hD
  refine ⟨fun i m H' => m = s.length - i ∧ i ≤ s.length ∧ Ex Hl H' ∧ ∃ bs : List Bool, H' D = some (.lst (bs.map V.bl)) ∧ bs = (keys (s.take i)).flatMap (fun w => w.cps.toList.map f) ∧ bs.length ≤ i * 1000, ⟨s.length, by simp, Nat.zero_le _, Ex.new hD, [], upd_same, rfl, Nat.zero_le _⟩, ?_⟩
  rintro i m H2 ⟨rfl, hi, e2, bs, hD2, hP, hL⟩
  have hl2 := e2 _ _ hl
  by_cases hlt : i < s.length
  · refine .inr ⟨⟨hl2, by rw [toK_len]; exact hlt⟩, fun H' => Ex Hl H' ∧ ∃ bs : List Bool, H' D = some (.lst (bs.map V.bl)) ∧ bs = (keys (s.take (i + 1))).flatMap (fun w => w.cps.toList.map f) ∧ bs.length ≤ (i + 1) * 1000, fun H' p => ⟨s.length - (i + 1), by omega, rfl, hlt, p.1, p.2⟩, ?_⟩
    rintro x H' ⟨rfl, k, v, hk', rfl⟩
    obtain ⟨w, n, hw', ekv⟩ := toK_get hk'
    cases ekv
    have hmem : w ∈ keys s := mem_keys.mpr ⟨n, List.mem_of_getElem? hw'⟩
    have hwl := hz w hmem
    refine ⟨hw _, ?_⟩
    unfold tYes
    dsimp only
    rw [if_pos rfl]
    refine h1 w H' _ ?_
    refine ⟨fun a k H3 => k = w.cps.size - a ∧ a ≤ w.cps.size ∧ Ex Hl H3 ∧ ∃ bs : List Bool, H3 D = some (.lst (bs.map V.bl)) ∧ bs = (keys (s.take i)).flatMap (fun w => w.cps.toList.map f) ++ (w.cps.toList.take a).map f ∧ bs.length ≤ i * 1000 + a, ⟨w.cps.size, by simp, Nat.zero_le _, e2, bs, hD2, by rw [hP]; simp, by omega⟩, ?_⟩
    rintro a b H3 ⟨rfl, ha, e3, bs3, hD3, hP3, hL3⟩
    by_cases hla : a < w.cps.size
    · refine .inr ⟨hla, fun H' => Ex Hl H' ∧ ∃ bs : List Bool, H' D = some (.lst (bs.map V.bl)) ∧ bs = (keys (s.take i)).flatMap (fun w => w.cps.toList.map f) ++ (w.cps.toList.take (a + 1)).map f ∧ bs.length ≤ i * 1000 + (a + 1), fun H' p => ⟨w.cps.size - (a + 1), by omega, rfl, hla, p.1, p.2⟩, ?_⟩
      rintro x H4 ⟨rfl, c, hc, rfl⟩
      refine ⟨hw1 w _, ?_⟩
      dsimp only
      rw [if_pos rfl]
      have hwl' : w.cps.size ≤ 1000 := hwl
      refine hk w c H4 _ ⟨_, hD3, ?_, Ex.mut e3 hD, bs3 ++ [f c], by rw [upd_same, List.map_append]; rfl, ?_, by rw [List.length_append, List.length_singleton]; omega⟩
      · rw [List.length_map]
        have : i * 1000 ≤ 1000 * 1000 := Nat.mul_le_mul_right _ (by omega)
        show _ < 2 ^ 24
        omega
      · have hc' : w.cps.toList[a]? = some c := by rw [Array.getElem?_toList]; exact hc
        rw [hP3, List.take_add_one, hc', List.map_append, List.append_assoc]
        rfl
    · have ea : a = w.cps.size := by omega
      subst ea
      refine .inl ⟨Nat.le_refl _, e3, bs3, hD3, ?_, ?_⟩
      · have e : keys (s.take (i + 1)) = keys (s.take i) ++ [w] := by
          unfold keys
          rw [List.take_add_one, hw', List.map_append]
          rfl
        have e2' : w.cps.toList.take w.cps.size = w.cps.toList := by
          have : w.cps.size = w.cps.toList.length := Array.length_toList.symm
          rw [this, List.take_length]
        rw [hP3, e, List.flatMap_append, e2']
        simp
      · have hwl' : w.cps.size ≤ 1000 := hwl
        rw [Nat.succ_mul]
        omega
  · have ei : i = s.length := by omega
    subst ei
    rw [List.take_length] at hP
    refine .inl ⟨⟨hl2, by rw [toK_len]; exact Nat.le_refl _⟩, ?_⟩
    exact hq _ H2 (fun D' z => by cases z; exact hnone _ hD) e2 fun H3 e3 hs3 ht => hend D H3 bs (hnone _ hD) e3 (by rw [hs3 D hDd]; exact hD2) hP
end Fp

namespace Fp
open PySem L2
section
variable {P : Program} {w : World} {K : PySem.W.Frag} {mg : Str → Option Value} {base : Heap} {C_Bag : Addr} {Cs : Addr → Prop}
local macro_rules | `(tactic| walk_at "hp") => `(tactic| first | assumption | rfl)
local macro_rules | `(tactic| walk_at "cond") => `(tactic| first | assumption | decide | omega | (unfold CMul; omega) | (refine ⟨?_, ?_⟩ <;> omega) | (unfold CDiv; omega) | (unfold CPow; omega))
local macro_rules | `(tactic| walk_at "g1") => `(tactic| first
  | with_reducible first
    | refine g_seq ?_ | refine g_asg ?_ | refine g_name ?_ | refine g_ret ?_ | refine g_retN ?_ | refine g_drop ?_ | refine g_ifs ?_
    | refine g_c ?_ | refine g_op ?_ | refine g_un ?_ | refine g_I0 ?_ | refine g_U ?_
    | refine g_test ?_ | refine g_tB ?_ | refine g_bl ?_ | refine g_and ?_ | refine g_or ?_ | refine g_not ?_
    | refine g_andV ?_ | refine g_orV ?_ | refine g_notV ?_ | refine g_if ?_ | refine g_nil ?_ | refine g_cons ?_ | refine g_cb ?_ | refine g_call ?_
    | refine g_lst ?_ | refine g_tup ?_ | refine g_itT ?_ | refine g_itF ?_ | refine g_itNT ?_ | refine g_itNF ?_ | refine g_lc ?_ | refine g_iStr ?_ | refine g_yes ?_ | refine g_exs ?_
    | refine g_chain ?_ | refine g_dget ?_ | refine g_dput ?_ | refine g_dget2 ?_ | refine g_dpop2 ?_ | refine g_fld ?_ | refine g_sfld ?_ | refine g_make ?_ | refine g_meth ?_
    | refine g_bm ?_ | refine g_kw ?_ | refine g_callS ?_ | refine g_revL ?_ | refine g_m1 ?_ | refine g_gsub ?_ | refine g_for ?_ | refine g_iList ?_ | refine g_iTup ?_ | refine g_iRng1 ?_ | refine g_iRng2 ?_ | refine g_sl ?_ | refine g_part ?_ | refine g_noPart ?_
    | refine g_exi ?_ | refine g_exr ?_ | refine g_dnew ?_ | refine g_disp ?_ | refine g_prs0 ?_ | refine g_prs ?_ | refine g_nxt ?_
  | ((with_reducible refine g_var (v := ?vv) ?gv ?_); (case gv => exact rfl))
  | ((with_reducible refine g_I ?gc ?_); (case gc => walk_at "cond"))
  | ((with_reducible refine g_eq ?ge ?_); (case ge => exact rfl))
  | ((with_reducible refine g_ne ?ge ?_); (case ge => exact rfl))
  | (refine g_ixl (SqL.of (by first | assumption | exact upd_same)) rfl ?_)
  | (refine g_setl (by first | assumption | exact upd_same) rfl ?_)
  | ((with_reducible show (∃ i, [V.int _] = [V.int i] ∧ _) ∨ _); refine Or.inl ⟨_, rfl, ?_⟩)
  | ((with_reducible show ∃ i, [V.int _] = [V.int i] ∧ _); refine ⟨_, rfl, ?_⟩)
  | dsimp only)
local macro_rules | `(tactic| walk_at "go") => `(tactic| repeat (walk_at "g1"))

/-! ### the law's tape -/
structure TapeAt (H : Hp) (h c : Addr) : Prop where
  ex : ∃ (i b m : Int), H h = some (.lst [.ref c, .int i, .int b, .int m]) ∧ 0 ≤ i
  cs : ∃ cs : List Int, H c = some (.lst (cs.map V.int))
  ne : c ≠ h
theorem TapeAt.ex' {H H' : Hp} {h c : Addr} (e : Ex H H') (x : TapeAt H h c) : TapeAt H' h c := by
  obtain ⟨⟨i, b, m, h1, h2⟩, ⟨cs, h3⟩, h4⟩ := x
  exact ⟨⟨i, b, m, e _ _ h1, h2⟩, ⟨cs, e _ _ h3⟩, h4⟩
theorem TapeAt.kind {H : Hp} {h c : Addr} (x : TapeAt H h c) : ∃ xs, H h = some (.lst xs) := by
  obtain ⟨⟨i, b, m, h1, h2⟩, _⟩ := x
  exact ⟨_, h1⟩
theorem TapeAt.upd {H : Hp} {h c d : Addr} {o : HO} (x : TapeAt H h c) (hd : d ≠ h) (hc : d ≠ c) : TapeAt (upd H d o) h c := by
  obtain ⟨⟨i, b, m, h1, h2⟩, ⟨cs, h3⟩, h4⟩ := x
  exact ⟨⟨i, b, m, by rw [upd_ne (Ne.symm hd)]; exact h1, h2⟩, ⟨cs, by rw [upd_ne (Ne.symm hc)]; exact h3⟩, h4⟩
theorem TapeAt.exb {H H' : Hp} {h c f : Addr} (e : ExB f H H') (x : TapeAt H h c) (hf : f ≠ h) (hc : f ≠ c) : TapeAt H' h c := by
  obtain ⟨⟨i, b, m, h1, h2⟩, ⟨cs, h3⟩, h4⟩ := x
  exact ⟨⟨i, b, m, e _ _ (Ne.symm hf) h1, h2⟩, ⟨cs, e _ _ (Ne.symm hc) h3⟩, h4⟩
theorem TapeAt.new {H : Hp} {h c p : Addr} (x : TapeAt H h c) (hp : H p = none) : p ≠ h ∧ p ≠ c := by
  obtain ⟨⟨i, b, m, h1, h2⟩, ⟨cs, h3⟩, h4⟩ := x
  exact ⟨Ne.symm (ne_of_none h1 hp), Ne.symm (ne_of_none h3 hp)⟩
def sp_tp_tape (K : PySem.W.Frag) : Sp := fun vs H Q _ => ∃ (a : Addr) (ns : List Int), vs = [.ref a] ∧ SqL K H a (ns.map V.int) ∧ ∀ h c H', Ex H H' → H h = none → TapeAt H' h c → Q (.ref h) H'
def sp_tp_draw : Sp := fun vs H Q _ => ∃ (h c : Addr) (m : Int), vs = [.ref h, .int m] ∧ TapeAt H h c ∧ 0 < m ∧ m ≤ 1000000 ∧ ∀ v H', 0 ≤ v → v < m → ExB h H H' → TapeAt H' h c → Q (.int v) H'
theorem ok_law_tape {f : Addr} {fd : FuncData} (F : Fun K "_law_tape" "_law_tape" s_law_tape f fd) (T : Txt K mg C_Bag Cs) : FnOk P w K mg base CX0 1 f fd ["_law_script"] (sp_tp_tape K) := by
  refine F.ok sc_law_tape (fun vs H Q E h => ?_) (fun cdv A outer s H vs Q E hr h => ?_)
  · obtain ⟨a, ns, rfl, _⟩ := h
    rfl
  · obtain ⟨a, ns, rfl, hs, k⟩ := h
    have hu := hu_of hr; have hu64 := L2.Room.units hr; refine ⟨_, (pss_one (ps_ret (pe_lst (pa_cons (pe_callTy call_list_of (by rfl) T.b_list (by decide +kernel) (pa_cons (pv 0) pa_nil)) (pa_cons pe_int (pa_cons pe_int (pa_cons pe_int pa_nil))))))), ?_⟩; rw [st_law_tape]; (try dsimp only [cxOf]); walk_at "go"
    refine ⟨a, _, rfl, .inl hs, fun q hq => ?_⟩
    walk_at "go"
    refine ⟨Nat.le_of_ble_eq_true rfl, fun p hp => ?_⟩
    have hqp : q ≠ p := ne_of_none upd_same hp
    exact k p q _ ((Ex.new hq).trans (Ex.new hp)) ((Ex.new hq).free hp) ⟨⟨0, 0, 11, upd_same, Int.le_refl _⟩, ⟨ns, by rw [upd_ne hqp]; exact upd_same⟩, hqp⟩
theorem ok_law_draw {f : Addr} {fd : FuncData} (F : Fun K "_law_draw" "_law_draw" s_law_draw f fd) (T : Txt K mg C_Bag Cs) : FnOk P w K mg base CX0 1 f fd ["_law_tape_here", "_law_many"] sp_tp_draw := by
  refine F.ok sc_law_draw (fun vs H Q E h => ?_) (fun cdv A outer s H vs Q E hr h => ?_)
  · obtain ⟨a, c, m, rfl, _⟩ := h
    rfl
  · obtain ⟨h, c, m, rfl, hh, hm0, hm1, k⟩ := h
    obtain ⟨⟨i, b, mm, h1, h4⟩, ⟨cs, h2⟩, h3⟩ := hh
    have hu := hu_of hr; have hu64 := L2.Room.units hr; refine ⟨_, (pss_cons (ps_if (PW.pt (pw_and (pt_cmpR op_eq (pe_ix (r := rIxL K) ix_list (pv 0) pe_int (fun _ _ => rfl)) pe_int (nomark _)) (pw_and1 (pt_cmpR op_lt (pe_ix (r := rIxL K) ix_list (pv 0) pe_int (fun _ _ => rfl)) (pe_callB call_len_seq (by rfl) T.b_len (by decide +kernel) (pa_cons (pe_ix (r := rIxL K) ix_list (pv 0) pe_int (fun _ _ => rfl)) pa_nil)) (nomark _))))) (pss_cons (ps_set (i := 2) sc_law_draw.nd rfl (by first | exact Or.inl rfl | exact Or.inr rfl) (pe_ix (r := rIxL K) ix_list (pe_ix (r := rIxL K) ix_list (pv 0) pe_int (fun _ _ => rfl)) (pe_ix (r := rIxL K) ix_list (pv 0) pe_int (fun _ _ => rfl)) (fun _ _ => rfl))) (pss_cons (ps_asg (pe_op op_add (pe_ix (r := rIxL K) ix_list (pv 0) pe_int (fun _ _ => rfl)) pe_int) (pg_sub (pv 0) pe_int set_list)) (pss_cons (ps_if (pt_cmpR op_ge (pv 2) (pe_op op_pow pe_int pe_int) (nomark _)) (pss_one (ps_asg (pv 2) (pg_sub (pv 0) pe_int set_list))) pss_nil) (pss_one (ps_asg (pe_op op_mod (pe_callTy call_int1 (by rfl) T.b_int (by decide +kernel) (pa_cons (pe_op op_add (pe_op op_mul (pe_ix (r := rIxL K) ix_list (pv 0) pe_int (fun _ _ => rfl)) pe_int) (pe_op op_mod (pe_callTy call_int1 (by rfl) T.b_int (by decide +kernel) (pa_cons (pv 2) pa_nil)) pe_int)) pa_nil)) pe_int) (pg_sub (pv 0) pe_int set_list)))))) pss_nil) (pss_cons (ps_if (pt_cmpR op_gt (pe_ix (r := rIxL K) ix_list (pv 0) pe_int (fun _ _ => rfl)) pe_int (nomark _)) (pss_cons (ps_set (i := 3) sc_law_draw.nd rfl (by first | exact Or.inl rfl | exact Or.inr rfl) (pe_op op_mod (pe_callTy call_int1 (by rfl) T.b_int (by decide +kernel) (pa_cons (pe_ix (r := rIxL K) ix_list (pv 0) pe_int (fun _ _ => rfl)) pa_nil)) (pv 1))) (pss_cons (ps_asg (pe_op op_fdiv (pe_ix (r := rIxL K) ix_list (pv 0) pe_int (fun _ _ => rfl)) (pv 1)) (pg_sub (pv 0) pe_int set_list)) (pss_one (ps_ret (pv 3))))) pss_nil) (pss_cons (ps_asg (pe_op op_mod (pe_callTy call_int1 (by rfl) T.b_int (by decide +kernel) (pa_cons (pe_op op_add (pe_op op_mul (pe_ix (r := rIxL K) ix_list (pv 0) pe_int (fun _ _ => rfl)) pe_int) pe_int) pa_nil)) pe_int) (pg_sub (pv 0) pe_int set_list)) (pss_cons (ps_set (i := 4) sc_law_draw.nd rfl (by first | exact Or.inl rfl | exact Or.inr rfl) (pe_op op_mod (pe_callTy call_int1 (by rfl) T.b_int (by decide +kernel) (pa_cons (pe_op op_mul (pe_ix (r := rIxL K) ix_list (pv 0) pe_int (fun _ _ => rfl)) (pe_op op_add (pe_op op_fdiv (pe_ix (r := rIxL K) ix_list (pv 0) pe_int (fun _ _ => rfl)) pe_int) pe_int)) pa_nil)) pe_int)) (pss_one (ps_ret (pe_op op_mod (pe_callTy call_int1 (by rfl) T.b_int (by decide +kernel) (pa_cons (pe_op op_fdiv (pv 4) pe_int) pa_nil)) (pv 1)))))))), ?_⟩; rw [st_law_draw]; (try dsimp only [cxOf])
    refine g_cut (R := fun σ' H' => ∃ x i b mm, σ' = [some (.ref h), some (.int m), x, none, none] ∧ H' h = some (.lst [.ref c, .int i, .int b, .int mm]) ∧ H' c = some (.lst (cs.map V.int)) ∧ 0 ≤ i ∧ ExB h H H') (fun N hN => ?_) ?_
    · walk_at "go"
      have hsame : N [some (.ref h), some (.int m), none, none, none] H := hN _ _ ⟨none, i, b, mm, rfl, h1, h2, h4, ExB.refl _ _⟩
      by_cases hb : V.int b = V.int 0
      · rw [decide_eq_true hb]
        walk_at "go"
        refine ⟨c, cs.map V.int, rfl, .inl (SqL.of h2), ?_⟩
        walk_at "go"
        by_cases hi : i < ((cs.map V.int).length : Int)
        · rw [decide_eq_true hi]
          walk_at "go"
          have hi' : i.toNat < cs.length := by rw [List.length_map] at hi; omega
          refine g_ixl (SqL.of h2) (atI_get h4 (by rw [List.getElem?_map, List.getElem?_eq_getElem hi']; rfl)) ?_
          walk_at "go"
          refine g_ite (fun _ => ?_) fun _ => ?_
          · walk_at "go"
            refine hN _ _ ⟨some (.int cs[i.toNat]), i + 1, _, _, rfl, upd_same, ?_, by omega, ((ExB.refl h H).upd).upd.upd⟩
            rw [upd_ne h3, upd_ne h3, upd_ne h3]
            exact h2
          · walk_at "go"
            refine hN _ _ ⟨some (.int cs[i.toNat]), i + 1, b, _, rfl, upd_same, ?_, by omega, ((ExB.refl h H).upd).upd⟩
            rw [upd_ne h3, upd_ne h3]
            exact h2
        · rw [decide_eq_false hi]
          walk_at "go"
          exact hsame
      · rw [decide_eq_false hb]
        walk_at "go"
        exact hsame
    · rintro σ' H' ⟨x, i, b, mm, rfl, h1, h2, h4, e⟩
      walk_at "go"
      by_cases hb : 0 < b
      · rw [decide_eq_true hb]
        walk_at "go"
        exact k _ _ (Int.emod_nonneg _ (by omega)) (Int.emod_lt_of_pos _ hm0) e.upd ⟨⟨i, _, mm, upd_same, h4⟩, ⟨cs, by rw [upd_ne h3]; exact h2⟩, h3⟩
      · rw [decide_eq_false hb]
        walk_at "go"
        exact k _ _ (Int.emod_nonneg _ (by omega)) (Int.emod_lt_of_pos _ hm0) e.upd ⟨⟨i, b, _, upd_same, h4⟩, ⟨cs, by rw [upd_ne h3]; exact h2⟩, h3⟩

end
end Fp

/-! Sums of dicts of words in which a 0 stays to the end. -/
namespace Fp
open PySem L2
def rawP (p : Int) (s : Bg) (w : Str) (n : Int) : Bg := putS s w ((cf s w + n) % p)
def nzS (s : Bg) : Bg := s.filter fun kv => decide (kv.2 ≠ 0)
structure RawG (p : Int) (s : Bg) : Prop where
  nd : (keys s).Nodup
  lo : ∀ kv ∈ s, 0 ≤ kv.2
  hi : ∀ kv ∈ s, kv.2 < p
theorem Good.raw {p : Int} {s : Bg} (g : Good p s) : RawG p s := ⟨g.nd, fun kv h => by have := g.lo kv h; omega, g.hi⟩
theorem RawG.put {p n : Int} {s : Bg} {w : Str} (hp : 0 < p) (g : RawG p s) : RawG p (rawP p s w n) :=
  ⟨nodup_put g.nd, fun kv h => (mem_put h).elim (g.lo kv) fun e => by rw [e]; exact Int.emod_nonneg _ (by omega), fun kv h => (mem_put h).elim (g.hi kv) fun e => by rw [e]; exact Int.emod_lt_of_pos _ hp⟩
theorem keys_nz {s : Bg} {u : Str} (h : u ∈ keys (nzS s)) : u ∈ keys s := by
  obtain ⟨n, hn⟩ := mem_keys.mp h
  exact mem_keys.mpr ⟨n, (List.mem_filter.mp hn).1⟩
theorem nz_nodup {s : Bg} (h : (keys s).Nodup) : (keys (nzS s)).Nodup := by
  unfold keys nzS
  exact List.Sublist.nodup (List.Sublist.map _ List.filter_sublist) h
theorem RawG.good {p : Int} {s : Bg} (g : RawG p s) : Good p (nzS s) :=
  ⟨nz_nodup g.nd, fun kv h => by
    obtain ⟨h1, h2⟩ := List.mem_filter.mp h
    have := g.lo kv h1
    have := of_decide_eq_true h2
    omega, fun kv h => g.hi kv ((List.mem_filter.mp h).1)⟩
theorem cf_nz {s : Bg} (h : (keys s).Nodup) (u : Str) : cf (nzS s) u = cf s u := by
  by_cases hu : u ∈ keys (nzS s)
  · obtain ⟨n, hn⟩ := mem_keys.mp hu
    rw [cf_of_mem (nz_nodup h) hn, cf_of_mem h ((List.mem_filter.mp hn).1)]
  · rw [cf_not_mem hu]
    by_cases hs : u ∈ keys s
    · obtain ⟨n, hn⟩ := mem_keys.mp hs
      rw [cf_of_mem h hn]
      by_cases h0 : n = 0
      · exact h0.symm
      · exact absurd (mem_keys.mpr ⟨n, List.mem_filter.mpr ⟨hn, decide_eq_true h0⟩⟩) hu
    · rw [cf_not_mem hs]
theorem cf_rawP (p : Int) (s : Bg) (w u : Str) (n : Int) : cf (rawP p s w n) u = if u = w then (cf s w + n) % p else cf s u := cf_put s w u _
theorem raw_fold {p : Int} {α : Type} (k : α → Str) (v : α → Int) : ∀ (l : List α) (s s' : Bg), (∀ u, cf s u = cf s' u) → ∀ u, cf (l.foldl (fun acc a => rawP p acc (k a) (v a)) s) u = cf (l.foldl (fun acc a => addTo p acc (k a) (v a)) s') u
  | [], s, s', h, u => h u
  | a :: l, s, s', h, u => raw_fold k v l _ _ (fun x => by rw [cf_rawP, cf_addTo, h, h]) u
def plusR (p : Int) (s t : Bg) (f : Int) : Bg := t.foldl (fun acc kv => rawP p acc kv.1 (f * kv.2)) s
def rowR (p : Int) (acc : Bg) (a : Str × Int) (t : Bg) : Bg := t.foldl (fun acc b => rawP p acc (a.1 ++ b.1) (a.2 * b.2)) acc
def prodR (p : Int) (s t : Bg) : Bg := s.foldl (fun acc a => rowR p acc a t) []
theorem fold_rawG {p : Int} {α : Type} (hp : 0 < p) (k : α → Str) (v : α → Int) : ∀ (l : List α) (s : Bg), RawG p s → RawG p (l.foldl (fun acc a => rawP p acc (k a) (v a)) s)
  | [], s, h => h
  | a :: l, s, h => fold_rawG hp k v l _ (h.put hp)
theorem plusR_raw {p f : Int} {s t : Bg} (hp : 0 < p) (g : RawG p s) : RawG p (plusR p s t f) := fold_rawG hp _ _ t s g
theorem rowR_raw {p : Int} {s t : Bg} {a : Str × Int} (hp : 0 < p) (g : RawG p s) : RawG p (rowR p s a t) := fold_rawG hp _ _ t s g
theorem prodR_raw {p : Int} {s t : Bg} (hp : 0 < p) : RawG p (prodR p s t) := by
  have key : ∀ (l acc : Bg), RawG p acc → RawG p (l.foldl (fun acc a => rowR p acc a t) acc) := by
    intro l
    induction l with
    | nil => intro acc h; exact h
    | cons a l ih => intro acc h; exact ih _ (rowR_raw hp h)
  exact key s [] Good.nil.raw
theorem cf_plusR {p f : Int} {s t : Bg} (u : Str) : cf (plusR p s t f) u = cf (plusS p s t f) u := raw_fold _ _ t s s (fun _ => rfl) u
theorem cf_prodR {p : Int} {s t : Bg} (u : Str) : cf (prodR p s t) u = cf (prodS p s t) u := by
  have key : ∀ (l acc acc' : Bg), (∀ u, cf acc u = cf acc' u) → ∀ u, cf (l.foldl (fun acc a => rowR p acc a t) acc) u = cf (l.foldl (fun acc a => prodRow p acc a t) acc') u := by
    intro l
    induction l with
    | nil => intro acc acc' h u; exact h u
    | cons a l ih => intro acc acc' h u; exact ih _ _ (fun x => raw_fold _ _ t acc acc' h x) u
  exact key s [] [] (fun _ => rfl) u
theorem len_rawP (p : Int) (s : Bg) (w : Str) (n : Int) : (rawP p s w n).length ≤ s.length + 1 := len_put _ _ _
theorem len_foldR {p : Int} {α : Type} (k : α → Str) (v : α → Int) : ∀ (l : List α) (s : Bg), (l.foldl (fun acc a => rawP p acc (k a) (v a)) s).length ≤ s.length + l.length
  | [], s => Nat.le_refl _
  | a :: l, s => by
    have h1 := len_foldR (p := p) k v l (rawP p s (k a) (v a))
    have h2 := len_rawP p s (k a) (v a)
    rw [List.foldl_cons, List.length_cons]
    omega
theorem len_plusR {p f : Int} {s t : Bg} : (plusR p s t f).length ≤ s.length + t.length := len_foldR _ _ t s
theorem len_rowR {p : Int} {s t : Bg} {a : Str × Int} : (rowR p s a t).length ≤ s.length + t.length := len_foldR _ _ t s
theorem len_prodR {p : Int} {s t : Bg} : (prodR p s t).length ≤ s.length * t.length := by
  have key : ∀ (l acc : Bg), (l.foldl (fun acc a => rowR p acc a t) acc).length ≤ acc.length + l.length * t.length := by
    intro l
    induction l with
    | nil => intro acc; simp
    | cons a l ih =>
      intro acc
      have h1 := ih (rowR p acc a t)
      have h2 := len_rowR (p := p) (s := acc) (t := t) (a := a)
      rw [List.foldl_cons, List.length_cons, Nat.succ_mul]
      omega
  have h := key s []
  rw [List.length_nil, Nat.zero_add] at h
  exact h
/-- what two good dicts with the same numbers have alike -/
theorem same_keys {p : Int} {s t : Bg} (gs : Good p s) (gt : Good p t) (h : ∀ u, cf s u = cf t u) (u : Str) : u ∈ keys s ↔ u ∈ keys t := by rw [cf_ne gs, cf_ne gt, h]
theorem same_len {p : Int} {s t : Bg} (gs : Good p s) (gt : Good p t) (h : ∀ u, cf s u = cf t u) : s.length = t.length := by
  have := (keys_perm gs gt h).length_eq
  unfold keys at this
  rwa [List.length_map, List.length_map] at this
end Fp

namespace Fp
open PySem L2
section
variable {P : Program} {w : World} {K : PySem.W.Frag} {mg : Str → Option Value} {base : Heap} {C_Bag : Addr} {Cs : Addr → Prop}
local macro_rules | `(tactic| walk_at "hp") => `(tactic| first | assumption | rfl)
local macro_rules | `(tactic| walk_at "cond") => `(tactic| first | assumption | decide | omega | (unfold CMul; omega) | (refine ⟨?_, ?_⟩ <;> omega) | (unfold CDiv; omega) | (unfold CPow; omega))
local macro_rules | `(tactic| walk_at "g1") => `(tactic| first
  | with_reducible first
    | refine g_seq ?_ | refine g_asg ?_ | refine g_name ?_ | refine g_ret ?_ | refine g_retN ?_ | refine g_drop ?_ | refine g_ifs ?_
    | refine g_c ?_ | refine g_op ?_ | refine g_un ?_ | refine g_I0 ?_ | refine g_U ?_
    | refine g_test ?_ | refine g_tB ?_ | refine g_bl ?_ | refine g_and ?_ | refine g_or ?_ | refine g_not ?_
    | refine g_andV ?_ | refine g_orV ?_ | refine g_notV ?_ | refine g_if ?_ | refine g_nil ?_ | refine g_cons ?_ | refine g_cb ?_ | refine g_call ?_
    | refine g_lst ?_ | refine g_tup ?_ | refine g_itT ?_ | refine g_itF ?_ | refine g_itNT ?_ | refine g_itNF ?_ | refine g_lc ?_ | refine g_iStr ?_ | refine g_yes ?_ | refine g_exs ?_
    | refine g_chain ?_ | refine g_dget ?_ | refine g_dput ?_ | refine g_dget2 ?_ | refine g_dpop2 ?_ | refine g_fld ?_ | refine g_sfld ?_ | refine g_make ?_ | refine g_meth ?_
    | refine g_bm ?_ | refine g_kw ?_ | refine g_callS ?_ | refine g_revL ?_ | refine g_m1 ?_ | refine g_gsub ?_ | refine g_for ?_ | refine g_iList ?_ | refine g_iTup ?_ | refine g_iRng1 ?_ | refine g_iRng2 ?_ | refine g_sl ?_ | refine g_part ?_ | refine g_noPart ?_
    | refine g_exi ?_ | refine g_exr ?_ | refine g_dnew ?_ | refine g_disp ?_ | refine g_prs0 ?_ | refine g_prs ?_ | refine g_nxt ?_
  | ((with_reducible refine g_var (v := ?vv) ?gv ?_); (case gv => exact rfl))
  | ((with_reducible refine g_I ?gc ?_); (case gc => walk_at "cond"))
  | ((with_reducible refine g_eq ?ge ?_); (case ge => exact rfl))
  | ((with_reducible refine g_ne ?ge ?_); (case ge => exact rfl))
  | (refine g_ixl (SqL.of (by first | assumption | exact upd_same)) rfl ?_)
  | (refine g_setl (by first | assumption | exact upd_same) rfl ?_)
  | ((with_reducible show (∃ i, [V.int _] = [V.int i] ∧ _) ∨ _); refine Or.inl ⟨_, rfl, ?_⟩)
  | ((with_reducible show ∃ i, [V.int _] = [V.int i] ∧ _); refine ⟨_, rfl, ?_⟩)
  | dsimp only)
local macro_rules | `(tactic| walk_at "go") => `(tactic| repeat (walk_at "g1"))

/-! ### the tape's clock, words and dicts -/
def OverS (z u : Str) : Prop := OverL z.cps.toList u.cps.toList
theorem OverS.isW {z u : Str} (hz : isW z = true) (h : OverS z u) : isW u = true := by
  unfold Fp.isW at *
  exact List.all_eq_true.mpr fun c hc => List.all_eq_true.mp hz c (h c hc)
theorem join_over {z : Str} : ∀ ys : List Str, (∀ y ∈ ys, OverS z y) → OverS z (Str.join ("" : Str) ys)
  | [], _ => fun c hc => nomatch hc
  | [x], h => h x List.mem_cons_self
  | x :: y :: r, h => by
    have ih := join_over (y :: r) fun u hu => h u (List.mem_cons_of_mem _ hu)
    show OverS z (x ++ ("" : Str) ++ Str.join ("" : Str) (y :: r))
    intro c hc
    rw [app_toList, app_toList] at hc
    rcases List.mem_append.mp hc with hc | hc
    · rcases List.mem_append.mp hc with hc | hc
      · exact h x List.mem_cons_self c hc
      · cases hc
    · exact ih c hc
/-- a good dict of words over an alphabet -/
structure LotZ (p : Int) (z : Str) (s : Bg) (a b : Nat) : Prop where
  l : Lot p s a b
  o : ∀ u ∈ keys s, OverS z u
theorem LotZ.mono {p : Int} {z : Str} {s : Bg} {a b a' b' : Nat} (l : LotZ p z s a b) (h1 : a ≤ a') (h2 : b ≤ b') : LotZ p z s a' b' := ⟨l.l.mono h1 h2, l.o⟩
theorem LotZ.nil {p : Int} {z : Str} {a b : Nat} : LotZ p z [] a b := ⟨Lot.nil, fun _ h => nomatch h⟩
theorem LotZ.put {p : Int} {z : Str} {s : Bg} {u : Str} {n : Int} {a b : Nat} (hz : isW z = true) (l : LotZ p z s a b) (h0 : 0 < n) (h1 : n < p) (hu : u.length ≤ b) (ho : OverS z u) : LotZ p z (putS s u n) (a + 1) b :=
  ⟨l.l.put h0 h1 hu (ho.isW hz), fun x hx => by
    rw [keys_put] at hx
    split at hx
    · exact l.o x hx
    · rcases List.mem_append.mp hx with h | h
      · exact l.o x h
      · rw [List.mem_singleton.mp h]; exact ho⟩
def sp_tp_clock : Sp := fun vs H Q _ => ∃ (h c : Addr), vs = [.ref h] ∧ TapeAt H h c ∧ ∀ p H', (p = 2 ∨ p = 3 ∨ p = 5 ∨ p = 7) → ExB h H H' → TapeAt H' h c → Q (.int p) H'
def sp_tp_word : Sp := fun vs H Q _ => ∃ (h c : Addr) (z : Str) (m : Int), vs = [.ref h, .str z, .int m] ∧ TapeAt H h c ∧ 0 < z.length ∧ z.length ≤ 100 ∧ 0 ≤ m ∧ m ≤ 1000 ∧
  ∀ u H', (u.length : Int) ≤ m → OverS z u → ExB h H H' → TapeAt H' h c → Q (.str u) H'
def sp_tp_some : Sp := fun vs H Q _ => ∃ (h c : Addr) (p : Int) (z : Str) (m n : Nat), vs = [.ref h, .int p, .str z, .int m, .int n] ∧ TapeAt H h c ∧ 2 ≤ p ∧ p ≤ 1000 ∧ 0 < z.length ∧ z.length ≤ 100 ∧ isW z = true ∧ m ≤ 999 ∧ n ≤ 999 ∧
  ∀ d s H', ExB h H H' → H d = none → H' d = some (.dK (toK s)) → LotZ p z s n m → TapeAt H' h c → Q (.ref d) H'
theorem ok_law_clock {f : Addr} {fd : FuncData} (F : Fun K "_law_clock" "_law_clock" s_law_clock f fd) (T : Txt K mg C_Bag Cs) (D_law_draw : DefOk P w K mg base CX0 1 "_law_draw" ["_law_tape_here", "_law_many"] sp_tp_draw) : FnOk P w K mg base CX0 2 f fd ["_law_tape_here"] sp_tp_clock := by
  refine F.ok sc_law_clock (fun vs H Q E h => ?_) (fun cdv A outer s H vs Q E hr h => ?_)
  · obtain ⟨h, c, rfl, _⟩ := h
    rfl
  · obtain ⟨h, c, rfl, hh, k⟩ := h
    have hu := hu_of hr; have hu64 := L2.Room.units hr; refine ⟨_, (pss_one (ps_ret (pe_ix (r := rIxL K) ix_list (pe_lst (pa_cons pe_int (pa_cons pe_int (pa_cons pe_int (pa_cons pe_int (pa_cons pe_int (pa_cons pe_int pa_nil))))))) (pe_callD D_law_draw (hr.mono (by decide)) rfl pass0 (pa_cons (pv 0) (pa_cons pe_int pa_nil))) (fun _ _ => rfl)))), ?_⟩; rw [st_law_clock]; (try dsimp only [cxOf]); walk_at "go"
    refine ⟨Nat.le_of_ble_eq_true rfl, fun l hl => ?_⟩
    walk_at "go"
    refine ⟨h, c, 6, rfl, hh.ex' (Ex.new hl), by decide, by decide, fun v H' h0 h1 e hh' => ?_⟩
    obtain ⟨xs, hx⟩ := hh.kind
    have hlh : l ≠ h := fun q => by subst q; rw [hl] at hx; cases hx
    have hL : H' l = some (.lst [.int 2, .int 3, .int 2, .int 3, .int 5, .int 7]) := e _ _ hlh upd_same
    have eH : ExB h H H' := (Ex.new hl).exb.trans e
    obtain ⟨i, hi, rfl⟩ : ∃ i : Nat, i < 6 ∧ v = i := ⟨v.toNat, by omega, by omega⟩
    match i, hi with
    | 0, _ => exact g_ixl (SqL.of hL) rfl (k 2 H' (by decide) eH hh')
    | 1, _ => exact g_ixl (SqL.of hL) rfl (k 3 H' (by decide) eH hh')
    | 2, _ => exact g_ixl (SqL.of hL) rfl (k 2 H' (by decide) eH hh')
    | 3, _ => exact g_ixl (SqL.of hL) rfl (k 3 H' (by decide) eH hh')
    | 4, _ => exact g_ixl (SqL.of hL) rfl (k 5 H' (by decide) eH hh')
    | 5, _ => exact g_ixl (SqL.of hL) rfl (k 7 H' (by decide) eH hh')
theorem ok_law_word {f : Addr} {fd : FuncData} (F : Fun K "_law_word" "_law_word" s_law_word f fd) (T : Txt K mg C_Bag Cs) (D_law_draw : DefOk P w K mg base CX0 1 "_law_draw" ["_law_tape_here", "_law_many"] sp_tp_draw) : FnOk P w K mg base CX0 2 f fd ["_law_tape_here", "_law_letters", "_law_most"] sp_tp_word := by
  refine F.ok sc_law_word (fun vs H Q E h => ?_) (fun cdv A outer s H vs Q E hr h => ?_)
  · obtain ⟨h, c, z, m, rfl, _⟩ := h
    rfl
  · obtain ⟨h, c, z, m, rfl, hh, hz0, hz1, hm0, hm1, k⟩ := h
    have hu := hu_of hr; have hu64 := L2.Room.units hr; refine ⟨_, (pss_one (ps_ret (pe_join pe_str (pe_lc (own := [("_law_k", 3)]) (g := (gName 3)) (tt := tYes) rfl sc_law_word.nd (pi_range1 rfl T.b_range (pa_cons (pe_callD D_law_draw (hr.mono (by decide)) rfl pass0 (pa_cons (pv 0) (pa_cons (pe_op op_add (pv 2) pe_int) pa_nil))) pa_nil)) (blkOk_by (N := N_law_word) (sc := defScope s_law_word) (by decide +kernel)) (fun _ _ _ _ _ => (pg_name (i := 3) sc_law_word.nd rfl (by first | exact Or.inl rfl | exact Or.inr rfl))) (fun _ _ _ _ _ => pts_nil) (fun _ _ _ _ _ => (pe_ix (r := rIxS) ix_str (pv 1) (pe_callD D_law_draw (hr.mono (by decide)) rfl pass0 (pa_cons (pv 0) (pa_cons (pe_callB call_len_str (by rfl) T.b_len (by decide +kernel) (pa_cons (pv 1) pa_nil)) pa_nil))) (fun _ _ => rfl))))))), ?_⟩; rw [st_law_word]; (try dsimp only [cxOf]); walk_at "go"
    refine ⟨⟨_, rfl⟩, ?_⟩
    walk_at "go"
    refine ⟨h, c, m + 1, rfl, hh, by omega, by omega, fun v H1 hv0 hv1 e1 hh1 => ?_⟩
    walk_at "go"
    refine ⟨by omega, by omega, ?_⟩
    obtain ⟨o0, ho⟩ := hh1.kind
    refine lc_mut (f := h) (j := 3) walk_range ho (Nat.le_trans (by omega : v.toNat ≤ 1000) (by decide)) (fun H => TapeAt H h c) hh1 (fun H D o hD x => x.upd (hh1.new hD).1 (hh1.new hD).2) (fun _ _ _ => trivial) (fun y => ∃ u : Str, y = V.str u ∧ u.length = 1 ∧ OverS z u) (fun _ => rfl) ?_ ?_
    · rintro i x H2 H3 Kc hi e2 hh2 ⟨rfl, rfl⟩ hk
      walk_at "go"
      refine ⟨z, rfl, Nat.le_trans hz1 (by decide), ?_⟩
      walk_at "go"
      refine ⟨h, c, z.length, rfl, hh2, by omega, by omega, fun q H4 hq0 hq1 e4 hh4 => ?_⟩
      have hql : q.toNat < z.cps.toList.length := by
        have : z.cps.toList.length = z.length := Array.length_toList
        omega
      refine g_ixs (Nat.le_trans hz1 (by decide)) (atI_get hq0 (List.getElem?_eq_getElem hql)) ?_
      exact hk _ _ e4 hh4 ⟨_, rfl, rfl, fun d hd => by rw [List.mem_singleton.mp hd]; exact List.getElem_mem hql⟩
    · intro D H2 ys hD e2 hh2 hl2 hlen hp
      obtain ⟨zs, rfl, hzs⟩ := strs_of hp
      rw [List.length_map] at hlen
      have hl1 : ∀ u ∈ zs, u.length = 1 := fun u hu => (hzs u hu).1
      have hsum : (zs.map (·.length)).sum = zs.length := by
        have : zs.map (·.length) = zs.map fun _ => 1 := List.map_congr_left fun u hu => hl1 u hu
        rw [this]
        exact sum_ones zs
      have hjl : ∀ ys : List Str, (∀ y ∈ ys, y.length = 1) → (Str.join ("" : Str) ys).length = ys.length := by
        intro ys
        induction ys with
        | nil => intro _; rfl
        | cons x r ih =>
          intro hx
          cases r with
          | nil => exact hx x List.mem_cons_self
          | cons y r =>
            show (x ++ ("" : Str) ++ Str.join ("" : Str) (y :: r)).length = _
            have e0 : ("" : Str).length = 0 := rfl
            rw [len_app, len_app, hx x List.mem_cons_self, ih fun u hu => hx u (List.mem_cons_of_mem _ hu), e0]
            simp only [List.length_cons]
            omega
      refine ⟨_, D, zs, rfl, rfl, .inl (SqL.of hl2), ?_, ?_⟩
      · rw [hsum]
        have : ("" : Str).length = 0 := rfl
        rw [this]
        omega
      · have e3 : Txt.join ("" : Str) zs = Str.join ("" : Str) zs := TL.join_eq _ _
        rw [e3]
        exact k _ _ (by rw [hjl zs hl1]; omega) (join_over zs fun u hu => (hzs u hu).2) (e1.trans e2) hh2
theorem ok_law_some {f : Addr} {fd : FuncData} (F : Fun K "_law_some" "_law_some" s_law_some f fd) (T : Txt K mg C_Bag Cs) (D_law_draw : DefOk P w K mg base CX0 1 "_law_draw" ["_law_tape_here", "_law_many"] sp_tp_draw) (D_law_word : DefOk P w K mg base CX0 2 "_law_word" ["_law_tape_here", "_law_letters", "_law_most"] sp_tp_word) : FnOk P w K mg base CX0 3 f fd ["_law_tape_here", "_law_clock_here", "_law_letters", "_law_most", "_law_many"] sp_tp_some := by
  refine F.ok sc_law_some (fun vs H Q E h => ?_) (fun cdv A outer s H vs Q E hr h => ?_)
  · obtain ⟨h, c, p, z, m, n, rfl, _⟩ := h
    rfl
  · obtain ⟨h, c, p, z, m, n, rfl, hh, hp0, hp1, hz0, hz1, hzw, hm, hn, k⟩ := h
    have hu := hu_of hr; have hu64 := L2.Room.units hr; refine ⟨_, (pss_cons (ps_set (i := 5) sc_law_some.nd rfl (by first | exact Or.inl rfl | exact Or.inr rfl) pe_dnewK) (pss_cons (ps_for PassesOwn.never rfl (pi_range1 rfl T.b_range (pa_cons (pe_callD D_law_draw (hr.mono (by decide)) rfl pass0 (pa_cons (pv 0) (pa_cons (pe_op op_add (pv 4) pe_int) pa_nil))) pa_nil)) (pg_name (i := 6) sc_law_some.nd rfl (by first | exact Or.inl rfl | exact Or.inr rfl)) (pss_one (ps_dput hu (pv 5) (pe_callD D_law_word (hr.mono (by decide)) rfl pass0 (pa_cons (pv 0) (pa_cons (pv 2) (pa_cons (pv 3) pa_nil)))) (pe_op op_add pe_int (pe_callD D_law_draw (hr.mono (by decide)) rfl pass0 (pa_cons (pv 0) (pa_cons (pe_op op_sub (pv 1) pe_int) pa_nil)))) rfl))) (pss_one (ps_ret (pv 5))))), ?_⟩; rw [st_law_some]; (try dsimp only [cxOf]); walk_at "go"
    intro d hd
    walk_at "go"
    obtain ⟨hdh, hdc⟩ := hh.new hd
    refine ⟨h, c, n + 1, rfl, hh.upd hdh hdc, by omega, by omega, fun v H1 hv0 hv1 e1 hh1 => ?_⟩
    walk_at "go"
    refine ⟨by omega, by omega, ?_⟩
    refine forG walk_range (fun i σ' H' => (∃ x, σ' = [some (.ref h), some (.int p), some (.str z), some (.int m), some (.int n), some (.ref d), x]) ∧ ExB h H H' ∧ TapeAt H' h c ∧ ∃ s, H' d = some (.dK (toK s)) ∧ LotZ p z s i m) ⟨⟨none, rfl⟩, (Ex.new hd).exb.trans e1, hh1, [], e1 _ _ hdh upd_same, LotZ.nil⟩ (fun _ _ _ _ _ => trivial) ?_ ?_
    · rintro i x σ' H2 H3 hi ⟨⟨y, rfl⟩, e2, hh2, s, hs, hl⟩ ⟨rfl, rfl⟩
      walk_at "go"
      refine ⟨h, c, p - 1, rfl, hh2, by omega, by omega, fun v2 H4 h1 h2 e4 hh4 => ?_⟩
      walk_at "go"
      refine ⟨h, c, z, m, rfl, hh4, hz0, hz1, by omega, by omega, fun u H5 hu1 hu2 e5 hh5 => ?_⟩
      have hs5 := e5 _ _ hdh (e4 _ _ hdh hs)
      refine g_dp hs5 (Nat.lt_of_le_of_lt hl.l.n (Nat.lt_of_lt_of_le (by omega : i < 1000) (by decide))) ?_
      refine ⟨⟨_, rfl⟩, ?_, hh5.upd hdh hdc, _, upd_same, hl.put hzw (by omega) (by omega) (by omega) hu2⟩
      exact fun a o hne q => by rw [upd_ne (ne_of_none q hd)]; exact e5 _ _ hne (e4 _ _ hne (e2 _ _ hne q))
    · rintro σ' H2 ⟨⟨y, rfl⟩, e2, hh2, s, hs, hl⟩
      walk_at "go"
      exact k d s H2 e2 hd hs (hl.mono (by omega) (Nat.le_refl _)) hh2
/-! ### flags -/
def sp_tp_flag : Sp := fun vs H Q _ => ∃ a b : Bool, vs = [.bl a, .bl b] ∧ Q (.bl (decide (a = b))) H
end
end Fp

namespace Fp
open PySem L2
section
variable {P : Program} {w : World} {K : PySem.W.Frag} {mg : Str → Option Value} {base : Heap} {C_Bag : Addr} {Cs : Addr → Prop}
local macro_rules | `(tactic| walk_at "hp") => `(tactic| first | assumption | rfl)
local macro_rules | `(tactic| walk_at "cond") => `(tactic| first | assumption | decide | omega | (unfold CMul; omega) | (refine ⟨?_, ?_⟩ <;> omega) | (unfold CDiv; omega) | (unfold CPow; omega))
local macro_rules | `(tactic| walk_at "g1") => `(tactic| first
  | with_reducible first
    | refine g_seq ?_ | refine g_asg ?_ | refine g_name ?_ | refine g_ret ?_ | refine g_retN ?_ | refine g_drop ?_ | refine g_ifs ?_
    | refine g_c ?_ | refine g_op ?_ | refine g_un ?_ | refine g_I0 ?_ | refine g_U ?_
    | refine g_test ?_ | refine g_tB ?_ | refine g_bl ?_ | refine g_and ?_ | refine g_or ?_ | refine g_not ?_
    | refine g_andV ?_ | refine g_orV ?_ | refine g_notV ?_ | refine g_if ?_ | refine g_nil ?_ | refine g_cons ?_ | refine g_cb ?_ | refine g_call ?_
    | refine g_lst ?_ | refine g_tup ?_ | refine g_itT ?_ | refine g_itF ?_ | refine g_itNT ?_ | refine g_itNF ?_ | refine g_lc ?_ | refine g_iStr ?_ | refine g_yes ?_ | refine g_exs ?_
    | refine g_chain ?_ | refine g_dget ?_ | refine g_dput ?_ | refine g_dget2 ?_ | refine g_dpop2 ?_ | refine g_fld ?_ | refine g_sfld ?_ | refine g_make ?_ | refine g_meth ?_
    | refine g_bm ?_ | refine g_kw ?_ | refine g_callS ?_ | refine g_revL ?_ | refine g_m1 ?_ | refine g_gsub ?_ | refine g_for ?_ | refine g_iList ?_ | refine g_iTup ?_ | refine g_iRng1 ?_ | refine g_iRng2 ?_ | refine g_sl ?_ | refine g_part ?_ | refine g_noPart ?_
    | refine g_exi ?_ | refine g_exr ?_ | refine g_dnew ?_ | refine g_disp ?_ | refine g_prs0 ?_ | refine g_prs ?_ | refine g_nxt ?_
  | ((with_reducible refine g_var (v := ?vv) ?gv ?_); (case gv => exact rfl))
  | ((with_reducible refine g_I ?gc ?_); (case gc => walk_at "cond"))
  | ((with_reducible refine g_eq ?ge ?_); (case ge => exact rfl))
  | ((with_reducible refine g_ne ?ge ?_); (case ge => exact rfl))
  | (refine g_ixl (SqL.of (by first | assumption | exact upd_same)) rfl ?_)
  | (refine g_setl (by first | assumption | exact upd_same) rfl ?_)
  | ((with_reducible show (∃ i, [V.int _] = [V.int i] ∧ _) ∨ _); refine Or.inl ⟨_, rfl, ?_⟩)
  | ((with_reducible show ∃ i, [V.int _] = [V.int i] ∧ _); refine ⟨_, rfl, ?_⟩)
  | dsimp only)
local macro_rules | `(tactic| walk_at "go") => `(tactic| repeat (walk_at "g1"))

/-! ### sums, products, longest words -/
def sp_tp_added : Sp := fun vs H Q _ => ∃ (p : Int) (a b : Addr) (s t : Bg) (f : Int), vs = [.int p, .ref a, .ref b, .int f] ∧ Rd H a (.dK (toK s)) ∧ Rd H b (.dK (toK t)) ∧ Good p s ∧ (keys t).Nodup ∧ s.length + t.length < 10000000 ∧ 0 < p ∧ (-1000000 < f ∧ f < 1000000) ∧
  ∀ d r H', Ex H H' → H d = none → H' d = some (.dK (toK r)) → Good p r → (∀ u, cf r u = cf (plusS p s t f) u) → Q (.ref d) H'
def sp_tp_product : Sp := fun vs H Q _ => ∃ (p : Int) (a b : Addr) (s t : Bg), vs = [.int p, .ref a, .ref b] ∧ Rd H a (.dK (toK s)) ∧ Rd H b (.dK (toK t)) ∧ (keys s).Nodup ∧ (keys t).Nodup ∧ s.length * t.length < 10000000 ∧ 0 < p ∧ Good 1000000 s ∧
  (∀ u ∈ keys s, u.length ≤ 5000000) ∧ (∀ u ∈ keys t, u.length ≤ 5000000) ∧ ∀ d r H', Ex H H' → H d = none → H' d = some (.dK (toK r)) → Good p r → (∀ u, cf r u = cf (prodS p s t) u) → Q (.ref d) H'
def sp_tp_long : Sp := fun vs H Q _ => ∃ (a : Addr) (s : Bg), vs = [.ref a] ∧ Rd H a (.dK (toK s)) ∧ s.length ≤ 10000 ∧ (∀ u ∈ keys s, u.length ≤ 10000) ∧
  ∀ (m : Int) H', Ex H H' → (m = -1 ∨ ∃ u ∈ keys s, m = (u.length : Int)) → (∀ u ∈ keys s, (u.length : Int) ≤ m) → -1 ≤ m → Q (.int m) H'
/-- the end of both: what is not 0 -/
theorem filt_pairs {σ : St} {H : Hp} {Q : VK} {d : Addr} {s : Bg} {te0 : TE} {j : Nat} {tt : TT} {te : TE} {vs : List Nat} (hd : H d = some (.dK (toK s))) (hz : s.length ≤ 10000000) (hn : (keys s).Nodup)
    (he : ∀ (H' : Hp) (Q : VK), LkEx d s H H' → Q (.ref d) H' → te0 σ H' Q) (hw : ∀ x, wipe ((wipe σ vs).set j x) vs = wipe σ vs)
    (ht : ∀ (i : Nat) (w : Str) (n : Int) (H' : Hp) (R : Bool → Hp → Prop), s[i]? = some (w, n) → LkEx d s H H' → R (decide (n ≠ 0)) H' → tt ((wipe σ vs).set j (some (.str w))) H' R)
    (hte : ∀ (i : Nat) (w : Str) (n : Int) (H' : Hp) (R : VK), s[i]? = some (w, n) → LkEx d s H H' → (∀ q, H' q = none → R (.ref q) (upd H' q (.tup [.str w, .int n]))) → te ((wipe σ vs).set j (some (.str w))) H' R)
    (hend : ∀ D H' (ps : List Addr), H D = none → Ex H H' → H' D = some (.lst (ps.map V.ref)) → Paired (fun p (kv : Str × Int) => SqT K H' p [.str kv.1, .int kv.2]) ps (nzS s) → Q (.ref D) H') :
    tLockRE (tLc (iKeys te0) (gName j) tt te vs) σ H Q := by
  refine lcd_relF (.inl hd) (line5 hz) he (fun kv => decide (kv.2 ≠ 0)) (fun e y H => ∃ t, y = V.ref t ∧ H t = some (.tup [.str e.1, .int e.2])) (fun e y H H' t ⟨x, h1, h2⟩ => ⟨x, h1, t _ _ h2⟩) hw ?_ ?_
  · intro i w n H' Kc N hi le hk hN
    refine ht i w n H' _ hi le ?_
    by_cases h0 : n ≠ 0
    · rw [decide_eq_true h0, if_pos rfl]
      exact hte i w n H' _ hi le fun q hq => hk (decide_eq_true h0) _ _ (Ex.new hq) ⟨q, rfl, upd_same⟩
    · rw [decide_eq_false h0, if_neg Bool.false_ne_true]
      exact hN (decide_eq_false h0) _ (Ex.refl _)
  · intro D H' ys hD e hl hp
    obtain ⟨ts, rfl, hts⟩ := paired_refs hp
    exact hend D H' ts hD e hl (Paired.mapP hts fun _ _ q => SqT.of q)
end
end Fp

/-! All words of one length; words none of which begins with another one, grown. -/
namespace Fp
open PySem L2
def allw (z : List Nat) : Nat → List (List Nat)
  | 0 => [[]]
  | n + 1 => (allw z n).flatMap fun w => z.map fun c => w ++ [c]
theorem mem_allw {z : List Nat} : ∀ {n : Nat} {l : List Nat}, l ∈ allw z n ↔ l.length = n ∧ OverL z l
  | 0, l => by
    unfold allw
    rw [List.mem_singleton]
    exact ⟨fun e => by rw [e]; exact ⟨rfl, fun _ h => nomatch h⟩, fun h => List.length_eq_zero_iff.mp h.1⟩
  | n + 1, l => by
    unfold allw
    rw [List.mem_flatMap]
    constructor
    · rintro ⟨w, hw, hl⟩
      obtain ⟨c, hc, rfl⟩ := List.mem_map.mp hl
      obtain ⟨h1, h2⟩ := mem_allw.mp hw
      exact ⟨by rw [List.length_append, h1]; rfl, h2.app fun d hd => by rw [List.mem_singleton.mp hd]; exact hc⟩
    · rintro ⟨h1, h2⟩
      have hne : l ≠ [] := fun e => by rw [e] at h1; cases h1
      refine ⟨l.dropLast, mem_allw.mpr ⟨by rw [List.length_dropLast]; omega, fun c hc => h2 c ((List.dropLast_sublist l).subset hc)⟩, List.mem_map.mpr ⟨l.getLast hne, h2 _ (List.getLast_mem hne), List.dropLast_concat_getLast hne⟩⟩
theorem len_allw (z : List Nat) : ∀ n, (allw z n).length = z.length ^ n
  | 0 => rfl
  | n + 1 => by
    unfold allw
    rw [List.length_flatMap]
    have : (allw z n).map (fun w => (z.map fun c => w ++ [c]).length) = (allw z n).map fun _ => z.length := List.map_congr_left fun w _ => List.length_map _
    rw [this, List.map_const', List.sum_replicate_nat, len_allw z n, Nat.pow_succ]
/-! ### the letters of an alphabet, each with 1 -/
def lzS (z : List Nat) : Bg := z.map fun c => (chS c, (1 : Int))
theorem keys_lz (z : List Nat) : keys (lzS z) = z.map chS := by unfold keys lzS; rw [List.map_map]; rfl
theorem lz_nodup {z : List Nat} (h : z.Nodup) : (keys (lzS z)).Nodup := by
  rw [keys_lz]
  exact List.Pairwise.map _ (fun a b q e => q (chS_inj e)) h
theorem cl_lz {z : List Nat} (h : z.Nodup) (l : List Nat) : cl (lzS z) l = lets z l := by
  unfold cl lets
  by_cases q : ∃ c ∈ z, l = [c]
  · rw [if_pos q]
    obtain ⟨c, hc, rfl⟩ := q
    exact cf_of_mem (lz_nodup h) (List.mem_map.mpr ⟨c, hc, rfl⟩)
  · rw [if_neg q]
    refine cf_not_mem fun hm => q ?_
    rw [keys_lz] at hm
    obtain ⟨c, hc, e⟩ := List.mem_map.mp hm
    refine ⟨c, hc, ?_⟩
    have := congrArg (fun u : Str => u.cps.toList) e
    exact this.symm
theorem lz_good {z : List Nat} {p : Int} (h : z.Nodup) (hp : 1 < p) : Good p (lzS z) := ⟨lz_nodup h, fun kv hk => by
  obtain ⟨c, _, rfl⟩ := List.mem_map.mp hk
  show (0 : Int) < 1
  decide, fun kv hk => by
  obtain ⟨c, _, rfl⟩ := List.mem_map.mp hk
  exact hp⟩
/-! ### codes -/
theorem conv_dll (G : List Nat → Int) (l : List Nat) : conv dl G l = G l := by
  cases l with
  | nil => rw [conv_nil]; unfold dl; rw [if_pos rfl, Int.one_mul]
  | cons c l =>
    have e0 : (fun x => dl (c :: x)) = fun _ => (0 : Int) * 0 := by funext x; unfold dl; rw [if_neg (List.cons_ne_nil _ _)]; rfl
    rw [conv_cons, e0, conv_mull]
    unfold dl
    rw [if_pos rfl]
    omega
theorem conv_at (G : List Nat → Int) : ∀ (w l : List Nat), conv (fun x => if x = w then (1 : Int) else 0) G l = if w <+: l then G (l.drop w.length) else 0
  | [], l => by
    rw [if_pos List.nil_prefix]
    exact conv_dll G l
  | d :: w, [] => by
    rw [conv_nil, if_neg (List.cons_ne_nil _ _).symm, if_neg (fun h => by have := h.length_le; simp at this)]
    omega
  | d :: w, c :: l => by
    rw [conv_cons, if_neg (List.cons_ne_nil _ _).symm]
    by_cases hc : c = d
    · subst hc
      have e0 : (fun x => if c :: x = c :: w then (1 : Int) else 0) = fun x => if x = w then 1 else 0 := by
        funext x
        by_cases q : x = w
        · rw [if_pos (by rw [q]), if_pos q]
        · rw [if_neg (fun e => q (List.cons.inj e).2), if_neg q]
      rw [e0, conv_at G w l]
      by_cases hp : w <+: l
      · rw [if_pos hp, if_pos (List.cons_prefix_cons.mpr ⟨rfl, hp⟩)]
        simp
      · rw [if_neg hp, if_neg (fun h => hp (List.cons_prefix_cons.mp h).2)]
        omega
    · have e0 : (fun x => if c :: x = d :: w then (1 : Int) else 0) = fun _ => (0 : Int) * 0 := by
        funext x
        rw [if_neg (fun e => hc (List.cons.inj e).1)]
        rfl
      rw [e0, conv_mull, if_neg (fun h => hc (List.cons_prefix_cons.mp h).1.symm)]
      omega
theorem conv_lets (z w l : List Nat) : conv (fun x => if x = w then (1 : Int) else 0) (lets z) l = if ∃ c ∈ z, l = w ++ [c] then 1 else 0 := by
  rw [conv_at]
  unfold lets
  by_cases hp : w <+: l
  · rw [if_pos hp]
    obtain ⟨t, rfl⟩ := hp
    rw [List.drop_left]
    by_cases q : ∃ c ∈ z, t = [c]
    · obtain ⟨c, hc, rfl⟩ := q
      rw [if_pos ⟨c, hc, rfl⟩, if_pos ⟨c, hc, rfl⟩]
    · rw [if_neg q, if_neg]
      rintro ⟨c, hc, e⟩
      exact q ⟨c, hc, List.append_cancel_left e⟩
  · rw [if_neg hp, if_neg]
    rintro ⟨c, _, rfl⟩
    exact hp ⟨[c], rfl⟩
structure CodeI (z : List Nat) (Ls : List (List Nat)) (A : Bg) : Prop where
  nd : Ls.Nodup
  pr : ∀ a ∈ Ls, ∀ b ∈ Ls, a <+: b → a = b
  st : ∀ u ∈ keys A, ∃ b ∈ Ls, u.cps.toList <+: b ∧ u.cps.toList ≠ b
  eq : ∀ l, (if l ∈ Ls then (1 : Int) else 0) = dl l - cl A l + conv (cl A) (lets z) l
  ov : ∀ b ∈ Ls, OverL z b
  one : ∀ kv ∈ A, kv.2 = 1
  an : (keys A).Nodup
theorem CodeI.start (z : List Nat) : CodeI z [[]] [] where
  nd := by simp
  pr := fun a ha b hb _ => by rw [List.mem_singleton.mp ha, List.mem_singleton.mp hb]
  st := fun _ h => nomatch h
  eq := fun l => by
    have e0 : cl [] = fun _ => (0 : Int) * 0 := by funext x; exact cf_nil _
    rw [e0, conv_mull]
    unfold dl
    simp
  ov := fun b hb => by rw [List.mem_singleton.mp hb]; exact fun _ h => nomatch h
  one := fun _ h => nomatch h
  an := List.nodup_nil
theorem CodeI.step {z : List Nat} {L1 L2 : List (List Nat)} {w : List Nat} {A : Bg} {c0 : Nat} (hz : z.Nodup) (h0 : c0 ∈ z) (h : CodeI z (L1 ++ w :: L2) A) : CodeI z (L1 ++ L2 ++ z.map fun c => w ++ [c]) (putS A (ofL w) 1) := by
  have hw : w ∈ L1 ++ w :: L2 := by simp
  have hold : ∀ x, x ∈ L1 ++ L2 → x ∈ L1 ++ w :: L2 := fun x hx => by
    rcases List.mem_append.mp hx with q | q
    · exact List.mem_append_left _ q
    · exact List.mem_append_right _ (List.mem_cons_of_mem _ q)
  have hnd := (List.perm_middle (a := w) (l₁ := L1) (l₂ := L2)).nodup_iff.mp h.nd
  obtain ⟨hwn, hnd2⟩ := List.nodup_cons.mp hnd
  have hkid : ∀ c, w ++ [c] ∉ L1 ++ w :: L2 := fun c hm => by
    have := h.pr w hw _ hm ⟨[c], rfl⟩
    have := congrArg List.length this
    rw [List.length_append] at this
    simp at this
  have hwA : ofL w ∉ keys A := fun hm => by
    obtain ⟨b, hb, h1, h2⟩ := h.st _ hm
    exact h2 (h.pr w hw b hb h1)
  have hmem : ∀ l, l ∈ L1 ++ w :: L2 ↔ l = w ∨ l ∈ L1 ++ L2 := fun l => by
    rw [(List.perm_middle (a := w) (l₁ := L1) (l₂ := L2)).mem_iff, List.mem_cons]
  refine ⟨?_, ?_, ?_, ?_, ?_, ?_, nodup_put h.an⟩
  · rw [List.nodup_append]
    refine ⟨hnd2, ?_, ?_⟩
    · exact List.Pairwise.map _ (fun a b q e => q (by have := List.append_cancel_left e; simpa using this)) hz
    · intro a ha b hb e
      obtain ⟨c, _, rfl⟩ := List.mem_map.mp hb
      rw [e] at ha
      exact hkid c (hold _ ha)
  · intro a ha b hb hab
    rcases List.mem_append.mp ha with qa | qa <;> rcases List.mem_append.mp hb with qb | qb
    · exact h.pr a (hold _ qa) b (hold _ qb) hab
    · obtain ⟨c, _, rfl⟩ := List.mem_map.mp qb
      rcases List.prefix_concat_iff.mp hab with e | e
      · exact e
      · have := h.pr a (hold _ qa) w hw e
        rw [this] at qa
        exact absurd qa hwn
    · obtain ⟨c, _, rfl⟩ := List.mem_map.mp qa
      have := h.pr w hw b (hold _ qb) (List.IsPrefix.trans ⟨[c], rfl⟩ hab)
      rw [← this] at qb
      exact absurd qb hwn
    · obtain ⟨c, _, rfl⟩ := List.mem_map.mp qa
      obtain ⟨d, _, rfl⟩ := List.mem_map.mp qb
      exact hab.eq_of_length (by rw [List.length_append, List.length_append]; rfl)
  · intro u hu
    have hc0 : w ++ [c0] ∈ L1 ++ L2 ++ z.map fun c => w ++ [c] := List.mem_append_right _ (List.mem_map.mpr ⟨c0, h0, rfl⟩)
    have hlong : ∀ a : List Nat, a <+: w → a <+: w ++ [c0] ∧ a ≠ w ++ [c0] := fun a ha => ⟨ha.trans ⟨[c0], rfl⟩, fun e => by
      have := ha.length_le
      rw [e, List.length_append, List.length_singleton] at this
      omega⟩
    have huk : u ∈ keys A ∨ u = ofL w := by
      rw [keys_put] at hu
      split at hu
      · exact .inl hu
      · exact (List.mem_append.mp hu).imp id List.mem_singleton.mp
    rcases huk with hu | rfl
    · obtain ⟨b, hb, h1, h2⟩ := h.st u hu
      rcases (hmem b).mp hb with rfl | hb
      · exact ⟨_, hc0, hlong _ h1⟩
      · exact ⟨b, List.mem_append_left _ hb, h1, h2⟩
    · exact ⟨_, hc0, hlong _ (List.prefix_refl _)⟩
  · intro l
    have e1 : cl (putS A (ofL w) 1) = fun x => cl A x + (if x = w then (1 : Int) else 0) := by
      funext x
      unfold cl
      rw [cf_put]
      by_cases q : x = w
      · subst q
        rw [if_pos rfl, if_pos rfl, cf_not_mem hwA]
        rfl
      · rw [if_neg (fun e => q (ofL_inj.mp e)), if_neg q]
        omega
    rw [e1, conv_addl, conv_lets]
    show _ = dl l - (cl A l + if l = w then (1 : Int) else 0) + _
    have e2 := h.eq l
    by_cases hl : l = w
    · subst hl
      rw [if_pos hw] at e2
      have h3 : l ∉ L1 ++ L2 ++ z.map fun c => l ++ [c] := fun hm => by
        rcases List.mem_append.mp hm with q | q
        · exact hwn q
        · obtain ⟨c, _, e⟩ := List.mem_map.mp q
          have := congrArg List.length e
          rw [List.length_append] at this
          simp at this
      rw [if_neg h3, if_pos rfl, if_neg (by rintro ⟨c, _, e⟩; have := congrArg List.length e; rw [List.length_append] at this; simp at this)]
      omega
    · rw [if_neg hl]
      by_cases hk : ∃ c ∈ z, l = w ++ [c]
      · rw [if_pos hk]
        obtain ⟨c, hc, rfl⟩ := hk
        rw [if_neg (hkid c)] at e2
        rw [if_pos (List.mem_append_right _ (List.mem_map.mpr ⟨c, hc, rfl⟩))]
        omega
      · rw [if_neg hk]
        have h3 : (l ∈ L1 ++ L2 ++ z.map fun c => w ++ [c]) ↔ l ∈ L1 ++ w :: L2 := by
          rw [List.mem_append, hmem]
          constructor
          · rintro (q | q)
            · exact .inr q
            · obtain ⟨c, hc, e⟩ := List.mem_map.mp q
              exact absurd ⟨c, hc, e.symm⟩ hk
          · rintro (q | q)
            · exact absurd q hl
            · exact .inl q
        by_cases q : l ∈ L1 ++ w :: L2
        · rw [if_pos (h3.mpr q)]
          rw [if_pos q] at e2
          omega
        · rw [if_neg (fun z => q (h3.mp z))]
          rw [if_neg q] at e2
          omega
  · intro b hb
    rcases List.mem_append.mp hb with q | q
    · exact h.ov b (hold _ q)
    · obtain ⟨c, hc, rfl⟩ := List.mem_map.mp q
      exact (h.ov w hw).app fun d hd => by rw [List.mem_singleton.mp hd]; exact hc
  · intro kv hkv
    rcases mem_put hkv with q | q
    · exact h.one kv q
    · rw [q]
/-- the dict of the words of a code -/
def lsS (Ls : List (List Nat)) : Bg := Ls.map fun l => (ofL l, (1 : Int))
theorem keys_ls (Ls : List (List Nat)) : keys (lsS Ls) = Ls.map ofL := by unfold keys lsS; rw [List.map_map]; rfl
theorem ls_nodup {Ls : List (List Nat)} (h : Ls.Nodup) : (keys (lsS Ls)).Nodup := by
  rw [keys_ls]
  exact List.Pairwise.map _ (fun a b q e => q (ofL_inj.mp e)) h
theorem cl_ls {Ls : List (List Nat)} (h : Ls.Nodup) (l : List Nat) : cl (lsS Ls) l = if l ∈ Ls then 1 else 0 := by
  unfold cl
  by_cases q : l ∈ Ls
  · rw [if_pos q]
    exact cf_of_mem (ls_nodup h) (List.mem_map.mpr ⟨l, q, rfl⟩)
  · rw [if_neg q]
    refine cf_not_mem fun hm => q ?_
    rw [keys_ls] at hm
    obtain ⟨m, hm, e⟩ := List.mem_map.mp hm
    rw [← ofL_inj.mp e]
    exact hm
theorem ls_good {Ls : List (List Nat)} {p : Int} (h : Ls.Nodup) (hp : 1 < p) : Good p (lsS Ls) := ⟨ls_nodup h, fun kv hk => by
  obtain ⟨c, _, rfl⟩ := List.mem_map.mp hk
  show (0 : Int) < 1
  decide, fun kv hk => by
  obtain ⟨c, _, rfl⟩ := List.mem_map.mp hk
  exact hp⟩
theorem CodeI.grown {p : Int} {z : List Nat} {Ls : List (List Nat)} {A : Bg} (h : CodeI z Ls A) : Grown p z (cl (lsS Ls)) (cl A) := fun l => by rw [cl_ls h.nd, h.eq l]
end Fp

namespace Fp
open PySem L2
section
variable {P : Program} {w : World} {K : PySem.W.Frag} {mg : Str → Option Value} {base : Heap} {C_Bag : Addr} {Cs : Addr → Prop}
local macro_rules | `(tactic| walk_at "hp") => `(tactic| first | assumption | rfl)
local macro_rules | `(tactic| walk_at "cond") => `(tactic| first | assumption | decide | omega | (unfold CMul; omega) | (refine ⟨?_, ?_⟩ <;> omega) | (unfold CDiv; omega) | (unfold CPow; omega))
local macro_rules | `(tactic| walk_at "g1") => `(tactic| first
  | with_reducible first
    | refine g_seq ?_ | refine g_asg ?_ | refine g_name ?_ | refine g_ret ?_ | refine g_retN ?_ | refine g_drop ?_ | refine g_ifs ?_
    | refine g_c ?_ | refine g_op ?_ | refine g_un ?_ | refine g_I0 ?_ | refine g_U ?_
    | refine g_test ?_ | refine g_tB ?_ | refine g_bl ?_ | refine g_and ?_ | refine g_or ?_ | refine g_not ?_
    | refine g_andV ?_ | refine g_orV ?_ | refine g_notV ?_ | refine g_if ?_ | refine g_nil ?_ | refine g_cons ?_ | refine g_cb ?_ | refine g_call ?_
    | refine g_lst ?_ | refine g_tup ?_ | refine g_itT ?_ | refine g_itF ?_ | refine g_itNT ?_ | refine g_itNF ?_ | refine g_lc ?_ | refine g_iStr ?_ | refine g_yes ?_ | refine g_exs ?_
    | refine g_chain ?_ | refine g_dget ?_ | refine g_dput ?_ | refine g_dget2 ?_ | refine g_dpop2 ?_ | refine g_fld ?_ | refine g_sfld ?_ | refine g_make ?_ | refine g_meth ?_
    | refine g_bm ?_ | refine g_kw ?_ | refine g_callS ?_ | refine g_revL ?_ | refine g_m1 ?_ | refine g_gsub ?_ | refine g_for ?_ | refine g_iList ?_ | refine g_iTup ?_ | refine g_iRng1 ?_ | refine g_iRng2 ?_ | refine g_sl ?_ | refine g_part ?_ | refine g_noPart ?_
    | refine g_exi ?_ | refine g_exr ?_ | refine g_dnew ?_ | refine g_disp ?_ | refine g_prs0 ?_ | refine g_prs ?_ | refine g_nxt ?_
  | ((with_reducible refine g_var (v := ?vv) ?gv ?_); (case gv => exact rfl))
  | ((with_reducible refine g_I ?gc ?_); (case gc => walk_at "cond"))
  | ((with_reducible refine g_eq ?ge ?_); (case ge => exact rfl))
  | ((with_reducible refine g_ne ?ge ?_); (case ge => exact rfl))
  | (refine g_ixl (SqL.of (by first | assumption | exact upd_same)) rfl ?_)
  | (refine g_setl (by first | assumption | exact upd_same) rfl ?_)
  | ((with_reducible show (∃ i, [V.int _] = [V.int i] ∧ _) ∨ _); refine Or.inl ⟨_, rfl, ?_⟩)
  | ((with_reducible show ∃ i, [V.int _] = [V.int i] ∧ _); refine ⟨_, rfl, ?_⟩)
  | dsimp only)
local macro_rules | `(tactic| walk_at "go") => `(tactic| repeat (walk_at "g1"))

/-! ### full bags of the law -/
theorem LotZ.same {p : Int} {z : Str} {r t : Bg} {a b : Nat} (gr : Good p r) (h : ∀ u, cf r u = cf t u) (l : LotZ p z t a b) : LotZ p z r a b :=
  ⟨⟨gr, by rw [same_len gr l.l.g h]; exact l.l.n, fun u hu => l.l.l u ((same_keys gr l.l.g h u).mp hu)⟩, fun u hu => l.o u ((same_keys gr l.l.g h u).mp hu)⟩
theorem LotZ.plus {p : Int} {z : Str} {s t : Bg} {f : Int} {a b c d e : Nat} (hp : 0 < p) (l : LotZ p z s a b) (m : LotZ p z t c d) (hb : b ≤ e) (hd : d ≤ e) : LotZ p z (plusS p s t f) (a + c) e :=
  ⟨l.l.plus hp m.l hb hd, fun u hu => (keys_plus hu).elim (l.o u) (m.o u)⟩
theorem LotZ.prod {p : Int} {z : Str} {s t : Bg} {a b c d : Nat} (hp : 0 < p) (l : LotZ p z s a b) (m : LotZ p z t c d) : LotZ p z (prodS p s t) (a * c) (b + d) :=
  ⟨l.l.prod hp m.l, fun u hu => by
    obtain ⟨x, hx, y, hy, rfl⟩ := keys_prod hu
    unfold OverS
    rw [app_toList]
    exact (l.o x hx).app (m.o y hy)⟩
theorem LotZ.one {p : Int} {z : Str} (hp : 1 < p) : LotZ p z [("", 1)] 1 0 := by
  refine ⟨Lot.of (by decide) (by decide) (fun u hu => ?_) fun kv hk => ?_, fun u hu => ?_⟩
  · rw [List.mem_singleton.mp hu]; exact ⟨Nat.le_refl _, rfl⟩
  · rw [List.mem_singleton.mp hk]; exact ⟨by decide, hp⟩
  · rw [List.mem_singleton.mp hu]; exact fun _ h => nomatch h
theorem LotZ.lets {p : Int} {z : Str} (hz : isW z = true) (hn : z.cps.toList.Nodup) (hp : 1 < p) : LotZ p z (lzS z.cps.toList) z.length 1 := by
  refine ⟨⟨lz_good hn hp, by unfold lzS; rw [List.length_map, str_len]; exact Nat.le_refl _, fun u hu => ?_⟩, fun u hu => ?_⟩
  · rw [keys_lz] at hu
    obtain ⟨c, hc, rfl⟩ := List.mem_map.mp hu
    exact ⟨Nat.le_refl _, isW_one hz hc⟩
  · rw [keys_lz] at hu
    obtain ⟨c, hc, rfl⟩ := List.mem_map.mp hu
    exact fun d hd => by rw [List.mem_singleton.mp hd]; exact hc
theorem cl_one1 (l : List Nat) : cl [("", 1)] l = dl l := by
  unfold cl dl
  by_cases q : l = []
  · subst q; rw [if_pos rfl]; rfl
  · rw [if_neg q, cf_neg, cf_nil]
    exact fun e => q ((ofL_inj (a := l) (b := [])).mp e.symm)
/-- an alphabet -/
structure Alph (z : Str) : Prop where
  w : isW z = true
  nd : z.cps.toList.Nodup
  two : 2 ≤ z.length
  le : z.length ≤ 3
theorem Alph.pos {z : Str} (h : Alph z) : 0 < z.length := Nat.lt_of_lt_of_le (by decide) h.two
def sp_tp_grown : Sp := fun vs H Q _ => ∃ (p : Int) (z : Str) (a : Addr) (s : Bg) (n m : Nat), vs = [.int p, .str z, .ref a] ∧ 2 ≤ p ∧ p ≤ 1000 ∧ Alph z ∧ Rd H a (.dK (toK s)) ∧ LotZ p z s n m ∧ n ≤ 1000 ∧ m ≤ 1000 ∧
  ∀ d r H', Ex H H' → H d = none → H' d = some (.dK (toK r)) → LotZ p z r (1 + n + n * z.length) (m + 1) → Grown p z.cps.toList (cl r) (cl s) → Q (.ref d) H'
def sp_tp_comes_to : Sp := fun vs H Q _ => ∃ (p : Int) (a : Addr) (s : Bg) (u : Str), vs = [.int p, .ref a, .str u] ∧ 0 < p ∧ Rd H a (.dK (toK s)) ∧ u.length ≤ 1000 ∧ ∀ H', Ex H H' → Q (.int (pf (cl s) u.cps.toList % p)) H'
def sp_tp_all_words : Sp := fun vs H Q _ => ∃ (z : Str) (n : Nat), vs = [.str z, .int n] ∧ z.length ≤ 3 ∧ n ≤ 6 ∧ ∀ l H', Ex H H' → H' l = some (.lst (((allw z.cps.toList n).map ofL).map V.str)) → Q (.ref l) H'
theorem allw_le {z : List Nat} {n : Nat} (hz : z.length ≤ 3) (hn : n ≤ 6) : (allw z n).length ≤ 729 := by
  rw [len_allw]
  have h1 : z.length ^ n ≤ 3 ^ n := Nat.pow_le_pow_left hz n
  have h2 : 3 ^ n ≤ 3 ^ 6 := Nat.pow_le_pow_right (by decide) hn
  exact Nat.le_trans h1 h2
end
end Fp

namespace Fp
open PySem L2
section
variable {P : Program} {w : World} {K : PySem.W.Frag} {mg : Str → Option Value} {base : Heap} {C_Bag : Addr} {Cs : Addr → Prop}
local macro_rules | `(tactic| walk_at "hp") => `(tactic| first | assumption | rfl)
local macro_rules | `(tactic| walk_at "cond") => `(tactic| first | assumption | decide | omega | (unfold CMul; omega) | (refine ⟨?_, ?_⟩ <;> omega) | (unfold CDiv; omega) | (unfold CPow; omega))
local macro_rules | `(tactic| walk_at "g1") => `(tactic| first
  | with_reducible first
    | refine g_seq ?_ | refine g_asg ?_ | refine g_name ?_ | refine g_ret ?_ | refine g_retN ?_ | refine g_drop ?_ | refine g_ifs ?_
    | refine g_c ?_ | refine g_op ?_ | refine g_un ?_ | refine g_I0 ?_ | refine g_U ?_
    | refine g_test ?_ | refine g_tB ?_ | refine g_bl ?_ | refine g_and ?_ | refine g_or ?_ | refine g_not ?_
    | refine g_andV ?_ | refine g_orV ?_ | refine g_notV ?_ | refine g_if ?_ | refine g_nil ?_ | refine g_cons ?_ | refine g_cb ?_ | refine g_call ?_
    | refine g_lst ?_ | refine g_tup ?_ | refine g_itT ?_ | refine g_itF ?_ | refine g_itNT ?_ | refine g_itNF ?_ | refine g_lc ?_ | refine g_iStr ?_ | refine g_yes ?_ | refine g_exs ?_
    | refine g_chain ?_ | refine g_dget ?_ | refine g_dput ?_ | refine g_dget2 ?_ | refine g_dpop2 ?_ | refine g_fld ?_ | refine g_sfld ?_ | refine g_make ?_ | refine g_meth ?_
    | refine g_bm ?_ | refine g_kw ?_ | refine g_callS ?_ | refine g_revL ?_ | refine g_m1 ?_ | refine g_gsub ?_ | refine g_for ?_ | refine g_iList ?_ | refine g_iTup ?_ | refine g_iRng1 ?_ | refine g_iRng2 ?_ | refine g_sl ?_ | refine g_part ?_ | refine g_noPart ?_
    | refine g_exi ?_ | refine g_exr ?_ | refine g_dnew ?_ | refine g_disp ?_ | refine g_prs0 ?_ | refine g_prs ?_ | refine g_nxt ?_
  | ((with_reducible refine g_var (v := ?vv) ?gv ?_); (case gv => exact rfl))
  | ((with_reducible refine g_I ?gc ?_); (case gc => walk_at "cond"))
  | ((with_reducible refine g_eq ?ge ?_); (case ge => exact rfl))
  | ((with_reducible refine g_ne ?ge ?_); (case ge => exact rfl))
  | (refine g_ixl (SqL.of (by first | assumption | exact upd_same)) rfl ?_)
  | (refine g_setl (by first | assumption | exact upd_same) rfl ?_)
  | ((with_reducible show (∃ i, [V.int _] = [V.int i] ∧ _) ∨ _); refine Or.inl ⟨_, rfl, ?_⟩)
  | ((with_reducible show ∃ i, [V.int _] = [V.int i] ∧ _); refine ⟨_, rfl, ?_⟩)
  | dsimp only)
local macro_rules | `(tactic| walk_at "go") => `(tactic| repeat (walk_at "g1"))

/-! ### codes -/
def strL (Ls : List (List Nat)) : List V := Ls.map fun l => V.str (ofL l)
structure CodeB (z : Str) (i : Nat) (Ls : List (List Nat)) (A : Bg) : Prop where
  c : CodeI z.cps.toList Ls A
  n1 : 1 ≤ Ls.length
  n2 : Ls.length ≤ 1 + 2 * i
  l : ∀ b ∈ Ls, b.length ≤ i
  m : A.length ≤ i
  k : ∀ u ∈ keys A, u.length ≤ i
  o : ∀ u ∈ keys A, OverS z u
theorem CodeB.start (z : Str) : CodeB z 0 [[]] [] := ⟨CodeI.start _, Nat.le_refl _, Nat.le_refl _, (fun b hb => by rw [List.mem_singleton.mp hb]; exact Nat.le_refl _), Nat.le_refl _, (fun _ h => nomatch h), fun _ h => nomatch h⟩
theorem CodeB.step {z : Str} {i j : Nat} {Ls : List (List Nat)} {w : List Nat} {A : Bg} (hz : Alph z) (h : CodeB z i Ls A) (hw : Ls[j]? = some w) : CodeB z (i + 1) (Ls.eraseIdx j ++ z.cps.toList.map fun c => w ++ [c]) (putS A (ofL w) 1) := by
  have hj : j < Ls.length := by
    rcases Nat.lt_or_ge j Ls.length with q | q
    · exact q
    · rw [List.getElem?_eq_none q] at hw; cases hw
  have hwm : w ∈ Ls := List.mem_of_getElem? hw
  have hwj : Ls[j] = w := by rw [List.getElem?_eq_getElem hj] at hw; exact Option.some.inj hw
  have e : Ls = Ls.take j ++ w :: Ls.drop (j + 1) := by rw [← hwj, List.getElem_cons_drop, List.take_append_drop]
  have ee : Ls.eraseIdx j = Ls.take j ++ Ls.drop (j + 1) := List.eraseIdx_eq_take_drop_succ _ _
  have hzl : z.cps.toList.length = z.length := str_len z
  have h3 := hz.le
  have h4 := hz.pos
  obtain ⟨c0, h0⟩ : ∃ c, c ∈ z.cps.toList := by
    cases q : z.cps.toList with
    | nil => rw [q] at hzl; simp at hzl; omega
    | cons c r => exact ⟨c, List.mem_cons_self⟩
  have hle := List.length_eraseIdx_of_lt hj
  have hub : ∀ u ∈ keys (putS A (ofL w) 1), u ∈ keys A ∨ u = ofL w := fun u hu => by
    rw [keys_put] at hu
    split at hu
    · exact .inl hu
    · exact (List.mem_append.mp hu).imp id List.mem_singleton.mp
  have h5 := h.n2
  have h6 := h.n1
  refine ⟨?_, ?_, ?_, fun b hb => ?_, ?_, fun u hu => ?_, fun u hu => ?_⟩
  · rw [ee]
    refine CodeI.step hz.nd h0 ?_
    rw [← e]
    exact h.c
  · rw [List.length_append, List.length_map]
    omega
  · rw [List.length_append, List.length_map]
    omega
  · rcases List.mem_append.mp hb with q | q
    · exact Nat.le_succ_of_le (h.l b (List.mem_of_mem_eraseIdx q))
    · obtain ⟨c, _, rfl⟩ := List.mem_map.mp q
      rw [List.length_append]
      exact Nat.succ_le_succ (h.l w hwm)
  · exact Nat.le_trans (len_put _ _ _) (Nat.succ_le_succ h.m)
  · rcases hub u hu with q | rfl
    · exact Nat.le_succ_of_le (h.k u q)
    · rw [← str_len, toList_ofL]
      exact Nat.le_succ_of_le (h.l w hwm)
  · rcases hub u hu with q | rfl
    · exact h.o u q
    · exact h.c.ov w hwm
theorem CodeB.mono {z : Str} {i j : Nat} {Ls : List (List Nat)} {A : Bg} (h : CodeB z i Ls A) (hj : i ≤ j) : CodeB z j Ls A :=
  ⟨h.c, h.n1, by have := h.n2; omega, fun b hb => Nat.le_trans (h.l b hb) hj, Nat.le_trans h.m hj, fun u hu => Nat.le_trans (h.k u hu) hj, h.o⟩
theorem CodeB.lot {z : Str} {i : Nat} {Ls : List (List Nat)} {A : Bg} {p : Int} (hz : Alph z) (h : CodeB z i Ls A) (hp : 1 < p) : LotZ p z (lsS Ls) (1 + 2 * i) i := by
  have hk : ∀ u ∈ keys (lsS Ls), u.length ≤ i ∧ OverS z u := fun u hu => by
    rw [keys_ls] at hu
    obtain ⟨l, hl, rfl⟩ := List.mem_map.mp hu
    exact ⟨by rw [← str_len, toList_ofL]; exact h.l l hl, h.c.ov l hl⟩
  exact ⟨⟨ls_good h.c.nd hp, by unfold lsS; rw [List.length_map]; exact h.n2, fun u hu => ⟨(hk u hu).1, (hk u hu).2.isW hz.w⟩⟩, fun u hu => (hk u hu).2⟩
theorem CodeB.lotA {z : Str} {i : Nat} {Ls : List (List Nat)} {A : Bg} {p : Int} (hz : Alph z) (h : CodeB z i Ls A) (hp : 1 < p) : LotZ p z A i i :=
  ⟨⟨⟨h.c.an, fun kv hk => by rw [h.c.one kv hk]; decide, fun kv hk => by rw [h.c.one kv hk]; exact hp⟩, h.m, fun u hu => ⟨h.k u hu, (h.o u hu).isW hz.w⟩⟩, h.o⟩
def sp_tp_code : Sp := fun vs H Q _ => ∃ (h c : Addr) (z : Str) (m : Nat), vs = [.ref h, .str z, .int m] ∧ TapeAt H h c ∧ Alph z ∧ m ≤ 100 ∧
  ∀ q d1 d2 Ls A H', ExB h H H' → H d1 = none → H d2 = none → H' q = some (.tup [.ref d1, .ref d2]) → H' d1 = some (.dK (toK (lsS Ls))) → H' d2 = some (.dK (toK A)) → CodeB z m Ls A → TapeAt H' h c → Q (.ref q) H'
theorem len_keys {s : Bg} {n : Nat} (h : ∀ u ∈ keys s, u.length ≤ n) : Len (cl s) n := fun l hl => cf_not_mem fun hm => by
  have := h _ hm
  rw [← str_len, toList_ofL] at this
  omega

end
end Fp

namespace Fp
open PySem L2
section
variable {P : Program} {w : World} {K : PySem.W.Frag} {mg : Str → Option Value} {base : Heap} {C_Bag : Addr} {Cs : Addr → Prop}
local macro_rules | `(tactic| walk_at "hp") => `(tactic| first | assumption | rfl)
local macro_rules | `(tactic| walk_at "cond") => `(tactic| first | assumption | decide | omega | (unfold CMul; omega) | (refine ⟨?_, ?_⟩ <;> omega) | (unfold CDiv; omega) | (unfold CPow; omega))
local macro_rules | `(tactic| walk_at "g1") => `(tactic| first
  | with_reducible first
    | refine g_seq ?_ | refine g_asg ?_ | refine g_name ?_ | refine g_ret ?_ | refine g_retN ?_ | refine g_drop ?_ | refine g_ifs ?_
    | refine g_c ?_ | refine g_op ?_ | refine g_un ?_ | refine g_I0 ?_ | refine g_U ?_
    | refine g_test ?_ | refine g_tB ?_ | refine g_bl ?_ | refine g_and ?_ | refine g_or ?_ | refine g_not ?_
    | refine g_andV ?_ | refine g_orV ?_ | refine g_notV ?_ | refine g_if ?_ | refine g_nil ?_ | refine g_cons ?_ | refine g_cb ?_ | refine g_call ?_
    | refine g_lst ?_ | refine g_tup ?_ | refine g_itT ?_ | refine g_itF ?_ | refine g_itNT ?_ | refine g_itNF ?_ | refine g_lc ?_ | refine g_iStr ?_ | refine g_yes ?_ | refine g_exs ?_
    | refine g_chain ?_ | refine g_dget ?_ | refine g_dput ?_ | refine g_dget2 ?_ | refine g_dpop2 ?_ | refine g_fld ?_ | refine g_sfld ?_ | refine g_make ?_ | refine g_meth ?_
    | refine g_bm ?_ | refine g_kw ?_ | refine g_callS ?_ | refine g_revL ?_ | refine g_m1 ?_ | refine g_gsub ?_ | refine g_for ?_ | refine g_iList ?_ | refine g_iTup ?_ | refine g_iRng1 ?_ | refine g_iRng2 ?_ | refine g_sl ?_ | refine g_part ?_ | refine g_noPart ?_
    | refine g_exi ?_ | refine g_exr ?_ | refine g_dnew ?_ | refine g_disp ?_ | refine g_prs0 ?_ | refine g_prs ?_ | refine g_nxt ?_
  | ((with_reducible refine g_var (v := ?vv) ?gv ?_); (case gv => exact rfl))
  | ((with_reducible refine g_I ?gc ?_); (case gc => walk_at "cond"))
  | ((with_reducible refine g_eq ?ge ?_); (case ge => exact rfl))
  | ((with_reducible refine g_ne ?ge ?_); (case ge => exact rfl))
  | (refine g_ixl (SqL.of (by first | assumption | exact upd_same)) rfl ?_)
  | (refine g_setl (by first | assumption | exact upd_same) rfl ?_)
  | ((with_reducible show (∃ i, [V.int _] = [V.int i] ∧ _) ∨ _); refine Or.inl ⟨_, rfl, ?_⟩)
  | ((with_reducible show ∃ i, [V.int _] = [V.int i] ∧ _); refine ⟨_, rfl, ?_⟩)
  | dsimp only)
local macro_rules | `(tactic| walk_at "go") => `(tactic| repeat (walk_at "g1"))

/-! ### k69: the bags that are made -/

end
end Fp

namespace Fp
open PySem L2
section
variable {P : Program} {w : World} {K : PySem.W.Frag} {mg : Str → Option Value} {base : Heap} {C_Bag : Addr} {Cs : Addr → Prop}
local macro_rules | `(tactic| walk_at "hp") => `(tactic| first | assumption | rfl)
local macro_rules | `(tactic| walk_at "cond") => `(tactic| first | assumption | decide | omega | (unfold CMul; omega) | (refine ⟨?_, ?_⟩ <;> omega) | (unfold CDiv; omega) | (unfold CPow; omega))
local macro_rules | `(tactic| walk_at "g1") => `(tactic| first
  | with_reducible first
    | refine g_seq ?_ | refine g_asg ?_ | refine g_name ?_ | refine g_ret ?_ | refine g_retN ?_ | refine g_drop ?_ | refine g_ifs ?_
    | refine g_c ?_ | refine g_op ?_ | refine g_un ?_ | refine g_I0 ?_ | refine g_U ?_
    | refine g_test ?_ | refine g_tB ?_ | refine g_bl ?_ | refine g_and ?_ | refine g_or ?_ | refine g_not ?_
    | refine g_andV ?_ | refine g_orV ?_ | refine g_notV ?_ | refine g_if ?_ | refine g_nil ?_ | refine g_cons ?_ | refine g_cb ?_ | refine g_call ?_
    | refine g_lst ?_ | refine g_tup ?_ | refine g_itT ?_ | refine g_itF ?_ | refine g_itNT ?_ | refine g_itNF ?_ | refine g_lc ?_ | refine g_iStr ?_ | refine g_yes ?_ | refine g_exs ?_
    | refine g_chain ?_ | refine g_dget ?_ | refine g_dput ?_ | refine g_dget2 ?_ | refine g_dpop2 ?_ | refine g_fld ?_ | refine g_sfld ?_ | refine g_make ?_ | refine g_meth ?_
    | refine g_bm ?_ | refine g_kw ?_ | refine g_callS ?_ | refine g_revL ?_ | refine g_m1 ?_ | refine g_gsub ?_ | refine g_for ?_ | refine g_iList ?_ | refine g_iTup ?_ | refine g_iRng1 ?_ | refine g_iRng2 ?_ | refine g_sl ?_ | refine g_part ?_ | refine g_noPart ?_
    | refine g_exi ?_ | refine g_exr ?_ | refine g_dnew ?_ | refine g_disp ?_ | refine g_prs0 ?_ | refine g_prs ?_ | refine g_nxt ?_
  | ((with_reducible refine g_var (v := ?vv) ?gv ?_); (case gv => exact rfl))
  | ((with_reducible refine g_I ?gc ?_); (case gc => walk_at "cond"))
  | ((with_reducible refine g_eq ?ge ?_); (case ge => exact rfl))
  | ((with_reducible refine g_ne ?ge ?_); (case ge => exact rfl))
  | (refine g_ixl (SqL.of (by first | assumption | exact upd_same)) rfl ?_)
  | (refine g_setl (by first | assumption | exact upd_same) rfl ?_)
  | ((with_reducible show (∃ i, [V.int _] = [V.int i] ∧ _) ∨ _); refine Or.inl ⟨_, rfl, ?_⟩)
  | ((with_reducible show ∃ i, [V.int _] = [V.int i] ∧ _); refine ⟨_, rfl, ?_⟩)
  | dsimp only)
local macro_rules | `(tactic| walk_at "go") => `(tactic| repeat (walk_at "g1"))

/-! ### the program: full bags -/
def inAlph (z : Str) : Prop := z = "xy" ∨ z = "xyz"
theorem inAlph.alph {z : Str} (h : inAlph z) : Alph z := by
  rcases h with rfl | rfl
  · exact ⟨by decide +kernel, by decide +kernel, by decide +kernel, by decide +kernel⟩
  · exact ⟨by decide +kernel, by decide +kernel, by decide +kernel, by decide +kernel⟩
def sp_check_alph : Sp := fun vs H Q _ => ∃ z : Str, vs = [.str z] ∧ inAlph z ∧ Q .non H
def sp_is_over (Cs : Addr → Prop) : Sp := fun vs H Q _ => ∃ (z : Str) (x : Addr) (p : Int) (s : Bg), vs = [.str z, .ref x] ∧ BagAt Cs H x p s ∧ s.length ≤ 1000 ∧ (∀ u ∈ keys s, u.length ≤ 1000) ∧ ∀ b H', Ex H H' → (b = true ↔ ∀ u ∈ keys s, OverS z u) → Q (.bl b) H'
theorem ok_is_over {f : Addr} {fd : FuncData} (F : Fun K "is_over" "is_over" s_is_over f fd) (T : Txt K mg C_Bag Cs) : FnOk P w K mg base CX0 1 f fd ["alphabet", "bag"] (sp_is_over Cs) := by
  refine F.ok sc_is_over (fun vs H Q E h => ?_) (fun cdv A outer s H vs Q E hr h => ?_)
  · obtain ⟨z, x, p, s, rfl, _⟩ := h
    rfl
  · obtain ⟨z, x, p, s, rfl, hx, hn, hl, k⟩ := h
    obtain ⟨C, dx, d, k1, t1, hc, h1, h2, h3⟩ := hx.ex
    have hu := hu_of hr; have hu64 := L2.Room.units hr; refine ⟨_, (pss_one (ps_ret (pe_callB (r := rAll K) (cr_all rfl) (by rfl) T.b_all (by decide +kernel) (pa_cons (pe_lockR (pe_lc2 (own := [("word", 2), ("letter", 3)]) (vs1 := [3]) (g := (gName 2)) (g1 := (gName 3)) (tt := tYes) (tt1 := tYes) rfl sc_is_over.nd (pi_keys (pe_fldK (K := K) rfl (pv 1) rfl)) (blkOk_by (N := N_is_over) (sc := defScope s_is_over) (by decide +kernel)) (by decide) (fun _ _ _ _ _ => (pg_name (i := 2) sc_is_over.nd rfl (by first | exact Or.inl rfl | exact Or.inr rfl))) (fun _ _ _ _ _ => pts_nil) (fun _ _ _ _ _ => (pi_str (pv 2))) (fun _ _ _ _ _ => (pg_name (i := 3) sc_is_over.nd rfl (by first | exact Or.inl rfl | exact Or.inr rfl))) (fun _ _ _ _ _ => pts_nil) (fun _ _ _ _ _ => (pe_cmpR op_in_sign (pv 3) (pv 0) (by rfl))))) pa_nil)))), ?_⟩; rw [st_is_over]; (try dsimp only [cxOf]); walk_at "go"
    refine lc2_flags (fun c => decide (c ∈ z.cps.toList)) (.inl h2) hl hn ?_ (fun _ => rfl) (fun w H' R q => ⟨_, rfl, w, rfl, q⟩) (fun _ _ => rfl) ?_ ?_
    · intro H' Q' le q
      have hxd : x ≠ d := fun e => by subst e; rw [h1] at h2; cases h2
      have h1' := le.keep _ _ hxd h1
      walk_at "go"
      refine ⟨x, C, dx, _, _, rfl, h1', T.cls C hc, T.n_sparse C hc, bagF_sparse _ _ _ _, ?_⟩
      exact q
    · intro w c H' Q' q
      walk_at "go"
      exact ⟨c, z, rfl, rfl, q⟩
    · intro D H' bs hD e hl' hbs
      walk_at "go"
      refine ⟨D, bs, rfl, SqL.of hl', ?_⟩
      refine k _ _ e ?_
      rw [hbs, List.all_eq_true]
      constructor
      · intro h u hu c hc
        have := h (decide (c ∈ z.cps.toList)) (List.mem_flatMap.mpr ⟨u, hu, List.mem_map.mpr ⟨c, hc, rfl⟩⟩)
        exact of_decide_eq_true this
      · intro h b hb
        obtain ⟨u, hu, hb⟩ := List.mem_flatMap.mp hb
        obtain ⟨c, hc, rfl⟩ := List.mem_map.mp hb
        exact decide_eq_true (h u hu c hc)

end
end Fp

/-! y = {k: v for .. in .. for .. in ..}: one rule for the loop of a clause, used for both of them. -/
namespace Fp
open PySem PySem.Spec PyProof.Rows L2
/-- what a clause does at a turn, k behind its tests -/
def turnOf (p : Pos) (it : Value) (tg : Expr) (ifs : List Expr) (env : Env) (k : Bool → Sem PySem.Fin) : Sem PySem.Fin := do
  standAt p
  match ← pyNext it with
  | none => pure (.done .next)
  | some v =>
    letOwnedTupleGo tg it v
    assign tg env v
    let ok ← forIn ifs true fun c r => if r = true then do let ok ← isTrue c env (eval c env); pure (ForInStep.yield ok) else pure (ForInStep.yield r)
    k ok
abbrev two (kx vx t0 i0 : Expr) (f0 : List Expr) (t1 i1 : Expr) (f1 : List Expr) (sc : Scope) (pos : Pos) : Expr := .DictComp kx vx [⟨t0, i0, f0, 0⟩, ⟨t1, i1, f1, 0⟩] sc pos
/-- behind the first clause's tests -/
def firstEnd (kx vx t0 i0 : Expr) (f0 : List Expr) (t1 i1 : Expr) (f1 : List Expr) (sc : Scope) (pos : Pos) (it acc : Value) (env : Env) (ok : Bool) : Sem PySem.Fin := do
  if ok then
    let x ← eval i1 env
    standAt i1.pos
    let x ← foldedSetIterable i1 env x
    let _ ← runOwn (.compStart (two kx vx t0 i0 f0 t1 i1 f1 sc pos) 1 (← holding [x] (pyIter x)) acc env) env
  again (.compLoop (two kx vx t0 i0 f0 t1 i1 f1 sc pos) 0 it acc env)
/-- behind the second one's -/
def secondEnd (kx vx t0 i0 : Expr) (f0 : List Expr) (t1 i1 : Expr) (f1 : List Expr) (sc : Scope) (pos : Pos) (it : Value) (D : Addr) (env : Env) (ok : Bool) : Sem PySem.Fin := do
  if ok then
    (do
      let kv ← eval kx env
      let vv ← holding [kv] (eval vx env)
      standAt { kx.pos with endLine := vx.pos.endLine, endCol := vx.pos.endCol }
      holding [kv, vv] (dictSet D kv vv))
  again (.compLoop (two kx vx t0 i0 f0 t1 i1 f1 sc pos) 1 it (.ref D) env)
theorem first_turn (kx vx t0 i0 : Expr) (f0 : List Expr) (t1 i1 : Expr) (f1 : List Expr) (sc : Scope) (pos : Pos) (it acc : Value) (env : Env) :
    compTurn (two kx vx t0 i0 f0 t1 i1 f1 sc pos) 0 it acc env = turnOf i0.pos it t0 f0 env (firstEnd kx vx t0 i0 f0 t1 i1 f1 sc pos it acc env) := by rfl
theorem second_turn (kx vx t0 i0 : Expr) (f0 : List Expr) (t1 i1 : Expr) (f1 : List Expr) (sc : Scope) (pos : Pos) (it : Value) (D : Addr) (env : Env) :
    compTurn (two kx vx t0 i0 f0 t1 i1 f1 sc pos) 1 it (.ref D) env = turnOf i1.pos it t1 f1 env (secondEnd kx vx t0 i0 f0 t1 i1 f1 sc pos it D env) := by rfl
section
variable {X : Cx}
/-- behind a turn: what the loop knew at its start is known again -/
def Back (X : Cx) (pins : List (Addr × Obj)) (σ0 : L2.St) (Nx : Hp → Prop) (s' : Shared) : Prop := ∃ σ H, Inv X pins σ H s' ∧ σ0.length = σ.length ∧ (∀ (j : Nat) v, σ0[j]? = some (some v) → σ[j]? = some (some v)) ∧ Nx H
theorem clause_loop {kx vx t0 i0 : Expr} {f0 : List Expr} {t1 i1 : Expr} {f1 : List Expr} {sc : Scope} {pos : Pos} {d : Nat} {it : Addr} {acc : Value} {tg : Expr} {p : Pos} {k : Bool → Sem PySem.Fin} {J : It} {fp : List Addr} {tn : Nat → Heap → Prop} {g : TG} {pins : List (Addr × Obj)} {σ0 : L2.St} {R : Result → Shared → Prop}
    (hx : ∀ v s, X.xe v s → False) (ht : compTurn (two kx vx t0 i0 f0 t1 i1 f1 sc pos) d (.ref it) acc X.env = turnOf p (.ref it) tg [] X.env k) (hc : X.calm = true) (T : Turn X.prog X.w X.K tg J fp it tn) (pg : PG X tg g)
    (hfp : ∀ {σ' : L2.St} {H' : Hp} {s' : Shared}, Inv X pins σ' H' s' → ∀ b ∈ fp, H' b = none → FpOk X pins H' b) (W : Nat → Nat → Hp → Prop)
    (turn : ∀ i m H, W i m H → (J.stop i H ∧ ∀ s', Inv X pins σ0 H s' → R (.ok .next) s') ∨ (J.go i H ∧ ∃ Nx : Hp → Prop, (∀ H', Nx H' → ∃ m', m' < m ∧ W (i + 1) m' H') ∧ ∀ x H', J.yld i H x H' → ∃ Z : L2.St → Hp → Prop, g x σ0 H' Z ∧
      ∀ σ2 H2 ps s9, Z σ2 H2 → Inv X (pins ++ ps) σ2 H2 s9 → wpAny (model X.prog X.w) X.A (k true) (fun f s' => f = .again (.compLoop (two kx vx t0 i0 f0 t1 i1 f1 sc pos) d (.ref it) acc X.env) ∧ Back X (pins ++ ps) σ0 Nx s') (notedBy (model X.prog X.w) X.A X.env fun e s' => R (.error e) s') s9))
    {m0 : Nat} {H : Hp} {s : Shared} (I : Inv X pins σ0 H s) (st : tn 0 s.heap) (hn : ∀ b ∈ fp, H b = none) (w0 : W 0 m0 H) :
    codeAny (model X.prog X.w) X.A (.compLoop (two kx vx t0 i0 f0 t1 i1 f1 sc pos) d (.ref it) acc X.env) R s := by
  refine codeAny_loop rfl (fun n s' => ∃ i H', Inv X pins σ0 H' s' ∧ tn i s'.heap ∧ (∀ b ∈ fp, H' b = none) ∧ W i n H') (fun n s5 hI => ?_) m0 ⟨0, H, I, st, hn, w0⟩
  obtain ⟨i, H5, I5, st5, n5, w5⟩ := hI
  show wpAny _ X.A ((compTurn (two kx vx t0 i0 f0 t1 i1 f1 sc pos) d (.ref it) acc X.env).onRaise (fun x => do noteFrame x X.env; theTreesLotGoes x)) _ _ s5
  refine wpAny_noted ?_
  rw [ht]
  rcases turn i n H5 w5 with ⟨stop, hr⟩ | ⟨go, Nx, hNx, step⟩
  · refine wpAny_bind (wpAny_standAt (wpAny_bind (thnF (T.done X rfl rfl rfl hc i pins s5 _ H5 (fun _ _ => False) I5 (fun b hb => hfp I5 b hb (n5 b hb)) st5 stop) fun r s6 ⟨e1, I6⟩ => ?_)))
    subst e1
    exact wpAny_pure (hr s6 I6)
  · refine wpAny_bind (wpAny_standAt (wpAny_bind (thnF (T.item X rfl rfl rfl hc i pins s5 _ H5 (fun _ _ => False) I5 (fun b hb => hfp I5 b hb (n5 b hb)) st5 go) fun r s6 ⟨u, e1, h6⟩ => ?_)))
    subst e1
    refine wpAny_bind (thnF h6 fun _ s7 ⟨x, H7, I7, r7, y7, st7, n7⟩ => ?_)
    have I7' := I7.pinned (fun b hb => hfp I7 b hb (n7 b hb)) (T.obj _ _ st7)
    obtain ⟨Z, hZ, hk⟩ := step x H7 y7
    refine wpAny_bind (wpAny_mono (pg.run _ s7 _ H7 x u _ I7' r7 hZ) (fun _ s8 ⟨σ8, H8, I8, q8⟩ => ?_) fun v s' z => (hx v s' z).elim)
    refine wpAny_bind (wpAny_tests_nil ?_)
    refine wpAny_mono (hk σ8 H8 _ s8 q8 I8) (fun f s' ⟨ef, σ3, H', I', hl, hk, nx⟩ => ?_) fun _ _ z => z
    subst ef
    obtain ⟨m', hm, w'⟩ := hNx H' nx
    have old : ∀ b ∈ fp, ∀ o, s7.heap.get? b = some o → s'.heap.get? b = some o ∧ H' b = none := fun b hb o eo =>
      let z := I'.pin (b, o) (List.mem_append_right _ (List.mem_append_right _ (mem_pinsAt hb eo)))
      ⟨z.1, z.2.1⟩
    refine ⟨rfl, m', hm, i + 1, H', I'.unpinned.weak hl hk, T.keep _ _ _ st7 fun b hb o eo => (old b hb o eo).1, fun b hb => ?_, w'⟩
    obtain ⟨o, eo, _⟩ := T.obj _ _ st7 b hb
    exact (old b hb o eo).2
/-- the second clause begins: its source is an iterator already -/
theorem second_start {kx vx t0 i0 : Expr} {f0 : List Expr} {t1 i1 : Expr} {f1 : List Expr} {sc : Scope} {pos : Pos} {it acc : Value} {env : Env} {P : Program} {w : World} {A : Around} {R : Result → Shared → Prop} {s : Shared}
    (h : codeAny (model P w) A (.compLoop (two kx vx t0 i0 f0 t1 i1 f1 sc pos) 1 it acc env) R s)
    (h2 : wpAny (model P w) A (pyIter it) (fun it' s' => codeAny (model P w) A (.compLoop (two kx vx t0 i0 f0 t1 i1 f1 sc pos) 1 it' acc env) R s') (notedBy (model P w) A env fun x s' => R (.error x) s') s) :
    codeAny (model P w) A (.compStart (two kx vx t0 i0 f0 t1 i1 f1 sc pos) 1 it acc env) R s := by
  refine codeAny_of_tree ?_
  show wpAny _ A ((compStart (two kx vx t0 i0 f0 t1 i1 f1 sc pos) 1 it acc env).onRaise (fun x => do noteFrame x env; standAt theWindowsPlace)) _ _ s
  refine wpAny_notedAt ?_
  unfold compStart
  refine wpAny_bind ?_
  refine wpAny_askSetting (wpAny_ite ?_)
  split
  · exact wpAny_pure ⟨rfl, h⟩
  · refine wpAny_bind (wpAny_rule ?_)
    refine wpAny_bind (wpAny_standAt (wpAny_bind (wpAny_mono h2 (fun it' s' h' => ?_) fun _ _ z => z)))
    exact wpAny_pure ⟨rfl, h'⟩
/-- the store at the end of the second clause -/
theorem second_end {kx vx t0 i0 : Expr} {f0 : List Expr} {t1 i1 : Expr} {f1 : List Expr} {sc : Scope} {pos : Pos} {it : Value} {D : Addr} {pins : List (Addr × Obj)} {tk tv : TE} {σ0 σ : L2.St} {H : Hp} {Nx : Hp → Prop} {s : Shared} {E : Value → Shared → Prop}
    (hx : ∀ v s, X.xe v s → False) (pk : PE X kx tk) (pv : PE X vx tv) (I : Inv X pins σ H s) (hl : σ0.length = σ.length) (hk : ∀ (j : Nat) v, σ0[j]? = some (some v) → σ[j]? = some (some v))
    (h : tk σ H fun y H5 => tv σ H5 fun z H6 => ∃ kvs q, y = kV q ∧ H6 D = some (.dK kvs) ∧ kvs.length < sizeLine ∧ Nx (upd H6 D (.dK (putK kvs q z)))) :
    wpAny (model X.prog X.w) X.A (secondEnd kx vx t0 i0 f0 t1 i1 f1 sc pos it D X.env true) (fun f s' => f = .again (.compLoop (two kx vx t0 i0 f0 t1 i1 f1 sc pos) 1 it (.ref D) X.env) ∧ Back X pins σ0 Nx s') E s := by
  unfold secondEnd
  refine wpAny_bind (wpAny_bind (wpAny_mono (pk.run pins s σ H _ I h) (fun u s1 ⟨y, H1, I1, r1, q1⟩ => ?_) fun v s' z => (hx v s' z).elim))
  refine wpAny_bind (wpAny_holding (wpAny_mono (pv.run pins s1 σ H1 _ I1 q1) (fun r s2 ⟨z, H2, I2, r2, kvs, q, ey, hD, hz, nx⟩ => ?_) fun v s' z => (hx v s' z).elim))
  subst ey
  refine wpAny_bind (wpAny_standAt (wpAny_holding (d_dictSet I2 hD hz r1 r2 fun s3 I3 => ?_)))
  exact wpAny_pure ⟨rfl, σ, _, I3, hl, hk, nx⟩
/-- the loop of both clauses -/
theorem both_loops {kx vx t0 i0 t1 i1 : Expr} {sc : Scope} {pos : Pos} {it D : Addr} {J : It} {fp : List Addr} {tn : Nat → Heap → Prop} {wi1 : TI} {g g1 : TG} {tk tv : TE} {vs vs1 : List Nat} {pins : List (Addr × Obj)} {σ : L2.St} {R : Result → Shared → Prop} {Q : Hp → Prop}
    (hx : ∀ v s, X.xe v s → False) (hc : X.calm = true) (T : Turn X.prog X.w X.K t0 J fp it tn) (pg : PG X t0 g) (pi1 : PI X t1 i1 wi1) (pg1 : PG X t1 g1) (pk : PE X kx tk) (pv : PE X vx tv) (hs1 : ∀ x, foldedSetIterable i1 X.env x = pure x) (hv : ∀ i ∈ vs1, i ∈ vs)
    (hfp : ∀ {σ' : L2.St} {H' : Hp} {s' : Shared}, Inv X pins σ' H' s' → ∀ b ∈ fp, H' b = none → FpOk X pins H' b) (W : Nat → Nat → Hp → Prop)
    (hR : ∀ H s', Q H → Inv X pins (wipe σ vs) H s' → R (.ok .next) s')
    (turn : ∀ i m H, W i m H →
      (J.stop i H ∧ Q H) ∨ (J.go i H ∧ ∃ Nx : Hp → Prop, (∀ H', Nx H' → ∃ m', m' < m ∧ W (i + 1) m' H') ∧ ∀ x H', J.yld i H x H' → g x (wipe σ vs) H' fun σ2 H2 => wipe σ2 vs = wipe σ vs ∧ wi1 σ2 H2 fun J1 H3 =>
        ∃ W1 : Nat → Nat → Hp → Prop, (∃ m, W1 0 m H3) ∧ ∀ j k H, W1 j k H → (J1.stop j H ∧ Nx H) ∨ (J1.go j H ∧ ∃ Nx1 : Hp → Prop, (∀ H', Nx1 H' → ∃ k', k' < k ∧ W1 (j + 1) k' H') ∧ ∀ x H', J1.yld j H x H' → g1 x (wipe σ2 vs1) H' fun σ3 H4 =>
          wipe σ3 vs1 = wipe σ2 vs1 ∧ tk σ3 H4 fun y H5 => tv σ3 H5 fun z H6 => ∃ kvs q, y = kV q ∧ H6 D = some (.dK kvs) ∧ kvs.length < sizeLine ∧ Nx1 (upd H6 D (.dK (putK kvs q z))))))
    {m0 : Nat} {H : Hp} {s : Shared} (I : Inv X pins (wipe σ vs) H s) (st : tn 0 s.heap) (hn : ∀ b ∈ fp, H b = none) (w0 : W 0 m0 H) :
    codeAny (model X.prog X.w) X.A (.compLoop (two kx vx t0 i0 [] t1 i1 [] sc pos) 0 (.ref it) (.ref D) X.env) R s := by
  refine clause_loop hx (first_turn kx vx t0 i0 [] t1 i1 [] sc pos _ _ _) hc T pg hfp W (fun i m H w0 => ?_) I st hn w0
  rcases turn i m H w0 with ⟨stop, q⟩ | ⟨go, Nx, hNx, step⟩
  · exact .inl ⟨stop, fun s' I' => hR H s' q I'⟩
  · refine .inr ⟨go, Nx, hNx, fun x H1 hy => ⟨_, step x H1 hy, ?_⟩⟩
    rintro σ2 H2 ps s9 ⟨hw, q2⟩ I9
    unfold firstEnd
    refine wpAny_bind (wpAny_mono (pi1.run _ s9 σ2 H2 _ I9 q2) (fun xv s10 h10 => ?_) fun v s' z => (hx v s' z).elim)
    refine wpAny_bind (wpAny_standAt (wpAny_bind (wpAny_of_eq (hs1 xv) (wpAny_bind (wpAny_holding (wpAny_mono h10 (fun itv s11 h11 => ?_) fun v s' z => (hx v s' z).elim))))))
    obtain ⟨it1, fp1, tn1, J1, H11, e1, I11, T1, st11, f11, W1, ⟨m1, w1⟩, turn1⟩ := h11
    subst e1
    have hl2 : (wipe σ vs).length = σ2.length := by rw [← hw, wipe_length]
    have hk2 : ∀ (j : Nat) v, (wipe σ vs)[j]? = some (some v) → (wipe σ2 vs1)[j]? = some (some v) := fun j v e => by
      rw [← hw] at e
      obtain ⟨e1, e2⟩ := wipe_some e
      rw [wipe_out fun z => e2 (hv j z)]
      exact e1
    have inner : codeAny (model X.prog X.w) X.A (.compLoop (two kx vx t0 i0 [] t1 i1 [] sc pos) 1 (.ref it1) (.ref D) X.env) (fun r s' => match r with | .ok _ => Back X (pins ++ ps) (wipe σ vs) Nx s' | .error _ => False) s11 := by
      refine clause_loop (σ0 := wipe σ2 vs1) hx (second_turn kx vx t0 i0 [] t1 i1 [] sc pos _ _ _) hc T1 pg1 (fun I' b hb e => ⟨e, (f11 b hb).2⟩) W1 (fun j k H w1 => ?_) (I11.weak (wipe_length _ _) fun j v e => (wipe_some e).1) st11 (fun b hb => (f11 b hb).1) w1
      rcases turn1 j k H w1 with ⟨stop1, q1⟩ | ⟨go1, Nx1, hNx1, step1⟩
      · exact .inl ⟨stop1, fun s' I' => ⟨_, _, I', hl2.trans (wipe_length σ2 vs1).symm, hk2, q1⟩⟩
      · refine .inr ⟨go1, Nx1, hNx1, fun x1 H12 hy1 => ⟨_, step1 x1 H12 hy1, ?_⟩⟩
        rintro σ3 H13 ps3 s13 ⟨hw3, q3⟩ I13
        exact second_end hx pk pv I13 (by rw [← hw3, wipe_length]) (fun j v e => by rw [← hw3] at e; exact (wipe_some e).1) q3
    refine wpAny_bind (wpAny_runOwn ?_)
    rw [Around.mark_none]
    refine codeAny_mono (second_start inner (T1.self X.A 0 _ _ _ st11 inner)) fun r s' hr => ?_
    cases r with
    | ok f => exact wpAny_pure ⟨rfl, hr⟩
    | error e => exact hr.elim
abbrev InBlk (X : Cx) (scope : Scope) (q : Cx → Prop) : Prop := ∀ (s : Shared) (H : Hp) (C : Addr) (cl : List (Str × Addr)) (fp : List Addr), q (X.blk s H scope (compEnvC scope cl C X.env) fp)
/-- the comprehension itself, whatever is done with the new dict -/
theorem dc2_core {kx vx t0 i0 t1 i1 : Expr} {scope : Scope} {own : List (Str × Nat)} {vs1 : List Nat} {pos pos' : Pos} {wi wi1 : TI} {g g1 : TG} {tk tv : TE} {use : Option (Value → Sem Unit)} {Qf : Value → Shared → Prop} {pins : List (Addr × Obj)} {s : Shared} {σ : L2.St} {H : Hp} {Q : VK}
    (hc : X.calm = true) (hN : X.N.Nodup) (I : Inv X pins σ H s) (hi : PI X t0 i0 wi) (ok : BlkOk X.N X.env.scope scope own) (hv : ∀ i ∈ vs1, i ∈ own.map (·.2))
    (hg : InBlk X scope fun Y => PG Y t0 g) (hi1 : InBlk X scope fun Y => PI Y t1 i1 wi1) (hg1 : InBlk X scope fun Y => PG Y t1 g1) (hk : InBlk X scope fun Y => PE Y kx tk) (he : InBlk X scope fun Y => PE Y vx tv)
    (hs : ∀ x, foldedSetIterable i0 X.env x = pure x) (hs1 : ∀ env x, foldedSetIterable i1 env x = pure x) (h : tDc2 wi g wi1 g1 tk tv (own.map (·.2)) vs1 σ H Q)
    (hRR : ∀ D C s' m H', Inv X pins σ H' s' → Q (.ref D) H' → s'.heap.Ns C m → FpOk X pins H' C → compPost (model X.prog X.w) X.A X.xe use Qf (.ref D) C (.ok .next) s') :
    wpAny (model X.prog X.w) X.A (comprehension (two kx vx t0 i0 [] t1 i1 [] scope pos) scope X.env pos' newDict false (eval i0 X.env) use) Qf X.xe s := by
  have hcl : ∀ y ∈ scope.names, y.2 = .free → ∃ c, X.env.cells.lookup y.1 = some c := fun y hy e => (ok.free y hy e).elim (fun k => I.ok.has _ (.inl k)) fun k => I.ok.has _ (.inr k)
  refine wpAny_comprehension_free (use := use) rfl hs (closure_ok hcl) ok.kind (fun y hy e => by rw [ok.uniq y hy, e]) (thn (hi.run pins s σ H _ I h) fun xv s1 hx => thn hx fun itv s2 h2 => ?_)
  obtain ⟨it, fp, tn, J, H2, e, I2, T, st2, f2, q⟩ := h2
  subst e
  refine wpAny_newObj_type (newEnv_comp ?_)
  obtain ⟨W, ⟨m0, w0⟩, turn⟩ := q s2.heap.objs.size (I2.hok.fresh (Nat.le_refl _))
  generalize hD : s2.heap.objs.size = D at w0 turn ⊢
  generalize hs3 : ({ s2 with heap := s2.heap.push { cls := .type "dict", data := .dict #[] } } : Shared) = s3
  have e3 : s3.heap = s2.heap.push { cls := .type "dict", data := .dict #[] } := by rw [← hs3]
  generalize hH3 : upd H2 D (.dK []) = H3 at w0
  have I3 : Inv X pins σ H3 s3 := by
    rw [← hs3, ← hH3]
    refine I2.laid (t' := s2.toks) (fun b o e => Heap.get?_push_of_some _ e) (Nat.le_of_eq hD) ?_
    rw [← hD]
    exact dk_empty s2.heap I2.big
  have f3 : ∀ b ∈ fp, FpOk X pins H3 b ∧ b < s3.heap.objs.size := fun b hb => by
    obtain ⟨o, eo, _⟩ := T.obj _ _ st2 b hb
    have lt : b < s2.heap.objs.size := Heap.lt_size eo
    refine ⟨⟨?_, (f2 b hb).2⟩, by rw [e3, Heap.size_push]; exact Nat.lt_succ_of_lt lt⟩
    rw [← hH3, upd_ne (show b ≠ D from by rw [← hD]; exact Nat.ne_of_lt lt)]
    exact (f2 b hb).1
  have I4 := block_start I3 ok hN f3
  generalize hc' : compEnvC scope (cellsFrom (s3.heap.objs.size + 1) scope.names (cloFrom X.env.cells scope.names [])) s3.heap.objs.size X.env = ce at I4
  generalize hs4 : ({ s3 with heap := pushCells (s3.heap.push { cls := .type "dict", data := .dict #[] }) scope.names } : Shared) = s4 at I4
  have all : ∀ q : Cx → Prop, InBlk X scope q → q (X.blk s3 H3 scope ce fp) := fun q z => by rw [← hc']; exact z _ _ _ _ _
  have cL : ce.locals = s3.heap.objs.size := by rw [← hc']; rfl
  have st4 : tn 0 s4.heap := T.keep _ _ _ st2 fun b _ o eo => by
    rw [← hs4]
    refine pushCells_keeps _ _ _ _ (Heap.get?_push_of_some _ ?_)
    rw [e3]
    exact Heap.get?_push_of_some _ eo
  have loop : codeAny (model X.prog X.w) X.A (.compLoop (two kx vx t0 i0 [] t1 i1 [] scope pos) 0 (.ref it) (.ref D) ce) (compPost (model X.prog X.w) X.A X.xe use Qf (.ref D) s3.heap.objs.size) s4 := by
    refine both_loops (X := X.blk s3 H3 scope ce fp) (Q := fun H => Q (.ref D) H) (fun _ _ z => z) hc T (all _ hg) (all _ hi1) (all _ hg1) (all _ hk) (all _ he) (hs1 _) hv (fun {σ' H' s'} I' b hb hn => ⟨hn, (I'.ok.exf b hb).1, I'.ok.exfs b hb, .inl hb, fun x c e => (I'.ok.exf b hb).2 x c e, fun p hp => absurd (show p ∈ ([] : List (Addr × Obj)) ++ [] from hp) (by simp)⟩) W (fun H' s' qq I6 => ?_) turn I4 st4 (fun b hb => (f3 b hb).1.1) w0
    have I7 : Inv X pins σ H' s' := I3.call' (ch := fp) I6.os I6.base I6.hok I6.bare fun b hb => ⟨(f3 b hb).1.2.2.2.1, (f3 b hb).1.2.1, (f3 b hb).1.2.2.2.2.1, (f3 b hb).1.2.2.2.2.2⟩
    have nC : H' s3.heap.objs.size = none := by rw [← cL]; exact I6.free
    obtain ⟨m, hn, _⟩ := I6.loc
    exact hRR D _ s' m H' I7 qq (by rw [← cL]; exact hn) (I3.fpOk (Nat.le_refl _) nC)
  subst hs4
  subst hc'
  exact codeAny_compStart_dict loop (T.self X.A 0 _ _ _ st4 loop)
theorem ps_setDc2 {i : Nat} {y : Str} {py : Pos} {kx vx t0 i0 t1 i1 : Expr} {scope : Scope} {own : List (Str × Nat)} {vs1 : List Nat} {pos spos : Pos} {wi wi1 : TI} {g g1 : TG} {tk tv : TE} (hc : X.calm = true) (hN : X.N.Nodup) (hy : X.N[i]? = some y) (hyl : X.env.scope.names.lookup y = some .local)
    (hsw : swapsWith (two kx vx t0 i0 [] t1 i1 [] scope pos) (some (.Name y py)) spos.line X.env = pure true) (hi : PI X t0 i0 wi) (ok : BlkOk X.N X.env.scope scope own) (hv : ∀ i ∈ vs1, i ∈ own.map (·.2))
    (hg : InBlk X scope fun Y => PG Y t0 g) (hi1 : InBlk X scope fun Y => PI Y t1 i1 wi1) (hg1 : InBlk X scope fun Y => PG Y t1 g1) (hk : InBlk X scope fun Y => PE Y kx tk) (he : InBlk X scope fun Y => PE Y vx tv)
    (hs : ∀ x, foldedSetIterable i0 X.env x = pure x := by intro _; rfl) (hs1 : ∀ env x, foldedSetIterable i1 env x = pure x := by intro _ _; rfl) :
    PS X (.Assign [.Name y py] (.DictComp kx vx [⟨t0, i0, [], 0⟩, ⟨t1, i1, [], 0⟩] scope pos) spos) (tAsg (tDc2 wi g wi1 g1 tk tv (own.map (·.2)) vs1) (gName i)) := by
  refine ⟨fun pins s σ H D I h => ?_⟩
  rw [exec_Assign_Name_used _ _ _ _ hsw]
  refine wpAny_bind (wpAny_standAt (wpAny_bind ?_))
  show wpAny _ X.A (do let _ ← comprehension (two kx vx t0 i0 [] t1 i1 [] scope pos) scope X.env (firstIterPos [⟨t0, i0, [], 0⟩, ⟨t1, i1, [], 0⟩] pos) newDict false (eval i0 X.env) (some (assign (.Name y py) X.env))) _ _ s
  have h : tDc2 wi g wi1 g1 tk tv (own.map (·.2)) vs1 σ H (fun x H1 => gName i x σ H1 D.nx) := h
  refine wpAny_bind (thn (dc2_core (Qf := fun _ s' => SP X pins D .next s') hc hN I hi ok hv hg hi1 hg1 hk he hs hs1 h fun L C s' m H' I' q hn f => ?_) fun _ s' hq => wpAny_pure (wpAny_pure hq))
  show wpAny _ _ (assign (.Name y py) X.env (.ref L)) _ _ _
  refine wpAny_assign_Name (store_ok2 (v := V.ref L) I' hN hy (.inl hyl) rfl (fun s2 I2 ⟨a, sb, ha⟩ => ?_) (.inr hyl))
  obtain ⟨f0, f1, f2, f3, f4, f5⟩ := f
  have haC : C ≠ a := by
    rcases ha with z | z
    · rw [z]; exact f1
    · exact fun e => f4 y a z e.symm
  exact ⟨m, hn.sameBut sb haC, fun h3 sb3 => ⟨_, H', I2.turned (t' := s2.toks) (fun b o hb e => (sb3.2 b hb).trans e) f0 f1 f3 f4 f5, q⟩⟩
end
end Fp

/-! A loop over a dict's keys that may return a plain value from within. -/
namespace Fp
open PySem L2
theorem for_keysR {σ : St} {H : Hp} {D : Ends} {d : Addr} {s : Bg} {te : TE} {j : Nat} {tb : TS} (hd : Rd H d (.dK (toK s)))
    (he : ∀ (H' : Hp) (Q : VK), LkEx d s H H' → Q (.ref d) H' → te σ H' Q)
    (I : Nat → St → Hp → Prop) (h0 : I 0 σ H) (hI : ∀ i σ H H', (∀ a o, a ≠ d → H a = some o → H' a = some o) → I i σ H → I i σ H')
    (hs : ∀ i w n σ' H' (E : Ends), s[i]? = some (w, n) → I i σ' H' → LkEx d s H H' → (∀ σ'' H'', I (i + 1) σ'' H'' → Ex H' H'' → E.nx σ'' H'') → (∀ σ'' H'', I (i + 1) σ'' H'' → Ex H' H'' → E.ct σ'' H'') →
      (∀ v H'', Ex H' H'' → (∀ H3, Ex H H3 → D.rt v H3) → E.rt v H'') → tb E (σ'.set j (some (.str w))) H')
    (hend : ∀ σ' H', I s.length σ' H' → Ex H H' → D.nx σ' H') : tLockR (tFor (iKeys te) (gName j) tb) D σ H := by
  have core : ∀ (Hl : Hp) (od : Obj) (E : Ends), Hl d = some (.frz od (.dK (toK s))) → LkEx d s H Hl → I 0 σ Hl → (∀ σ' H', I s.length σ' H' → Ex Hl H' → E.nx σ' H') →
      (∀ v H', Ex Hl H' → (∀ H3, Ex H H3 → D.rt v H3) → E.rt v H') → tFor (iKeys te) (gName j) tb E σ Hl := by
    intro Hl od E hl l0 hI0 hE hR
    refine he Hl _ l0 ⟨d, od, rfl, .inl ⟨toK s, hl, ?_⟩⟩
    refine for_it walk_keys (fun i σ' H' => I i σ' H' ∧ Ex Hl H') ⟨hI0, Ex.refl _⟩ (fun i σ' H' _ p => p.2 _ _ hl) ?_ (fun σ' H' p => ?_)
    · rintro i x σ' H' H1 hi ⟨hi1, e⟩ ⟨rfl, k, v, hk, rfl⟩
      obtain ⟨w, n, hw, ekv⟩ := toK_get hk
      cases ekv
      exact hs i w n σ' H1 _ hw hi1 (l0.ex e) (fun σ'' H'' i2 e2 => ⟨i2, e.trans e2⟩) (fun σ'' H'' i2 e2 => ⟨i2, e.trans e2⟩) fun v H'' e2 q => hR v H'' (e.trans e2) q
    · obtain ⟨hi1, e⟩ := p
      rw [toK_len] at hi1
      exact hE σ' H' hi1 e
  rcases hd with hd | ⟨od, hd⟩
  · have back : ∀ (od : Obj) (H' : Hp), Ex (upd H d (.frz od (.dK (toK s)))) H' → Ex H (upd H' d (.dK (toK s))) := fun od H' e a o q => by
      by_cases ha : a = d
      · subst ha
        rw [hd] at q
        cases q
        exact upd_same
      · rw [upd_ne ha]
        exact e a o (by rw [upd_ne ha]; exact q)
    refine .inl ⟨d, _, hd, trivial, fun od => ?_⟩
    refine core _ od _ upd_same ⟨fun a o ha q => by rw [upd_ne ha]; exact q, .inr ⟨od, upd_same⟩⟩ (hI _ _ _ _ (fun a o ha q => by rw [upd_ne ha]; exact q) h0) (fun σ' H' hi1 e => ?_) fun v H' e q => ⟨e _ _ upd_same, q _ (back od H' e)⟩
    exact ⟨e _ _ upd_same, hend σ' _ (hI _ _ _ _ (fun a o ha q => by rw [upd_ne ha]; exact q) hi1) (back od H' e)⟩
  · exact .inr (core H od D hd ⟨fun a o _ h => h, .inr ⟨od, hd⟩⟩ h0 hend fun v H' e q => q H' e)
/-- a comprehension over a locked dict, stored -/
theorem lock_asg {te : TE} {i : Nat} {D : Ends} {σ : St} {H : Hp} (h : tLockRE te σ H fun x H1 => D.nx (σ.set i (some x)) H1) : tLockR (tAsg te (gName i)) D σ H := h.elim (fun q => .inl q) fun q => .inr q
end Fp

namespace Fp
open PySem L2
section
variable {P : Program} {w : World} {K : PySem.W.Frag} {mg : Str → Option Value} {base : Heap} {C_Bag : Addr} {Cs : Addr → Prop}
local macro_rules | `(tactic| walk_at "hp") => `(tactic| first | assumption | rfl)
local macro_rules | `(tactic| walk_at "cond") => `(tactic| first | assumption | decide | omega | (unfold CMul; omega) | (refine ⟨?_, ?_⟩ <;> omega) | (unfold CDiv; omega) | (unfold CPow; omega))
local macro_rules | `(tactic| walk_at "g1") => `(tactic| first
  | with_reducible first
    | refine g_seq ?_ | refine g_asg ?_ | refine g_name ?_ | refine g_ret ?_ | refine g_retN ?_ | refine g_drop ?_ | refine g_ifs ?_
    | refine g_c ?_ | refine g_op ?_ | refine g_un ?_ | refine g_I0 ?_ | refine g_U ?_
    | refine g_test ?_ | refine g_tB ?_ | refine g_bl ?_ | refine g_and ?_ | refine g_or ?_ | refine g_not ?_
    | refine g_andV ?_ | refine g_orV ?_ | refine g_notV ?_ | refine g_if ?_ | refine g_nil ?_ | refine g_cons ?_ | refine g_cb ?_ | refine g_call ?_
    | refine g_lst ?_ | refine g_tup ?_ | refine g_itT ?_ | refine g_itF ?_ | refine g_itNT ?_ | refine g_itNF ?_ | refine g_lc ?_ | refine g_iStr ?_ | refine g_yes ?_ | refine g_exs ?_
    | refine g_chain ?_ | refine g_dget ?_ | refine g_dput ?_ | refine g_dget2 ?_ | refine g_dpop2 ?_ | refine g_fld ?_ | refine g_sfld ?_ | refine g_make ?_ | refine g_meth ?_
    | refine g_bm ?_ | refine g_kw ?_ | refine g_callS ?_ | refine g_revL ?_ | refine g_m1 ?_ | refine g_gsub ?_ | refine g_for ?_ | refine g_iList ?_ | refine g_iTup ?_ | refine g_iRng1 ?_ | refine g_iRng2 ?_ | refine g_sl ?_ | refine g_part ?_ | refine g_noPart ?_
    | refine g_exi ?_ | refine g_exr ?_ | refine g_dnew ?_ | refine g_disp ?_ | refine g_prs0 ?_ | refine g_prs ?_ | refine g_nxt ?_
  | ((with_reducible refine g_var (v := ?vv) ?gv ?_); (case gv => exact rfl))
  | ((with_reducible refine g_I ?gc ?_); (case gc => walk_at "cond"))
  | ((with_reducible refine g_eq ?ge ?_); (case ge => exact rfl))
  | ((with_reducible refine g_ne ?ge ?_); (case ge => exact rfl))
  | (refine g_ixl (SqL.of (by first | assumption | exact upd_same)) rfl ?_)
  | (refine g_setl (by first | assumption | exact upd_same) rfl ?_)
  | ((with_reducible show (∃ i, [V.int _] = [V.int i] ∧ _) ∨ _); refine Or.inl ⟨_, rfl, ?_⟩)
  | ((with_reducible show ∃ i, [V.int _] = [V.int i] ∧ _); refine ⟨_, rfl, ?_⟩)
  | dsimp only)
local macro_rules | `(tactic| walk_at "go") => `(tactic| repeat (walk_at "g1"))

/-- what sums_at_starts tells -/
structure Sums (p : Int) (s t : Bg) : Prop where
  nd : (keys t).Nodup
  mem : ∀ u, u ∈ keys t ↔ u = Str.empty ∨ ∃ v ∈ keys s, u.cps.toList <+: v.cps.toList
  val : ∀ u ∈ keys t, cf t u = pf (cl s) u.cps.toList % p
  n : t.length ≤ 1001001
structure SumI (p : Int) (s : Bg) (us : List Str) (j : Nat) (t : Bg) : Prop where
  nd : (keys t).Nodup
  mem : ∀ u, u ∈ keys t ↔ u = Str.empty ∨ u ∈ us.take j
  val : ∀ u ∈ keys t, cf t u = pf (cl s) u.cps.toList % p
  n : t.length ≤ j + 1
theorem getS_keys {t : Bg} {u : Str} (hn : (keys t).Nodup) (h : u ∈ keys t) : getS t u = some (cf t u) := by
  obtain ⟨n, hm⟩ := mem_keys.mp h
  rw [getS_of_mem hn hm, cf_of_mem hn hm]
theorem emp_ofL : ofL [] = Str.empty := rfl
theorem SumI.start {p : Int} {s : Bg} {us : List Str} (hp : 0 < p) (g : Good p s) : SumI p s us 0 [(Str.empty, cf s Str.empty)] := by
  refine ⟨by simp [keys], fun u => ?_, fun u hu => ?_, Nat.le_refl _⟩
  · simp [keys]
  · rw [show u = Str.empty from List.mem_singleton.mp hu, cf_pos rfl]
    show _ = pf (cl s) [] % p
    rw [pf_nil]
    exact (cl_mod hp g []).symm
theorem SumI.skip {p : Int} {s : Bg} {us : List Str} {j : Nat} {t : Bg} (h : SumI p s us j t) (hu : us[j]? = some Str.empty) : SumI p s us (j + 1) t := by
  refine ⟨h.nd, fun u => ?_, h.val, Nat.le_succ_of_le h.n⟩
  rw [h.mem, List.take_add_one, hu]
  simp only [Option.toList_some, List.mem_append, List.mem_singleton]
  exact ⟨fun q => q.imp id .inl, fun q => q.elim .inl fun q => q.elim .inr .inl⟩
theorem SumI.back {p : Int} {s : Bg} {us : List Str} {j : Nat} {t : Bg} {u : Str} (h : SumI p s us j t) (hs : us.Pairwise (fun a b => a.length ≤ b.length)) (hc : ∀ u ∈ us, u ≠ Str.empty → ofL u.cps.toList.dropLast ∈ us)
    (hu : us[j]? = some u) (hne : u ≠ Str.empty) : ofL u.cps.toList.dropLast ∈ keys t := by
  refine (h.mem _).mpr (.inr ?_)
  have hm := hc u (List.mem_of_getElem? hu) hne
  obtain ⟨k, hk⟩ := List.getElem?_of_mem hm
  have hkl : k < us.length := by
    rcases Nat.lt_or_ge k us.length with q | q
    · exact q
    · rw [List.getElem?_eq_none q] at hk; cases hk
  have hjl : j < us.length := by
    rcases Nat.lt_or_ge j us.length with q | q
    · exact q
    · rw [List.getElem?_eq_none q] at hu; cases hu
  have hul : 0 < u.length := by
    rcases Nat.eq_zero_or_pos u.length with q | q
    · refine absurd (str_ext ?_) hne
      rw [← str_len] at q
      exact List.length_eq_zero_iff.mp q
    · exact q
  have hlen : (ofL u.cps.toList.dropLast).length = u.length - 1 := by rw [← str_len, toList_ofL, List.length_dropLast, str_len]
  rcases Nat.lt_or_ge k j with q | q
  · exact List.mem_take_iff_getElem.mpr ⟨k, by omega, by rw [List.getElem?_eq_getElem hkl] at hk; exact Option.some.inj hk⟩
  · rcases Nat.lt_or_eq_of_le q with q | q
    · have := (List.pairwise_iff_getElem.mp hs) j k hjl hkl q
      rw [List.getElem?_eq_getElem hkl] at hk
      rw [List.getElem?_eq_getElem hjl] at hu
      rw [Option.some.inj hk, Option.some.inj hu] at this
      omega
    · subst q
      rw [hk] at hu
      rw [Option.some.inj hu] at hlen
      omega
theorem SumI.step {p : Int} {s : Bg} {us : List Str} {j : Nat} {t : Bg} {u : Str} (h : SumI p s us j t) (hb : ofL u.cps.toList.dropLast ∈ keys t) (hu : us[j]? = some u) (hne : u ≠ Str.empty) :
    SumI p s us (j + 1) (putS t u ((cf t (ofL u.cps.toList.dropLast) + cf s u) % p)) := by
  have hk : ∀ x, x ∈ keys (putS t u ((cf t (ofL u.cps.toList.dropLast) + cf s u) % p)) ↔ x ∈ keys t ∨ x = u := fun x => by
    rw [keys_put]
    split
    · exact ⟨.inl, fun q => q.elim id fun e => by rw [e]; assumption⟩
    · rw [List.mem_append, List.mem_singleton]
  refine ⟨nodup_put h.nd, fun x => ?_, fun x hx => ?_, Nat.le_trans (len_put _ _ _) (Nat.succ_le_succ h.n)⟩
  · rw [hk, h.mem, List.take_add_one, hu]
    simp only [Option.toList_some, List.mem_append, List.mem_singleton]
    exact ⟨fun q => q.elim (fun q => q.imp id .inl) fun q => .inr (.inr q), fun q => q.elim (fun q => .inl (.inl q)) fun q => q.imp .inr id⟩
  · rw [cf_put]
    by_cases e : x = u
    · subst e
      rw [if_pos rfl, h.val _ hb, toList_ofL]
      have hl : x.cps.toList ≠ [] := fun e => hne (str_ext e)
      conv => rhs; rw [← List.dropLast_concat_getLast hl, pf_snoc]
      rw [Int.emod_add_emod, List.dropLast_concat_getLast hl]
      unfold cl
      rw [ofL_toList]
    · rw [if_neg e]
      exact h.val x (((hk x).mp hx).elim id fun q => absurd q e)
theorem SumI.done {p : Int} {s : Bg} {us ws : List Str} {t : Bg} (h : SumI p s us us.length t) (hp : us.Perm ws) (hm : ∀ u, u ∈ ws ↔ ∃ v ∈ keys s, u.cps.toList <+: v.cps.toList) (hn : ws.length ≤ 1001000) : Sums p s t := by
  refine ⟨h.nd, fun u => ?_, h.val, ?_⟩
  · rw [h.mem, List.take_length, hp.mem_iff, hm]
  · have := h.n
    rw [hp.length_eq] at this
    omega
def sp_sums (Cs : Addr → Prop) : Sp := fun vs H Q _ => ∃ (x : Addr) (p : Int) (s : Bg), vs = [.ref x] ∧ BagAt Cs H x p s ∧ 0 < p ∧ Good p s ∧ s.length ≤ 1000 ∧ (∀ u ∈ keys s, u.length ≤ 1000) ∧ ∀ d t H', Ex H H' → H d = none → H' d = some (.dK (toK t)) → Sums p s t → Q (.ref d) H'
theorem ok_sums_at_starts {f : Addr} {fd : FuncData} (F : Fun K "sums_at_starts" "sums_at_starts" s_sums_at_starts f fd) (T : Txt K mg C_Bag Cs) : FnOk P w K mg base CX0 4 f fd ["bag"] (sp_sums Cs) := by
  refine F.ok sc_sums_at_starts (fun vs H Q E h => ?_) (fun cdv A outer s H vs Q E hr h => ?_)
  · obtain ⟨x, p, s, rfl, _⟩ := h
    rfl
  · obtain ⟨x, p, s, rfl, hx, hp, gs, hn, hl, k⟩ := h
    obtain ⟨C, dx, d, k1, t1, hc, h1, h2, h3⟩ := hx.ex
    have hxd : x ≠ d := fun e => by subst e; rw [h1] at h2; cases h2
    have hu := hu_of hr; have hu64 := L2.Room.units hr; refine ⟨_, (pss_cons (ps_lockR (ps_setDc2 (i := 1) (own := [("word", 2), ("size", 3)]) (vs1 := [3]) (g := (gName 2)) (g1 := (gName 3)) rfl sc_sums_at_starts.nd rfl rfl rfl (pi_keys (pe_fldK (K := K) rfl (pv 0) rfl)) (blkOk_by (N := N_sums_at_starts) (sc := defScope s_sums_at_starts) (by decide +kernel)) (by decide) (fun _ _ _ _ _ => (pg_name (i := 2) sc_sums_at_starts.nd rfl (by first | exact Or.inl rfl | exact Or.inr rfl))) (fun _ _ _ _ _ => (pi_range1 rfl T.b_range (pa_cons (pe_op op_add (pe_callB call_len_str (by rfl) T.b_len (by decide +kernel) (pa_cons (pv 2) pa_nil)) pe_int) pa_nil))) (fun _ _ _ _ _ => (pg_name (i := 3) sc_sums_at_starts.nd rfl (by first | exact Or.inl rfl | exact Or.inr rfl))) (fun _ _ _ _ _ => (pe_slice sl_str (pv 2) po_none (po_some (pv 3)))) (fun _ _ _ _ _ => pe_bl))) (pss_cons (ps_set (i := 4) sc_sums_at_starts.nd rfl (by first | exact Or.inl rfl | exact Or.inr rfl) (pe_disp (pps_cons pe_str (pe_dget2 hu (pe_fldK (K := K) rfl (pv 0) rfl) pe_str pe_int ⟨rfl, rfl, rfl, rfl⟩) pps_nil) rfl rfl (List.cons_ne_nil _ _) (Nat.le_of_ble_eq_true rfl))) (pss_cons (ps_for PassesOwn.never rfl (pi_list (pe_sortLen (by rfl) T.b_sorted (by decide +kernel) (by rfl) T.b_len (by decide +kernel) (hr.mono (by decide)) (pe_callTy (call_listD rfl) (by rfl) T.b_list (by decide +kernel) (pa_cons (pv 1) pa_nil)))) (pg_name (i := 2) sc_sums_at_starts.nd rfl (by first | exact Or.inl rfl | exact Or.inr rfl)) (pss_one (ps_if (pt_cmpR op_ne (pv 2) pe_str (nomark _)) (pss_one (ps_dput hu (pv 4) (pv 2) (pe_op op_mod (pe_callTy call_int1 (by rfl) T.b_int (by decide +kernel) (pa_cons (pe_op op_add (pe_dget hu (pv 4) (pe_slice sl_str (pv 2) po_none (po_some (pe_un un_neg pe_int))) (fun _ _ => rfl)) (pe_dget2 hu (pe_fldK (K := K) rfl (pv 0) rfl) (pv 2) pe_int ⟨rfl, rfl, rfl, rfl⟩)) pa_nil)) (pe_fldK (K := K) rfl (pv 0) rfl)) rfl)) pss_nil))) (pss_one (ps_ret (pv 4)))))), ?_⟩; rw [st_sums_at_starts]; (try dsimp only [cxOf]); walk_at "go"
    refine lock_asg ?_
    refine dc2_pre (.inl h2) hl hn ?_ (fun _ => rfl) ?_ (fun _ _ => rfl) ?_ ?_ ?_
    · intro H' Q' le q
      have h1' := le.keep _ _ hxd h1
      walk_at "go"
      exact ⟨x, C, dx, _, _, rfl, h1', T.cls C hc, T.n_sparse C hc, bagF_sparse _ _ _ _, q⟩
    · intro u H' R hu q
      walk_at "go"
      refine ⟨u, rfl, line5 (by omega), ?_⟩
      walk_at "go"
      refine ⟨by omega, by omega, ?_⟩
      have : ((u.length : Int) + 1).toNat = u.length + 1 := by omega
      rw [this]
      exact q
    · intro u j H' Q' hu hj q
      walk_at "go"
      refine ⟨u, rfl, line5 (by omega), ?_⟩
      rw [cutS_take u hj]
      exact q
    · intro u j H' Q' q
      exact q
    · intro d1 H1 ws hd1 e1 hd1' hnd hmem hwl
      walk_at "go"
      intro q hq
      walk_at "go"
      have e2 : Ex H (upd H1 q (.dK [])) := e1.trans (Ex.new hq)
      have hqH : H q = none := e1.free hq
      have hxA := e2 _ _ h1
      have hdA := e2 _ _ h2
      refine ⟨x, C, dx, _, _, rfl, hxA, T.cls C hc, T.n_sparse C hc, bagF_sparse _ _ _ _, ?_⟩
      walk_at "go"
      refine ⟨.inl ⟨_, .inl hdA⟩, ?_⟩
      walk_at "go"
      refine ⟨_, .inl ⟨toK s, .inr Str.empty, .inl hdA, rfl, rfl⟩, ?_⟩
      rw [getD_toK]
      walk_at "go"
      refine ⟨upd_same, toK [(Str.empty, cf s Str.empty)], rfl, Nat.le_of_ble_eq_true rfl, ?_⟩
      rw [mergeK_toK (by simp [keys])]
      have e3 : Ex H (upd (upd H1 q (.dK [])) q (.dK (toK [(Str.empty, cf s Str.empty)]))) := Ex.mut e2 hqH
      have hqA : upd (upd H1 q (.dK [])) q (.dK (toK [(Str.empty, cf s Str.empty)])) q = some (.dK (toK [(Str.empty, cf s Str.empty)])) := upd_same
      have hd1q : d1 ≠ q := ne_of_none hd1' hq
      have hd1A : upd (upd H1 q (.dK [])) q (.dK (toK [(Str.empty, cf s Str.empty)])) d1 = some (.dK (trueK ws)) := by rw [upd_ne hd1q, upd_ne hd1q]; exact hd1'
      generalize upd (upd H1 q (.dK [])) q (.dK (toK [(Str.empty, cf s Str.empty)])) = H2 at e3 hqA hd1A ⊢
      unfold tSortLen
      walk_at "go"
      refine ⟨d1, trueK ws, rfl, .inl hd1A, fun l hl0 => ?_⟩
      have hwm : (trueK ws).map (fun kv => kV kv.1) = ws.map V.str := by unfold trueK; rw [List.map_map]; rfl
      rw [hwm]
      walk_at "go"
      refine ⟨l, ws, rfl, SqL.of upd_same, fun u hu => ?_, fun l2 hl2 => ?_⟩
      · obtain ⟨v, hv, hp'⟩ := (hmem u).mp hu
        have h5 := hl v hv
        have h6 := hp'.length_le
        rw [str_len, str_len] at h6
        exact line5 (by omega)
      have hql : q ≠ l := ne_of_none hqA hl0
      have hql2 : q ≠ l2 := ne_of_none (Ex.new hl0 _ _ hqA) hl2
      have e4 := (e3.trans (Ex.new (o := .lst (ws.map V.str)) hl0)).trans (Ex.new (o := .lst ((ordL ws).map V.str)) hl2)
      have hqB : upd (upd H2 l (.lst (ws.map V.str))) l2 (.lst ((ordL ws).map V.str)) q = some (.dK (toK [(Str.empty, cf s Str.empty)])) := by rw [upd_ne hql2, upd_ne hql]; exact hqA
      have hl2B : upd (upd H2 l (.lst (ws.map V.str))) l2 (.lst ((ordL ws).map V.str)) l2 = some (.lst ((ordL ws).map V.str)) := upd_same
      generalize upd (upd H2 l (.lst (ws.map V.str))) l2 (.lst ((ordL ws).map V.str)) = H3 at e4 hqB hl2B ⊢
      refine ⟨l2, rfl, ⟨_, SqL.of hl2B⟩, ?_⟩
      have hperm := ordL_perm ws
      have hclosed : ∀ u ∈ ordL ws, u ≠ Str.empty → ofL u.cps.toList.dropLast ∈ ordL ws := fun u hu _ => by
        obtain ⟨v, hv, hp'⟩ := (hmem u).mp (hperm.mem_iff.mp hu)
        refine hperm.mem_iff.mpr ((hmem _).mpr ⟨v, hv, ?_⟩)
        rw [toList_ofL]
        exact (List.dropLast_prefix _).trans hp'
      refine forG walk_list (fun j σ' H' => (∃ a b, σ' = [some (.ref x), some (.ref d1), a, b, some (.ref q)]) ∧ Ex H H' ∧ H' l2 = some (.lst ((ordL ws).map V.str)) ∧ ∃ t, H' q = some (.dK (toK t)) ∧ SumI p s (ordL ws) j t) ⟨⟨_, _, rfl⟩, e4, hl2B, _, hqB, SumI.start hp gs⟩ (fun j σ' H' _ z => SqL.of z.2.2.1) ?_ ?_
      · rintro j y σ' H4 H5 hj ⟨⟨a, b, rfl⟩, e5, hl5, t, ht, S⟩ ⟨rfl, hy⟩
        rw [List.getElem?_map] at hy
        cases hu : (ordL ws)[j]? with
        | none => rw [hu] at hy; cases hy
        | some u =>
          rw [hu] at hy
          obtain rfl := (Option.some.inj hy).symm
          walk_at "go"
          have hx5 := e5 _ _ h1
          have hd5 := e5 _ _ h2
          by_cases hne : u = Str.empty
          · subst hne
            rw [decide_eq_true (show V.str Str.empty = V.str "" from rfl)]
            walk_at "go"
            exact ⟨⟨_, _, rfl⟩, e5, hl5, t, ht, S.skip hu⟩
          · rw [show decide (V.str u = V.str (Str.ofString "")) = false from decide_eq_false (fun z => hne (V.str.inj z))]
            walk_at "go"
            have hb := S.back (ordL_sorted ws) hclosed hu hne
            have hul : u.length ≤ 1000 := by
              obtain ⟨v, hv, hp'⟩ := (hmem u).mp (hperm.mem_iff.mp (List.mem_of_getElem? hu))
              have h7 := hl v hv
              have h6 := hp'.length_le
              rw [str_len, str_len] at h6
              omega
            refine ⟨u, rfl, line5 (by omega), ?_⟩
            rw [show cutS u none (some (-1)) = ofL u.cps.toList.dropLast from cutS_last u]
            refine g_dg (.inl ht) (getS_keys S.nd hb) ?_
            walk_at "go"
            refine ⟨x, C, dx, _, _, rfl, hx5, T.cls C hc, T.n_sparse C hc, bagF_sparse _ _ _ _, ?_⟩
            walk_at "go"
            refine ⟨.inl ⟨_, .inl hd5⟩, ?_⟩
            walk_at "go"
            refine ⟨_, .inl ⟨toK s, .inr u, .inl hd5, rfl, rfl⟩, ?_⟩
            rw [getD_toK]
            walk_at "go"
            refine ⟨x, C, dx, _, _, rfl, hx5, T.cls C hc, T.n_clock C hc, bagF_clock _ _ _ _, ?_⟩
            walk_at "go"
            have hjl : j < ws.length := by
              rw [List.length_map, hperm.length_eq] at hj
              exact hj
            refine g_dp ht (Nat.lt_of_le_of_lt S.n (by show _ < 2 ^ 24; omega)) ?_
            exact ⟨⟨_, _, rfl⟩, Ex.mut e5 hqH, by rw [upd_ne (Ne.symm hql2)]; exact hl5, _, upd_same, S.step hb hu hne⟩
      · rintro σ' H4 ⟨⟨a, b, rfl⟩, e5, hl5, t, ht, S⟩
        walk_at "go"
        rw [List.length_map] at S
        exact k q t _ e5 hqH ht (S.done hperm hmem hwl)

end
end Fp

namespace Fp
open PySem L2
section
variable {P : Program} {w : World} {K : PySem.W.Frag} {mg : Str → Option Value} {base : Heap} {C_Bag : Addr} {Cs : Addr → Prop}
local macro_rules | `(tactic| walk_at "hp") => `(tactic| first | assumption | rfl)
local macro_rules | `(tactic| walk_at "cond") => `(tactic| first | assumption | decide | omega | (unfold CMul; omega) | (refine ⟨?_, ?_⟩ <;> omega) | (unfold CDiv; omega) | (unfold CPow; omega))
local macro_rules | `(tactic| walk_at "g1") => `(tactic| first
  | with_reducible first
    | refine g_seq ?_ | refine g_asg ?_ | refine g_name ?_ | refine g_ret ?_ | refine g_retN ?_ | refine g_drop ?_ | refine g_ifs ?_
    | refine g_c ?_ | refine g_op ?_ | refine g_un ?_ | refine g_I0 ?_ | refine g_U ?_
    | refine g_test ?_ | refine g_tB ?_ | refine g_bl ?_ | refine g_and ?_ | refine g_or ?_ | refine g_not ?_
    | refine g_andV ?_ | refine g_orV ?_ | refine g_notV ?_ | refine g_if ?_ | refine g_nil ?_ | refine g_cons ?_ | refine g_cb ?_ | refine g_call ?_
    | refine g_lst ?_ | refine g_tup ?_ | refine g_itT ?_ | refine g_itF ?_ | refine g_itNT ?_ | refine g_itNF ?_ | refine g_lc ?_ | refine g_iStr ?_ | refine g_yes ?_ | refine g_exs ?_
    | refine g_chain ?_ | refine g_dget ?_ | refine g_dput ?_ | refine g_dget2 ?_ | refine g_dpop2 ?_ | refine g_fld ?_ | refine g_sfld ?_ | refine g_make ?_ | refine g_meth ?_
    | refine g_bm ?_ | refine g_kw ?_ | refine g_callS ?_ | refine g_revL ?_ | refine g_m1 ?_ | refine g_gsub ?_ | refine g_for ?_ | refine g_iList ?_ | refine g_iTup ?_ | refine g_iRng1 ?_ | refine g_iRng2 ?_ | refine g_sl ?_ | refine g_part ?_ | refine g_noPart ?_
    | refine g_exi ?_ | refine g_exr ?_ | refine g_dnew ?_ | refine g_disp ?_ | refine g_prs0 ?_ | refine g_prs ?_ | refine g_nxt ?_
  | ((with_reducible refine g_var (v := ?vv) ?gv ?_); (case gv => exact rfl))
  | ((with_reducible refine g_I ?gc ?_); (case gc => walk_at "cond"))
  | ((with_reducible refine g_eq ?ge ?_); (case ge => exact rfl))
  | ((with_reducible refine g_ne ?ge ?_); (case ge => exact rfl))
  | (refine g_ixl (SqL.of (by first | assumption | exact upd_same)) rfl ?_)
  | (refine g_setl (by first | assumption | exact upd_same) rfl ?_)
  | ((with_reducible show (∃ i, [V.int _] = [V.int i] ∧ _) ∨ _); refine Or.inl ⟨_, rfl, ?_⟩)
  | ((with_reducible show ∃ i, [V.int _] = [V.int i] ∧ _); refine ⟨_, rfl, ?_⟩)
  | dsimp only)
local macro_rules | `(tactic| walk_at "go") => `(tactic| repeat (walk_at "g1"))

def OneIn (z : Str) (t : Bg) (u : Str) : Prop := cf t u = 1 ∨ ∀ c ∈ z.cps.toList, u ++ chS c ∈ keys t
def sp_comes : Sp := fun vs H Q _ => ∃ (z : Str) (d : Addr) (t : Bg), vs = [.str z, .ref d] ∧ z.length ≤ 3 ∧ Rd H d (.dK (toK t)) ∧ (keys t).Nodup ∧ (∀ u ∈ keys t, u.length ≤ 1000) ∧ ∀ b H', Ex H H' → (b = true ↔ ∀ u ∈ keys t, OneIn z t u) → Q (.bl b) H'
theorem ok_comes_to_one {f : Addr} {fd : FuncData} (F : Fun K "comes_to_one" "comes_to_one" s_comes_to_one f fd) (T : Txt K mg C_Bag Cs) : FnOk P w K mg base CX0 1 f fd ["alphabet", "sums"] sp_comes := by
  refine F.ok sc_comes_to_one (fun vs H Q E h => ?_) (fun cdv A outer s H vs Q E hr h => ?_)
  · obtain ⟨z, d, t, rfl, _⟩ := h
    rfl
  · obtain ⟨z, d, t, rfl, hz, hd, hn, hl, k⟩ := h
    have hu := hu_of hr; have hu64 := L2.Room.units hr; refine ⟨_, (pss_cons (ps_lockR (ps_for PassesOwn.never rfl (pi_keys (pv 1)) (pg_name (i := 2) sc_comes_to_one.nd rfl (by first | exact Or.inl rfl | exact Or.inr rfl)) (pss_one (ps_if (PW.pt (pw_and (pt_cmpR op_ne (pe_dget hu (pv 1) (pv 2) (fun _ _ => rfl)) pe_int (nomark _)) (pw_and1 (pt_not (pt_val (pe_callB (r := rAll K) (cr_all rfl) (by rfl) T.b_all (by decide +kernel) (pa_cons (pe_lc (own := [("letter", 3)]) (g := (gName 3)) (tt := tYes) rfl sc_comes_to_one.nd (pi_str (pv 0)) (blkOk_by (N := N_comes_to_one) (sc := defScope s_comes_to_one) (by decide +kernel)) (fun _ _ _ _ _ => (pg_name (i := 3) sc_comes_to_one.nd rfl (by first | exact Or.inl rfl | exact Or.inr rfl))) (fun _ _ _ _ _ => pts_nil) (fun _ _ _ _ _ => (pe_cmp (pc_din hu (pe_op op_add_str (pv 2) (pv 3)) (pv 1))))) pa_nil))))))) (pss_one (ps_ret pe_bl)) pss_nil)))) (pss_one (ps_ret pe_bl))), ?_⟩; rw [st_comes_to_one]; (try dsimp only [cxOf]); walk_at "go"
    refine for_keysR hd (fun H' Q' _ q => ⟨_, rfl, q⟩) (fun j σ' H' => (∃ a b, σ' = [some (.str z), some (.ref d), a, b]) ∧ ∀ u n, (u, n) ∈ t.take j → OneIn z t u) ⟨⟨none, none, rfl⟩, fun u n h => nomatch h⟩ (fun i σ H H' _ h => h) ?_ ?_
    · rintro j u n σ' H' E hj ⟨⟨a, b, rfl⟩, hI⟩ le hnx hct hrt
      have hcu : cf t u = n := cf_of_mem hn (mem_fr hj)
      have huk : u ∈ keys t := mem_keys.mpr ⟨n, mem_fr hj⟩
      have hul := hl u huk
      have hnext : OneIn z t u → ∀ σ'' H'', (∃ a b, σ'' = [some (.str z), some (.ref d), a, b]) → Ex H' H'' → E.nx σ'' H'' := fun ho σ'' H'' hs e => hnx σ'' H'' ⟨hs, fun u' n' h' => by
        rw [List.take_add_one, hj] at h'
        rcases List.mem_append.mp h' with q | q
        · exact hI u' n' q
        · have : u' = u := by
            have := List.mem_singleton.mp q
            exact congrArg Prod.fst this
          rw [this]
          exact ho⟩ e
      walk_at "go"
      refine g_dg le.self (getS_at hn hj) ?_
      walk_at "go"
      by_cases h1 : n = 1
      · rw [show decide (V.int n = V.int 1) = true from decide_eq_true (by rw [h1])]
        walk_at "go"
        exact hnext (.inl (by rw [hcu, h1])) _ _ ⟨_, _, rfl⟩ (Ex.refl _)
      · rw [show decide (V.int n = V.int 1) = false from decide_eq_false (fun e => h1 (V.int.inj e))]
        walk_at "go"
        have hzs : z.cps.toList.length = z.length := str_len z
        refine lc_pure walk_str ((z.cps.toList.map fun c => decide (u ++ chS c ∈ keys t)).map V.bl) (by rw [List.length_map, List.length_map]; simp) (by show z.length ≤ _; exact line5 (by omega)) (fun _ _ => trivial) (fun _ => rfl) ?_ ?_
        · rintro i2 x y H6 H7 Kc hi2 e6 ⟨rfl, c2, hc2, rfl⟩ hy hk
          have ec : y = V.bl (decide (u ++ chS c2 ∈ keys t)) := by
            rw [List.map_map, List.getElem?_map, Array.getElem?_toList, hc2] at hy
            exact (Option.some.inj hy).symm
          subst ec
          have hd6 := (le.ex e6).self
          show tOp _ _ _ _ _ _
          walk_at "go"
          refine ⟨u, ⟨#[c2]⟩, rfl, rfl, line5 (by show u.length + 1 ≤ _; omega), ?_⟩
          walk_at "go"
          refine ⟨d, valV (toK t) (Sum.inr (u ++ chS c2) : Key), rfl, .inl ⟨toK t, Sum.inr (u ++ chS c2), hd6, rfl, rfl⟩, ?_⟩
          have eb : (valV (toK t) (Sum.inr (u ++ chS c2) : Key)).isSome = decide (u ++ chS c2 ∈ keys t) := by
            rw [valV_toK]
            by_cases hm : u ++ chS c2 ∈ keys t
            · rw [getS_keys hn hm, decide_eq_true hm]
              rfl
            · rw [getS_none.mpr hm, decide_eq_false hm]
              rfl
          rw [eb]
          exact hk _ (Ex.refl _)
        · intro D H6 hD e6 hl6
          walk_at "go"
          refine ⟨D, z.cps.toList.map fun c => decide (u ++ chS c ∈ keys t), rfl, SqL.of hl6, ?_⟩
          by_cases hall : ∀ c ∈ z.cps.toList, u ++ chS c ∈ keys t
          · have : (z.cps.toList.map fun c => decide (u ++ chS c ∈ keys t)).all id = true := by
              rw [List.all_map]
              exact List.all_eq_true.mpr fun c hc => decide_eq_true (hall c hc)
            rw [this]
            walk_at "go"
            exact hnext (.inr hall) _ _ ⟨_, _, rfl⟩ e6
          · have : (z.cps.toList.map fun c => decide (u ++ chS c ∈ keys t)).all id = false := by
              rw [List.all_map]
              refine Bool.eq_false_iff.mpr fun q => hall fun c hc => ?_
              exact of_decide_eq_true (List.all_eq_true.mp q c hc)
            rw [this]
            walk_at "go"
            refine hrt _ _ e6 fun H3 e3 => k false H3 e3 (iff_of_false Bool.false_ne_true fun q => ?_)
            rcases q u huk with q | q
            · exact h1 (by rw [← hcu]; exact q)
            · exact hall q
    · rintro σ' H' ⟨⟨a, b, rfl⟩, hI⟩ e
      walk_at "go"
      refine k true _ e (iff_of_true rfl fun u hu => ?_)
      obtain ⟨n, hn'⟩ := mem_keys.mp hu
      rw [List.take_length] at hI
      exact hI u n hn'

end
end Fp

namespace Fp
open PySem L2
section
variable {P : Program} {w : World} {K : PySem.W.Frag} {mg : Str → Option Value} {base : Heap} {C_Bag : Addr} {Cs : Addr → Prop}
local macro_rules | `(tactic| walk_at "hp") => `(tactic| first | assumption | rfl)
local macro_rules | `(tactic| walk_at "cond") => `(tactic| first | assumption | decide | omega | (unfold CMul; omega) | (refine ⟨?_, ?_⟩ <;> omega) | (unfold CDiv; omega) | (unfold CPow; omega))
local macro_rules | `(tactic| walk_at "g1") => `(tactic| first
  | with_reducible first
    | refine g_seq ?_ | refine g_asg ?_ | refine g_name ?_ | refine g_ret ?_ | refine g_retN ?_ | refine g_drop ?_ | refine g_ifs ?_
    | refine g_c ?_ | refine g_op ?_ | refine g_un ?_ | refine g_I0 ?_ | refine g_U ?_
    | refine g_test ?_ | refine g_tB ?_ | refine g_bl ?_ | refine g_and ?_ | refine g_or ?_ | refine g_not ?_
    | refine g_andV ?_ | refine g_orV ?_ | refine g_notV ?_ | refine g_if ?_ | refine g_nil ?_ | refine g_cons ?_ | refine g_cb ?_ | refine g_call ?_
    | refine g_lst ?_ | refine g_tup ?_ | refine g_itT ?_ | refine g_itF ?_ | refine g_itNT ?_ | refine g_itNF ?_ | refine g_lc ?_ | refine g_iStr ?_ | refine g_yes ?_ | refine g_exs ?_
    | refine g_chain ?_ | refine g_dget ?_ | refine g_dput ?_ | refine g_dget2 ?_ | refine g_dpop2 ?_ | refine g_fld ?_ | refine g_sfld ?_ | refine g_make ?_ | refine g_meth ?_
    | refine g_bm ?_ | refine g_kw ?_ | refine g_callS ?_ | refine g_revL ?_ | refine g_m1 ?_ | refine g_gsub ?_ | refine g_for ?_ | refine g_iList ?_ | refine g_iTup ?_ | refine g_iRng1 ?_ | refine g_iRng2 ?_ | refine g_sl ?_ | refine g_part ?_ | refine g_noPart ?_
    | refine g_exi ?_ | refine g_exr ?_ | refine g_dnew ?_ | refine g_disp ?_ | refine g_prs0 ?_ | refine g_prs ?_ | refine g_nxt ?_
  | ((with_reducible refine g_var (v := ?vv) ?gv ?_); (case gv => exact rfl))
  | ((with_reducible refine g_I ?gc ?_); (case gc => walk_at "cond"))
  | ((with_reducible refine g_eq ?ge ?_); (case ge => exact rfl))
  | ((with_reducible refine g_ne ?ge ?_); (case ge => exact rfl))
  | (refine g_ixl (SqL.of (by first | assumption | exact upd_same)) rfl ?_)
  | (refine g_setl (by first | assumption | exact upd_same) rfl ?_)
  | ((with_reducible show (∃ i, [V.int _] = [V.int i] ∧ _) ∨ _); refine Or.inl ⟨_, rfl, ?_⟩)
  | ((with_reducible show ∃ i, [V.int _] = [V.int i] ∧ _); refine ⟨_, rfl, ?_⟩)
  | dsimp only)
local macro_rules | `(tactic| walk_at "go") => `(tactic| repeat (walk_at "g1"))

theorem Sums.tree {p : Int} {s t : Bg} (h : Sums p s t) : Tree (cl s) fun l => ofL l ∈ keys t where
  nil := (h.mem _).mpr (.inl rfl)
  pre := fun a c hk => by
    rcases (h.mem _).mp hk with q | ⟨v, hv, hp⟩
    · have := congrArg (fun u : Str => u.cps.toList.length) q
      change (a ++ [c]).length = 0 at this
      rw [List.length_append] at this
      cases this
    · refine (h.mem _).mpr (.inr ⟨v, hv, ?_⟩)
      rw [toList_ofL] at hp ⊢
      exact List.IsPrefix.trans ⟨[c], rfl⟩ hp
  has := fun l hl => by
    refine (h.mem _).mpr (.inr ⟨ofL l, ?_, List.prefix_refl _⟩)
    refine Classical.byContradiction fun hn => hl ?_
    exact cf_not_mem hn
theorem Sums.full {p : Int} {s t : Bg} {z : Str} {n : Nat} (h : Sums p s t) (hz : Alph z) (hs : ∀ u ∈ keys s, u.length ≤ n) (ho : ∀ u ∈ keys s, OverS z u) : (∀ u ∈ keys t, OneIn z t u) ↔ Full p z.cps.toList (cl s) := by
  have hzl : z.cps.toList.length = z.length := str_len z
  have h2 := hz.two
  obtain ⟨c0, h0⟩ : ∃ c, c ∈ z.cps.toList := by
    cases q : z.cps.toList with
    | nil => rw [q] at hzl; simp at hzl; omega
    | cons c r => exact ⟨c, List.mem_cons_self⟩
  have hpre : ∀ u ∈ keys t, OverS z u ∧ u.length ≤ n := fun u hu => by
    rcases (h.mem u).mp hu with rfl | ⟨v, hv, hp⟩
    · exact ⟨(fun _ z => nomatch z), Nat.zero_le _⟩
    · obtain ⟨m, hm⟩ := hp
      have e := ho v hv
      have hl := hs v hv
      rw [← str_len, ← hm, List.length_append] at hl
      unfold OverS at e
      rw [← hm] at e
      exact ⟨e.left, by rw [← str_len]; omega⟩
  rw [full_tree h0 (len_keys hs) h.tree fun l hl => by have := (hpre _ hl).2; rwa [← str_len, toList_ofL] at this]
  constructor
  · intro q l hl hk
    rcases q _ hk with q | q
    · left
      rw [h.val _ hk, toList_ofL] at q
      exact q
    · right
      intro d hd
      have := q d hd
      rwa [show ofL l ++ chS d = ofL (l ++ [d]) from (ofL_app l [d]).symm] at this
  · intro q u hu
    have hk : ofL u.cps.toList ∈ keys t := by rw [ofL_toList]; exact hu
    rcases q u.cps.toList (hpre u hu).1 hk with q | q
    · left
      rw [h.val _ hu]
      exact q
    · right
      intro d hd
      have := q d hd
      rwa [ofL_app, ofL_toList] at this
def sp_is_full (Cs : Addr → Prop) : Sp := fun vs H Q _ => ∃ (z : Str) (x : Addr) (p : Int) (s : Bg), vs = [.str z, .ref x] ∧ inAlph z ∧ BagAt Cs H x p s ∧ 0 < p ∧ Good p s ∧ s.length ≤ 1000 ∧ (∀ u ∈ keys s, u.length ≤ 999) ∧
  ∀ b H', Ex H H' → (b = true ↔ (∀ u ∈ keys s, OverS z u) ∧ Full p z.cps.toList (cl s)) → Q (.bl b) H'

end
end Fp

/-! The first word of so many letters that does not come to 1. -/
namespace Fp
open PySem L2
def opV : Option (List Nat) → V
  | none => .non
  | some w => .str (ofL w)
def bad (p : Int) (F : List Nat → Int) (w : List Nat) : Bool := decide (pf F w % p ≠ 1)
/-- the words that go on from u by k letters, in order -/
def goOn (z u : List Nat) (k : Nat) : List (List Nat) := (allw z k).map fun w => u ++ w
theorem allw_front (z : List Nat) : ∀ k, allw z (k + 1) = z.flatMap fun c => (allw z k).map fun w => c :: w
  | 0 => by
    show ([[]] : List (List Nat)).flatMap (fun w => z.map fun c => w ++ [c]) = z.flatMap fun c => ([[]] : List (List Nat)).map fun w => c :: w
    simp [List.flatMap_cons, List.flatMap_nil]
    induction z with
    | nil => rfl
    | cons c z ih => simp [List.flatMap_cons, ih]
  | k + 1 => by
    show (allw z (k + 1)).flatMap (fun w => z.map fun c => w ++ [c]) = _
    conv => lhs; rw [allw_front z k, List.flatMap_assoc]
    congr 1
    funext c
    rw [List.flatMap_map]
    show _ = ((allw z k).flatMap fun w => z.map fun d => w ++ [d]).map fun w => c :: w
    rw [List.map_flatMap]
    congr 1
    funext w
    rw [List.map_map]
    rfl
theorem goOn_zero (z u : List Nat) : goOn z u 0 = [u] := by unfold goOn allw; simp
theorem goOn_succ (z u : List Nat) (k : Nat) : goOn z u (k + 1) = z.flatMap fun c => goOn z (u ++ [c]) k := by
  unfold goOn
  rw [allw_front, List.map_flatMap]
  congr 1
  funext c
  rw [List.map_map]
  refine List.map_congr_left fun w _ => ?_
  show u ++ c :: w = u ++ [c] ++ w
  simp
theorem goOn_nil (z : List Nat) (k : Nat) : goOn z [] k = allw z k := by unfold goOn; simp
/-- the first of them -/
theorem goOn_head {z : List Nat} {c0 : Nat} {r : List Nat} (hz : z = c0 :: r) (u : List Nat) : ∀ k, (goOn z u k).head? = some (u ++ List.replicate k c0)
  | 0 => by rw [goOn_zero]; simp
  | k + 1 => by
    have := goOn_head hz (u ++ [c0]) k
    rw [goOn_succ]
    conv => lhs; rw [hz]
    rw [List.flatMap_cons, List.head?_append, ← hz, this]
    simp [List.replicate_succ]
theorem find_head {α : Type} {q : α → Bool} {l : List α} {a : α} (h : l.head? = some a) (ha : q a = true) : l.find? q = some a := by
  cases l with
  | nil => cases h
  | cons b l =>
    obtain rfl := Option.some.inj h
    rw [List.find?_cons, ha]
theorem goOn_len {z u w : List Nat} {k : Nat} (h : w ∈ goOn z u k) : w.length = u.length + k ∧ ∃ v, w = u ++ v ∧ OverL z v := by
  obtain ⟨v, hv, rfl⟩ := List.mem_map.mp h
  obtain ⟨h1, h2⟩ := mem_allw.mp hv
  exact ⟨by rw [List.length_append, h1], v, rfl, h2⟩
/-- nothing goes on from u ++ [c] -/
theorem goOn_flat {F : List Nat → Int} {K : List Nat → Prop} {p : Int} (t : Tree F K) {z u : List Nat} {c k : Nat} (h : ¬ K (u ++ [c])) {w : List Nat} (hw : w ∈ goOn z (u ++ [c]) k) : pf F w % p = pf F u % p := by
  obtain ⟨_, v, rfl, _⟩ := goOn_len hw
  rw [List.append_assoc, List.singleton_append, t.out h v]
/-- full, as the first word that is not met tells -/
theorem full_find {p : Int} {z : List Nat} {F : List Nat → Int} {c n m : Nat} (hc : c ∈ z) (hn : Len F n) (hm : n ≤ m) : Full p z F ↔ (allw z m).find? (bad p F) = none := by
  rw [full_iff hc hn hm, List.find?_eq_none]
  constructor
  · intro h w hw
    obtain ⟨h1, h2⟩ := mem_allw.mp hw
    unfold bad
    rw [decide_eq_true_iff]
    exact fun q => q (h w h2 h1)
  · intro h l hl hll
    have := h l (mem_allw.mpr ⟨hll, hl⟩)
    unfold bad at this
    rw [decide_eq_true_iff] at this
    exact Classical.not_not.mp this
end Fp

/-! A letter so many times. -/
namespace Fp
open PySem L2
theorem fold_rep (c : Nat) : ∀ (n : Nat) (a : Array Nat), (List.replicate n (#[c] : Array Nat)).foldl (· ++ ·) a = a ++ (List.replicate n c).toArray
  | 0, a => by simp
  | n + 1, a => by
    rw [List.replicate_succ, List.foldl_cons, fold_rep c n, List.replicate_succ]
    apply Array.ext'
    simp
def rMulS : R2 := fun x y H Q => ∃ (c n : Nat), x = .str (chS c) ∧ y = .int (n : Int) ∧ n ≤ 1000 ∧ Q (.str (ofL (List.replicate n c))) H
theorem op_mulS {X : L2.Cx} : OpR X (binaryOp .Mult) rMulS := by
  intro pins s σ H x y v u Q I rx ry h
  obtain ⟨c, n, rfl, rfl, hn, q⟩ := h
  obtain ⟨t, rfl⟩ := rx
  obtain ⟨t', rfl⟩ := ry
  have hlen : (chS c).length = 1 := rfl
  refine P.mul_str (by rw [decide_eq_false (by omega), decide_eq_false (by omega)]; rfl) (fun h1 _ => ?_) (fun h1 _ => ?_) ?_
  · rw [hlen]
    have h2 : 1 ≤ (2 ^ 63 - 1 : Int) / n := by
      rw [Int.le_ediv_iff_mul_le (by omega)]
      omega
    show ¬ (1 : Int) > _
    omega
  · rw [hlen]
    exact decide_eq_false (by show ¬ 1 * ((n : Int)).toNat > 2 ^ 24; omega)
  · by_cases h0 : (n : Int) < 1
    · rw [if_pos h0]
      have : n = 0 := by omega
      subst this
      exact ⟨by decide, .str Str.empty, H, I.tok _, ⟨_, rfl⟩, q⟩
    · rw [if_neg h0]
      by_cases h1 : n = 1
      · subst h1
        rw [if_pos (by rfl)]
        exact ⟨.str (chS c), H, I, ⟨_, rfl⟩, q⟩
      · rw [if_neg (by rw [hlen]; simp; omega)]
        have e : (⟨(List.replicate ((n : Int)).toNat (chS c).cps).foldl (· ++ ·) #[]⟩ : Str) = ofL (List.replicate n c) := by
          refine str_ext ?_
          show ((List.replicate ((n : Int)).toNat (#[c] : Array Nat)).foldl (· ++ ·) #[]).toList = _
          rw [fold_rep, Int.toNat_natCast]
          simp [toList_ofL]
        rw [e]
        refine ⟨?_, .str (ofL (List.replicate n c)), H, I.tok _, ⟨_, rfl⟩, q⟩
        rw [← str_len, toList_ofL, List.length_replicate]
        exact line5 (by omega)
theorem find_flat {α β : Type} {q : β → Bool} {g : α → List β} {l1 l2 : List α} {c : α} {b : β} (h : ∀ x ∈ l1, (g x).find? q = none) (hc : (g c).find? q = some b) : ((l1 ++ c :: l2).flatMap g).find? q = some b := by
  rw [List.flatMap_append, List.find?_append, List.flatMap_cons, List.find?_append, hc]
  have : (l1.flatMap g).find? q = none := by
    rw [List.find?_eq_none]
    intro x hx
    obtain ⟨a, ha, hxa⟩ := List.mem_flatMap.mp hx
    exact List.find?_eq_none.mp (h a ha) x hxa
  rw [this]
  rfl
theorem find_flat_none {α β : Type} {q : β → Bool} {g : α → List β} {l : List α} (h : ∀ x ∈ l, (g x).find? q = none) : (l.flatMap g).find? q = none := by
  rw [List.find?_eq_none]
  intro x hx
  obtain ⟨a, ha, hxa⟩ := List.mem_flatMap.mp hx
  exact List.find?_eq_none.mp (h a ha) x hxa
end Fp

namespace Fp
open PySem L2
section
variable {P : Program} {w : World} {K : PySem.W.Frag} {mg : Str → Option Value} {base : Heap} {C_Bag : Addr} {Cs : Addr → Prop}
local macro_rules | `(tactic| walk_at "hp") => `(tactic| first | assumption | rfl)
local macro_rules | `(tactic| walk_at "cond") => `(tactic| first | assumption | decide | omega | (unfold CMul; omega) | (refine ⟨?_, ?_⟩ <;> omega) | (unfold CDiv; omega) | (unfold CPow; omega))
local macro_rules | `(tactic| walk_at "g1") => `(tactic| first
  | with_reducible first
    | refine g_seq ?_ | refine g_asg ?_ | refine g_name ?_ | refine g_ret ?_ | refine g_retN ?_ | refine g_drop ?_ | refine g_ifs ?_
    | refine g_c ?_ | refine g_op ?_ | refine g_un ?_ | refine g_I0 ?_ | refine g_U ?_
    | refine g_test ?_ | refine g_tB ?_ | refine g_bl ?_ | refine g_and ?_ | refine g_or ?_ | refine g_not ?_
    | refine g_andV ?_ | refine g_orV ?_ | refine g_notV ?_ | refine g_if ?_ | refine g_nil ?_ | refine g_cons ?_ | refine g_cb ?_ | refine g_call ?_
    | refine g_lst ?_ | refine g_tup ?_ | refine g_itT ?_ | refine g_itF ?_ | refine g_itNT ?_ | refine g_itNF ?_ | refine g_lc ?_ | refine g_iStr ?_ | refine g_yes ?_ | refine g_exs ?_
    | refine g_chain ?_ | refine g_dget ?_ | refine g_dput ?_ | refine g_dget2 ?_ | refine g_dpop2 ?_ | refine g_fld ?_ | refine g_sfld ?_ | refine g_make ?_ | refine g_meth ?_
    | refine g_bm ?_ | refine g_kw ?_ | refine g_callS ?_ | refine g_revL ?_ | refine g_m1 ?_ | refine g_gsub ?_ | refine g_for ?_ | refine g_iList ?_ | refine g_iTup ?_ | refine g_iRng1 ?_ | refine g_iRng2 ?_ | refine g_sl ?_ | refine g_part ?_ | refine g_noPart ?_
    | refine g_exi ?_ | refine g_exr ?_ | refine g_dnew ?_ | refine g_disp ?_ | refine g_prs0 ?_ | refine g_prs ?_ | refine g_nxt ?_
  | ((with_reducible refine g_var (v := ?vv) ?gv ?_); (case gv => exact rfl))
  | ((with_reducible refine g_I ?gc ?_); (case gc => walk_at "cond"))
  | ((with_reducible refine g_eq ?ge ?_); (case ge => exact rfl))
  | ((with_reducible refine g_ne ?ge ?_); (case ge => exact rfl))
  | (refine g_ixl (SqL.of (by first | assumption | exact upd_same)) rfl ?_)
  | (refine g_setl (by first | assumption | exact upd_same) rfl ?_)
  | ((with_reducible show (∃ i, [V.int _] = [V.int i] ∧ _) ∨ _); refine Or.inl ⟨_, rfl, ?_⟩)
  | ((with_reducible show ∃ i, [V.int _] = [V.int i] ∧ _); refine ⟨_, rfl, ?_⟩)
  | dsimp only)
local macro_rules | `(tactic| walk_at "go") => `(tactic| repeat (walk_at "g1"))

local macro_rules | `(tactic| walk_at "ex") => `(tactic| first
  | assumption
  | exact Ex.refl _
  | (refine Ex.trans ?_ (by assumption); walk_at "ex")
  | (refine BagAt.ex' (by assumption) ?_; walk_at "ex")
  | (refine TapeAt.ex' (by assumption) ?_; walk_at "ex")
  | (refine Ex.at' (by assumption) ?_; walk_at "ex")
  | (refine SqL.of ?_; walk_at "ex")
  | (refine SqT.of ?_; walk_at "ex")
  | (refine Or.inl ?_; walk_at "ex")
  | (refine tape_dk (by assumption) (by assumption) ?_; walk_at "ex"))

/-! ### words that are not met -/
def sp_least (m : Nat) : Sp := fun vs H Q _ => ∃ (z : Str) (d : Addr) (t : Bg) (u : Str) (n : Nat) (p : Int) (s : Bg), vs = [.str z, .ref d, .str u, .int n] ∧ Alph z ∧ Rd H d (.dK (toK t)) ∧ Sums p s t ∧ u ∈ keys t ∧ u.length ≤ n ∧ n + 1 ≤ u.length + m ∧ n ≤ 999 ∧
  ∀ H', Ex H H' → Q (opV ((goOn z.cps.toList u.cps.toList (n - u.length)).find? (bad p (cl s)))) H'
structure SelfOk (K : PySem.W.Frag) (mg : Str → Option Value) (f : Addr) (fd : FuncData) (nm : Str) (ps : List Str) : Prop where
  g : mg nm = some (.ref f)
  k : PySem.W.keepIn K (.ref f) = true
  b : L2.Binds K fd ps []
theorem least_m_ok {f : Addr} {fd : FuncData} (F : Fun K "least_unmet" "least_unmet" s_least_unmet f fd) (T : Txt K mg C_Bag Cs) (S : SelfOk K mg f fd "least_unmet" ["alphabet", "sums", "word", "most"]) : ∀ m, FnOk P w K mg base CX0 (m + 1) f fd ["alphabet", "sums", "word", "most"] (sp_least m) := by
  intro m
  induction m with
  | zero =>
    refine F.ok sc_least_unmet (fun vs H Q E h => ?_) (fun cdv A outer s0 H vs Q E hr h => ?_)
    · obtain ⟨z, d, t, u, n, p, s, rfl, _⟩ := h
      rfl
    · obtain ⟨z, d, t, u, n, p, s, rfl, hz, hd, S, hu, hun, hm, hn, k⟩ := h
      omega
  | succ m ih =>
    have D_least_unmet : DefOk P w K mg base CX0 (m + 1) "least_unmet" ["alphabet", "sums", "word", "most"] (sp_least m) := ⟨⟨f, fd, S.g, S.k, S.b, ih⟩⟩
    refine F.ok sc_least_unmet (fun vs H Q E h => ?_) (fun cdv A outer s0 H vs Q E hr h => ?_)
    · obtain ⟨z, d, t, u, n, p, s, rfl, _⟩ := h
      rfl
    · obtain ⟨z, d, t, u, n, p, s, rfl, hz, hd, S, huk, hun, hm, hn, k⟩ := h
      have hzl : z.cps.toList.length = z.length := str_len z
      have hz3 := hz.le
      have hval := S.val u huk
      have hu := hu_of hr; have hu64 := L2.Room.units hr; refine ⟨_, (pss_cons (ps_if (pt_cmpR op_eq (pe_callB call_len_str (by rfl) T.b_len (by decide +kernel) (pa_cons (pv 2) pa_nil)) (pv 3) (nomark _)) (pss_one (ps_ret (pe_ifExp (pt_cmpR op_ne (pe_dget hu (pv 1) (pv 2) (fun _ _ => rfl)) pe_int (nomark _)) (pv 2) pe_non))) pss_nil) (pss_cons (ps_for PassesOwn.never rfl (pi_str (pv 0)) (pg_name (i := 4) sc_least_unmet.nd rfl (by first | exact Or.inl rfl | exact Or.inr rfl)) (pss_cons (ps_set (i := 5) sc_least_unmet.nd rfl (by first | exact Or.inl rfl | exact Or.inr rfl) (pe_op op_add_str (pv 2) (pv 4))) (pss_one (ps_if (pt_cmp (pc_din hu (pv 5) (pv 1))) (pss_cons (ps_set (i := 6) sc_least_unmet.nd rfl (by first | exact Or.inl rfl | exact Or.inr rfl) (pe_callD D_least_unmet (hr.mono (by omega)) rfl pass0 (pa_cons (pv 0) (pa_cons (pv 1) (pa_cons (pv 5) (pa_cons (pv 3) pa_nil)))))) (pss_one (ps_if (pt_cmpR op_notN (pv 6) pe_non (nomark _)) (pss_one (ps_ret (pv 6))) pss_nil))) (pss_one (ps_if (pt_cmpR op_ne (pe_dget hu (pv 1) (pv 2) (fun _ _ => rfl)) pe_int (nomark _)) (pss_one (ps_ret (pe_op op_add_str (pv 5) (pe_op (r := rMulS) op_mulS (pe_ix (r := rIxS) ix_str (pv 0) pe_int (fun _ _ => rfl)) (pe_op op_sub (pv 3) (pe_callB call_len_str (by rfl) T.b_len (by decide +kernel) (pa_cons (pv 5) pa_nil))))))) pss_nil)))))) (pss_one (ps_ret pe_non)))), ?_⟩; rw [st_least_unmet]; (try dsimp only [cxOf]); walk_at "go"
      refine ⟨u, rfl, line5 (by omega), ?_⟩
      walk_at "go"
      have hbad : ∀ w, pf (cl s) w % p = cf t u → bad p (cl s) w = decide (cf t u ≠ 1) := fun w e => by unfold bad; rw [e]
      by_cases hnu : u.length = n
      · rw [show decide (V.int (u.length : Int) = V.int (n : Int)) = true from decide_eq_true (by rw [hnu])]
        walk_at "go"
        refine g_dg hd (getS_keys S.nd huk) ?_
        walk_at "go"
        rw [show n - u.length = 0 from by omega, goOn_zero] at k
        by_cases h1 : cf t u = 1
        · rw [show decide (V.int (cf t u) = V.int 1) = true from decide_eq_true (by rw [h1])]
          walk_at "go"
          rw [List.find?_cons, hbad _ hval.symm, decide_eq_false (fun q => q h1)] at k
          exact k H (Ex.refl _)
        · rw [show decide (V.int (cf t u) = V.int 1) = false from decide_eq_false (fun e => h1 (V.int.inj e))]
          walk_at "go"
          rw [List.find?_cons, hbad _ hval.symm, decide_eq_true h1] at k
          have := k H (Ex.refl _)
          change Q (.str (ofL u.cps.toList)) H at this
          rwa [ofL_toList] at this
      · rw [show decide (V.int (u.length : Int) = V.int (n : Int)) = false from decide_eq_false (fun e => hnu (by have := V.int.inj e; omega))]
        walk_at "go"
        obtain ⟨j, hj⟩ : ∃ j, n - u.length = j + 1 := ⟨n - u.length - 1, by omega⟩
        rw [hj, goOn_succ] at k
        have tree := S.tree
        refine forG walk_str (fun i σ' H' => (∃ a b c, σ' = [some (.str z), some (.ref d), some (.str u), some (.int n), a, b, c]) ∧ Ex H H' ∧ ∀ c ∈ z.cps.toList.take i, (goOn z.cps.toList (u.cps.toList ++ [c]) j).find? (bad p (cl s)) = none) ⟨⟨_, _, _, rfl⟩, Ex.refl _, fun c hc => nomatch hc⟩ (fun _ _ _ _ _ => trivial) ?_ ?_
        · rintro i y σ' H1 H2 hi ⟨⟨a, b, c', rfl⟩, e1, hI⟩ ⟨rfl, c, hc, rfl⟩
          have hcl : z.cps.toList[i]? = some c := by rw [Array.getElem?_toList]; exact hc
          have hsplit : z.cps.toList = z.cps.toList.take i ++ c :: z.cps.toList.drop (i + 1) := by
            have hil : i < z.cps.toList.length := by
              rcases Nat.lt_or_ge i z.cps.toList.length with q | q
              · exact q
              · rw [List.getElem?_eq_none q] at hcl; cases hcl
            have : z.cps.toList[i] = c := by rw [List.getElem?_eq_getElem hil] at hcl; exact Option.some.inj hcl
            rw [← this, List.getElem_cons_drop, List.take_append_drop]
          have hnext : (goOn z.cps.toList (u.cps.toList ++ [c]) j).find? (bad p (cl s)) = none → ∀ c ∈ z.cps.toList.take (i + 1), (goOn z.cps.toList (u.cps.toList ++ [c]) j).find? (bad p (cl s)) = none := fun h0 x hx => by
            rw [List.take_add_one, hcl] at hx
            rcases List.mem_append.mp hx with q | q
            · exact hI x q
            · rw [List.mem_singleton.mp q]; exact h0
          have hret : ∀ w, (goOn z.cps.toList (u.cps.toList ++ [c]) j).find? (bad p (cl s)) = some w → ∀ H', Ex H H' → Q (.str (ofL w)) H' := fun w hw H' e => by
            have h9 := k H' e
            have h8 : (z.cps.toList.flatMap fun c => goOn z.cps.toList (u.cps.toList ++ [c]) j).find? (bad p (cl s)) = some w := by
              have := find_flat (g := fun c => goOn z.cps.toList (u.cps.toList ++ [c]) j) (l2 := z.cps.toList.drop (i + 1)) hI hw
              rwa [← hsplit] at this
            rw [h8] at h9
            exact h9
          have elong : (u ++ chS c : Str) = ofL (u.cps.toList ++ [c]) := by rw [ofL_app, ofL_toList]; rfl
          have hllen : (u ++ chS c : Str).length = u.length + 1 := by rw [len_app]; rfl
          walk_at "go"
          refine ⟨u, ⟨#[c]⟩, rfl, rfl, line5 (by show u.length + 1 ≤ _; omega), ?_⟩
          walk_at "go"
          unfold tDIn
          walk_at "go"
          refine ⟨d, valV (toK t) (Sum.inr (u ++ chS c) : Key), rfl, .inl ⟨toK t, Sum.inr (u ++ chS c), e1.rd hd, rfl, rfl⟩, ?_⟩
          by_cases hin : u ++ chS c ∈ keys t
          · have eb : (valV (toK t) (Sum.inr (u ++ chS c) : Key)).isSome = true := by rw [valV_toK, getS_keys S.nd hin]; rfl
            rw [eb]
            walk_at "go"
            refine ⟨z, d, t, u ++ chS c, n, p, s, rfl, hz, e1.rd hd, S, hin, by omega, by omega, hn, fun H3 e3 => ?_⟩
            have e4 : n - (u ++ chS c : Str).length = j := by omega
            have e5 : (u ++ chS c : Str).cps.toList = u.cps.toList ++ [c] := by rw [elong, toList_ofL]
            rw [e4, e5]
            cases hf : (goOn z.cps.toList (u.cps.toList ++ [c]) j).find? (bad p (cl s)) with
            | none =>
              walk_at "go"
              refine ⟨rfl, false, rfl, ?_⟩
              rw [if_neg Bool.false_ne_true]
              exact ⟨⟨_, _, _, rfl⟩, e1.trans e3, hnext hf⟩
            | some w =>
              walk_at "go"
              refine ⟨rfl, true, rfl, ?_⟩
              rw [if_pos rfl]
              exact ⟨_, rfl, hret w hf _ (e1.trans e3)⟩
          · have eb : (valV (toK t) (Sum.inr (u ++ chS c) : Key)).isSome = false := by rw [valV_toK, getS_none.mpr hin]; rfl
            rw [eb]
            have hflat : ∀ w ∈ goOn z.cps.toList (u.cps.toList ++ [c]) j, pf (cl s) w % p = cf t u := fun w hw => by
              rw [hval]
              exact goOn_flat tree (by rw [← elong]; exact hin) hw
            walk_at "go"
            refine g_dg (e1.rd hd) (getS_keys S.nd huk) ?_
            walk_at "go"
            by_cases h1 : cf t u = 1
            · rw [show decide (V.int (cf t u) = V.int 1) = true from decide_eq_true (by rw [h1])]
              walk_at "go"
              refine ⟨⟨_, _, _, rfl⟩, e1, hnext (List.find?_eq_none.mpr fun w hw => ?_)⟩
              rw [hbad w (hflat w hw), decide_eq_false (fun q => q h1)]
              exact Bool.false_ne_true
            · rw [show decide (V.int (cf t u) = V.int 1) = false from decide_eq_false (fun e => h1 (V.int.inj e))]
              walk_at "go"
              obtain ⟨c0, r0, hzc⟩ : ∃ c0 r0, z.cps.toList = c0 :: r0 := by
                have h2 := hz.two
                cases q : z.cps.toList with
                | nil => rw [q] at hzl; simp at hzl; omega
                | cons c r => exact ⟨c, r, rfl⟩
              refine g_ixs (line5 (by omega)) (atI_get (k := 0) (Int.le_refl _) (v := c0) (by rw [hzc]; rfl)) ?_
              walk_at "go"
              refine ⟨u ++ chS c, rfl, line5 (by rw [hllen]; omega), ?_⟩
              walk_at "go"
              have ej : (n : Int) - ((u ++ chS c : Str).length : Int) = ((j : Nat) : Int) := by omega
              refine ⟨c0, j, rfl, by rw [← ej], by omega, ?_⟩
              refine ⟨u ++ chS c, ofL (List.replicate j c0), rfl, rfl, ?_, ?_⟩
              · rw [hllen, ← str_len (ofL _), toList_ofL, List.length_replicate]
                exact line5 (by omega)
              · have hh := goOn_head hzc (u.cps.toList ++ [c]) j
                have hfd : (goOn z.cps.toList (u.cps.toList ++ [c]) j).find? (bad p (cl s)) = some (u.cps.toList ++ [c] ++ List.replicate j c0) := by
                  refine find_head hh ?_
                  rw [hbad _ (hflat _ (by
                    cases q : goOn z.cps.toList (u.cps.toList ++ [c]) j with
                    | nil => rw [q] at hh; cases hh
                    | cons a r => rw [q] at hh; rw [← Option.some.inj hh]; exact List.mem_cons_self)), decide_eq_true h1]
                have := hret _ hfd H2 e1
                rwa [show (ofL (u.cps.toList ++ [c] ++ List.replicate j c0)) = u ++ chS c ++ ofL (List.replicate j c0) from by rw [ofL_app, ← elong]] at this
        · rintro σ' H1 ⟨⟨a, b, c', rfl⟩, e1, hI⟩
          walk_at "go"
          have hall : (z.cps.toList.flatMap fun c => goOn z.cps.toList (u.cps.toList ++ [c]) j).find? (bad p (cl s)) = none := by
            refine find_flat_none fun x hx => hI x ?_
            rw [List.take_of_length_le (by show z.cps.toList.length ≤ z.cps.size; simp)]
            exact hx
          have h9 := k H1 e1
          rw [hall] at h9
          exact h9
theorem ok_least_unmet {f : Addr} {fd : FuncData} (F : Fun K "least_unmet" "least_unmet" s_least_unmet f fd) (T : Txt K mg C_Bag Cs) (SELF : SelfOk K mg f fd "least_unmet" ["alphabet", "sums", "word", "most"]) : FnOk P w K mg base CX0 14 f fd ["alphabet", "sums", "word", "most"] (sp_least 13) := least_m_ok F T SELF 13

end
end Fp

/-! an exception's own __init__ that says super().__init__(text) and keeps one field: its promise -/
namespace Fp
open PySem PySem.Spec PyProof.Rows L2
section
variable {P : Program} {w : World} {K : PySem.W.Frag} {mg : Str → Option Value} {base : Heap} {qual : Str} {scope : Scope} {f cda cc : Addr} {A : Around} {outer : List Env} {s : Shared} {H : Hp} {N : List Str}
abbrev envS (qual : Str) (scope : Scope) (L f cda cc : Addr) : Env := PySem.W.ksEnv qual scope L f (.ref cda) cc
/-- the context of such a body -/
def cxS (P : Program) (w : World) (K : PySem.W.Frag) (mg : Str → Option Value) (base : Heap) (N : List Str) (qual : Str) (scope : Scope) (f cda cc : Addr) (A : Around) (outer : List Env) (s : Shared) (H : Hp) : Cx where
  prog := P
  w := w
  K := K
  mg := mg
  base := base
  A := A.deeper (envS qual scope s.heap.objs.size f cda cc)
  N := N
  s_0 := s
  H_0 := H
  env := envS qual scope s.heap.objs.size f cda cc
  outer := outer
  stack := envS qual scope s.heap.objs.size f cda cc :: outer
  ex := []
  calm := true
  fn := fun _ => false
  pn := []
  xe := fun _ _ => False
/-- what the scope says -/
structure SupScope (prm : Str) (sc : Scope) : Prop where
  kind : sc.kind = .function
  co : sc.isCoroutine = false
  gen : sc.isGenerator = false
  nocell : ∀ x ∈ sc.names, x.2 ≠ .cell
  free : ∀ x ∈ sc.names, x.2 = .free → x.1 = "__class__"
  self : sc.names.lookup ("self" : Str) = some .local
  par : sc.names.lookup prm = some .local
  sup : sc.names.lookup ("super" : Str) = some .globalImplicit
  cls : sc.names.lookup ("__class__" : Str) = some .free
  ne : ("self" : Str) ≠ prm
  dbg : (prm == ("__debug__" : Str)) = false
  cdi : (prm == ("__classdict__" : Str)) = false
theorem inv_startS {prm : Str} {h₁ : Heap} {tk : Nat} {x y : V} {ux uy : Value} {D : Addr} {cl : Value} {cld : Option Addr} {csl : Array (Option Value)} (S : SupScope prm scope) (hd : A.handled = none) (e0 : Env0 P w K mg base A outer s H) (rx : RelV x ux) (ry : RelV y uy)
    (hcell : K.lookup cc = some ⟨cl, cld, .cell (some (.ref D)), csl⟩) (hns : h₁.Ns s.heap.objs.size fun z => ((["self", prm] : List Str).zip [ux, uy]).reverse.lookup z)
    (kp : ∀ b o, s.heap.get? b = some o → h₁.get? b = some o) : Inv (cxS P w K mg base ["self", prm] qual scope f cda cc A outer s H) [] [some x, some y] H { s with heap := h₁, toks := tk } := by
  have noA : ∀ b : Addr, b ∉ (cxS P w K mg base ["self", prm] qual scope f cda cc A outer s H).ex := fun b z => absurd (show b ∈ ([] : List Addr) from z) (by simp)
  have hb := e0.bs cc _ (e0.mod.kin _ _ hcell)
  have only : ∀ {z : Str} {c : Addr}, (envS qual scope s.heap.objs.size f cda cc).cells.lookup z = some c → z = "__class__" ∧ c = cc := fun {z c} e => by
    have e' : ([("__class__", cc)] : List (Str × Addr)).lookup z = some c := e
    have h2 := PySem.mem_of_lookup e'
    rw [List.mem_singleton] at h2
    exact ⟨(Prod.mk.inj h2).1, (Prod.mk.inj h2).2⟩
  refine ⟨⟨e0.mod, S.kind, rfl, rfl, Nat.le_refl _, fun a b c h1 h2 => ?_, fun z hz => ?_, fun z c e _ => ?_, fun _ => hd, Around.frames_deeper e0.frames, .inr ⟨rfl, rfl⟩, fun b z => absurd z (noA b), e0.bs, e0.bsz, fun b _ _ => noA b,
      fun b z => absurd z (noA b), e0.funs, e0.frf⟩,
    rfl, e0.bare, Un.kept kp, ⟨_, hns, fun i z v e1 e2 e3 => ?_⟩, fun z c e => ?_, e0.hok.fresh (Nat.le_refl _), fun z c e => ?_, fun q hq => absurd (show q ∈ ([] : List (Addr × Obj)) ++ [] from hq) (by simp), e0.hok.kept kp, rfl⟩
  · rw [(only h1).1, (only h2).1]
  · have hz : scope.names.lookup z = some .cell ∨ scope.names.lookup z = some .free := hz
    rcases hz with hz | hz
    · exact absurd rfl (S.nocell _ (PySem.mem_of_lookup hz))
    · have e := S.free _ (PySem.mem_of_lookup hz) rfl
      have e : z = "__class__" := e
      subst e
      exact ⟨cc, rfl⟩
  · have e : false = true := e
    cases e
  · have e1 : (["self", prm] : List Str)[i]? = some z := e1
    match i, e1, e2 with
    | 0, e1, e2 =>
      cases e1
      cases e2
      refine ⟨ux, rx, .inl ⟨S.self, ?_⟩⟩
      show ([(prm, uy), ("self", ux)] : List (Str × Value)).lookup ("self" : Str) = some ux
      have : (("self" : Str) == prm) = false := by simpa using S.ne
      simp [List.lookup, this]
    | 1, e1, e2 =>
      cases e1
      cases e2
      refine ⟨uy, ry, .inl ⟨S.par, ?_⟩⟩
      show ([(prm, uy), ("self", ux)] : List (Str × Value)).lookup prm = some uy
      simp [List.lookup]
    | i + 2, e1, e2 => simp at e1
  · have e' := (only e).2
    subst e'
    exact ⟨_, _, kp _ _ hb.1, rfl⟩
  · have e' := (only e).2
    subst e'
    exact hb.2
/-- the bound built-in __init__ called: nothing of it is told -/
theorem sinit_ok {X : Cx} {pins : List (Addr × Obj)} {σ : L2.St} {H : Hp} {s : Shared} {a C u : Addr} {A : Around} {E : Value → Shared → Prop} {us : List Value} {Q : Value → Shared → Prop} (T : OexC X.K C) (I : Inv X pins σ H s) (e : H a = some (exo a C none)) (hu : s.heap.get? u = some (PySem.W.kxs_mw "ValueError.__init__" a))
    (hl : us.length ≤ sizeLine) (h : ∀ s', Inv X pins σ H s' → Q .none s') : wpAny (model X.prog X.w) A (call (.ref u) us) Q E s := by
  obtain ⟨nm, q, N, bs, bm, sn, sub, ab, col, dd, k0, k1, k2, k3, k5, hC, hbm⟩ := T.cls
  obtain ⟨t1, ho⟩ := exo_at I.hok e
  have hC' := I.kIn _ _ hC
  obtain ⟨hp, g, d, t, os⟩ := s
  refine wpAny_call (codeAny_of_tree ?_)
  show wpAny _ A.in1 (callAny (.ref u) ⟨us, []⟩) _ _ _
  simp only [callAny]
  refine wpAny_bind (wpAny_load hu ?_)
  simp only [PySem.W.kxs_mw, show (Value.type "method-wrapper" == Value.type "method" || Value.type "method-wrapper" == Value.type "builtin_function_or_method" || Value.type "method-wrapper" == Value.type "method-wrapper") = true by decide, if_true]
  refine PySem.W.KFB.if_so (by decide) ?_
  refine wpAny_bind (PySem.W.check_bound_init F.excBase_ValueError.toExcCallFacts hC' ho rfl ?_)
  refine wpAny_bind (wpAny_pure (wpAny_pure ?_))
  refine ⟨plainId_quiet F.excBase_ValueError.init.plain _, codeAny_builtin F.excBase_ValueError.initEntry ?_⟩
  refine PySem.W.exc_init_tree (cls := .ref C) (t0 := t1) (dv := none) (c2 := .none) (c3 := .none) (b4 := .bool false) ho hl fun h' k hx _ => ?_
  have J := I.write (t' := t) (x := a) (e := a) (o := exo a C none) (by rw [e]; exact True.intro) (.inl rfl) k ⟨_, hx⟩ (exo_ok hx)
  have eu : upd H a (exo a C none) = H := by
    funext b
    by_cases hb : b = a
    · rw [hb, upd_same, e]
    · rw [upd_ne hb]
  rw [eu] at J
  exact h _ J
/-- what such an __init__ does -/
def sp_sup (C : Addr) (fld : Str) : Sp := fun vs H Q _ => ∃ (a : Addr) (y : V), vs = [.ref a, y] ∧ H a = some (exo a C none) ∧ ∀ dx, H dx = none → dx ≠ a → Q .non (upd (upd H dx (exd dx [(fld, y)])) a (exo a C (some dx)))
/-- what the written part says of the class and of its __init__ -/
structure SupK (P : Program) (K : PySem.W.Frag) (C f cda cc : Addr) (fld : Str) : Prop where
  T : OexC K C
  no : PySem.W.findIn K (.ref C) fld = some none
  code : ∃ (ccl : Value) (cdd : Option Addr) (vs : Array Value) (ccs : Array (Option Value)) (file : Str) (tf : Tok), K.lookup cda = some ⟨ccl, cdd, .fields vs, ccs⟩ ∧ vs[2]? = some (.str file tf) ∧ ((P.main.file : Str) == file) = true
  cell : ∃ (cl : Value) (cld : Option Addr) (csl : Array (Option Value)), K.lookup cc = some ⟨cl, cld, .cell (some (.ref C)), csl⟩
  mro : PySem.W.mroIn K C (.ref C) = some true
  opq : PySem.W.nsIn K cStatics "thirdparty.any" = some none
  init : PySem.W.ks_superIn K C C "__init__" = some (some (.builtin "ValueError.__init__"))
  ve : PySem.W.subIn K (.ref C) (.type "ValueError") = some true
  top : (P.main.scope.names.lookup ("super" : Str)).isSome = false
theorem fn_super {CX : CXT} {k : Nat} {C : Addr} {name prm fld msg : Str} {params : Arguments} {body : List Stmt} {dV kV doc pm ct oc : Value} {an od : Option Addr} {osl : Array (Option Value)} {ar : Arg} {p0 p1 p2 p3 p4 p5 p6 p7 p8 p9 : Pos} {j : _} {pl : Sem Bool}
    (lk : K.lookup f = some ⟨oc, od, .func (PySem.W.ksFn name qual params body scope dV kV doc pm an (.ref cda) ct cc), osl⟩) (hcd : PySem.W.codeIn K (.ref cda) qual = true) (S : SupScope prm scope) (SK : SupK P K C f cda cc fld) (hms : mg "super" = none)
    (hp : (params.posonlyargs ++ params.args).head? = some ar) (har : ar.arg = "self")
    (hc : ∀ env : Env, eval (.Call (.Attribute (.Call (.Name "super" p0) [] [] p1) "__init__" p2) [.Constant (.str msg) j p3] [] p4) env = (do
      let ov ← attributeBase (.Call (.Name "super" p0) [] [] p1) "__init__" env (eval (.Call (.Name "super" p0) [] [] p1) env)
      standAt p2.atName
      let (f, first) ← holding [ov] (getMethod ov "__init__" pl)
      callWith p4 f first (backTo p4 (starEach [.Constant (.str msg) j p3] env)) []))
    (hb : body = [.Expr (.Call (.Attribute (.Call (.Name "super" p0) [] [] p1) "__init__" p2) [.Constant (.str msg) j p3] [] p4) p5, .Assign [.Attribute (.Name "self" p6) fld p7] (.Name prm p8) p9]) :
    FnOk P w K mg base CX (k + 1) f (PySem.W.ksFn name qual params body scope dV kV doc pm an (.ref cda) ct cc) ["self", prm] (sp_sup C fld) := by
  refine ⟨fun vs H Q E h => ?_, fun A outer s H args us vs Q E hr e0 hbd r hsp => ?_⟩
  · obtain ⟨a, y, rfl, _⟩ := h
    rfl
  obtain ⟨a, y, rfl, ha, q⟩ := hsp
  obtain ⟨ua, uy, rfl, ra, ry⟩ : ∃ ua uy, us = [ua, uy] ∧ RelV (.ref a) ua ∧ RelV y uy := by
    cases r with
    | cons h1 h2 =>
      cases h2 with
      | cons h3 h4 =>
        cases h4
        exact ⟨_, _, rfl, h1, h3⟩
  obtain rfl : ua = .ref a := ra
  have KX : K.In s.heap := e0.mod.kin.keeps fun b o e => (e0.bs b o e).1
  have lim : s.heap.NoLimit := e0.mod.nolimit.keeps fun b o e => (e0.bs b o e).1
  obtain ⟨ccl, cdd, cvs, ccs, file, tf, hcode, hvs, hfile⟩ := SK.code
  obtain ⟨cl, cld, csl, hcell⟩ := SK.cell
  subst hb
  refine ks_codeAny_call_defAt (fd := PySem.W.ksFn name qual params _ scope dV kV doc pm an (.ref cda) ct cc) (binds := (["self", prm] : List Str).zip [.ref a, uy]) hr.depth (KX _ _ lk) rfl lim (PySem.W.codeRec_of KX hcd) rfl hbd S.nocell (fun z hz => ?_) (fun h₁ hns kp => ?_) S.co S.gen S.kind
  · rcases List.mem_cons.mp hz with rfl | hz
    · exact S.self
    · rw [List.mem_singleton.mp hz]
      exact S.par
  have I : Inv (cxS P w K mg base ["self", prm] qual scope f cda cc A outer s H) [] [some (.ref a), some y] H { s with heap := h₁, toks := s.toks + 2 } := inv_startS S hr.hd e0 rfl ry hcell hns kp
  obtain ⟨t1, ho⟩ := exo_at I.hok ha
  obtain ⟨mb, hmb, hbo⟩ := e0.mod.blt
  obtain ⟨nm, qn, N', bs, bm, sn, sub, ab, col, dd, k0, k1, k2, k3, k5, hC, hbm⟩ := SK.T.cls
  have X1 : K.In h₁ := I.kIn
  refine ks_wpAt_execs_cons (ks_wpAt_Expr_any (ks_wpAt_MethodCall (pl := pl) ?_ (hc _)) I.quiet)
  refine ks_wpAt_super_base (ar := ar) (f := f) (cc := cda) (file := file) (tf := tf) (vs := cvs) S.sup S.cls (by decide) rfl (X1 _ _ lk) rfl hp rfl (X1 _ _ hcode) rfl hvs hfile SK.top ?_
  refine PySem.W.ks_loadName_global S.kind S.sup (PySem.Calls.loadGlobal_builtin (env := envS qual scope s.heap.objs.size f cda cc) (e0.mod.glob.keeps I.bk) hms (hmb.keeps I.bk) ((hbo _ (by decide +kernel)).trans (by first | rfl | decide +kernel)) ⟨rfl, ?_⟩)
  obtain ⟨oD, hD1, cdD, hD2, hDm⟩ : ∃ oD, h₁.get? C = some oD ∧ ∃ cdD, oD.data = .cls cdD ∧ cdD.mro = .ref C :: bm := ⟨_, X1 _ _ hC, _, rfl, rfl⟩
  refine wpAny_loadName_free S.kind S.cls rfl ⟨_, X1 _ _ hcell, rfl⟩ ?_
  rw [har]
  refine wpAny_loadName_local S.kind S.self hns (v := .ref a) (by
    show ([(prm, uy), ("self", .ref a)] : List (Str × Value)).lookup ("self" : Str) = some (.ref a)
    have : (("self" : Str) == prm) = false := by simpa using S.ne
    simp [List.lookup, this]) ?_
  refine ks_wpAny_isType_cls hD1 hD2 ⟨rfl, ?_⟩
  refine ks_wpAny_call_super hD1 hD2 ho rfl (fun c e => nomatch e) (PySem.W.looks_mroIn X1 SK.mro) (fun h' e k1 => ?_)
  have I2 : Inv (cxS P w K mg base ["self", prm] qual scope f cda cc A outer s H) [] [some (.ref a), some y] H { s with heap := h', toks := s.toks + 2 } := I.kept k1
  have X2 : K.In h' := I2.kIn
  have Ia : PySem.W.InstAt h' a { cls := .ref C, dict := none, data := .fields #[.ref t1, .none, .none, .none, .bool false, .none] } C none := ⟨k1 _ _ ho, rfl, rfl, trivial⟩
  have hinit := SK.init
  have hcl : PySem.W.clsIn K C = some { name := nm, bases := bs, mro := .ref C :: bm, ns := N', qualname := qn, hasDict := true, slotNames := sn, subclasses := sub, abstract := ab, collection := col, hasDel := false } := by unfold PySem.W.clsIn; rw [hC] <;> rfl
  unfold PySem.W.ks_superIn at hinit
  rw [hcl] at hinit
  refine PySem.W.kxs_getMethod PySem.W.kxs_ValueError e (PySem.W.looks_opaque X2 SK.opq) (l₀ := .ref C :: bm) ?_ rfl X2 hinit (Ia.type.andThen (PySem.W.looks_subIn X2 SK.ve)) (PySem.W.ks_ne X2 Ia hcl) (by decide) ?_
  · exact fun A Q E s k q => wpAny_bind ((PySem.W.looks_clsIn X2 hcl) A _ E s k (wpAny_pure q))
  have I3' : Inv (cxS P w K mg base ["self", prm] qual scope f cda cc A outer s H) [] [some (.ref a), some y] H { s with heap := h'.push (PySem.W.kxs_mw "ValueError.__init__" a), toks := s.toks + 2 + 1 } := I2.kept (fun b o e => Heap.get?_push_of_some _ e)
  have hu : (h'.push (PySem.W.kxs_mw "ValueError.__init__" a)).get? h'.objs.size = some (PySem.W.kxs_mw "ValueError.__init__" a) := Heap.get?_push_at rfl rfl
  have hlt : s.heap.objs.size < h'.objs.size := I2.lt
  have I3 : Inv (cxS P w K mg base ["self", prm] qual scope f cda cc A outer s H) [(h'.objs.size, PySem.W.kxs_mw "ValueError.__init__" a)] [some (.ref a), some y] H { s with heap := h'.push (PySem.W.kxs_mw "ValueError.__init__" a), toks := s.toks + 2 + 1 } := { I3' with
    pin := fun p hp => by
      obtain rfl : p = (h'.objs.size, PySem.W.kxs_mw "ValueError.__init__" a) := List.mem_singleton.mp hp
      exact ⟨hu, I2.hok.fresh (Nat.le_refl _), fun z => absurd hlt (by rw [show h'.objs.size = s.heap.objs.size from z]; exact Nat.lt_irrefl _), I2.nofs (Nat.le_refl _), fun v z => nomatch z⟩ }
  refine PySem.W.kxs_callWith1 (i := "ValueError.__init__") (x := a) (h₀ := h') (L := s.heap.objs.size) (news := [(h'.objs.size, PySem.W.kxs_mw "ValueError.__init__" a)]) (fun p hp => ?_) (List.mem_singleton.mpr rfl) ?_
  · rw [List.mem_singleton.mp hp]
    exact ⟨hu, Nat.ne_of_gt hlt, Heap.get?_none_of_le (Nat.le_refl _)⟩
  have ha3 : PA (cxS P w K mg base ["self", prm] qual scope f cda cc A outer s H) [.Constant (.str msg) j p3] (tCons (tC (.str msg)) tNil) := pa_cons pe_str pa_nil
  refine wpAny_mono (ha3.run p4 _ _ [some (.ref a), some y] H (fun vs H1 => H1 = H ∧ vs.length = 1) I3 ⟨rfl, rfl⟩) (fun us s1 hs => ?_) fun _ _ z => z.elim
  obtain ⟨vs, H1, I4, r1, rfl, hl1⟩ := hs
  refine ⟨(I4.pin _ (List.mem_append_right _ (List.mem_singleton.mpr rfl))).1, ?_⟩
  refine sinit_ok SK.T I4 ha ((I4.pin _ (List.mem_append_right _ (List.mem_singleton.mpr rfl))).1) (by rw [← Paired.length r1, hl1]; decide) fun s2 I5 => ?_
  refine ks_wpAt_execs_cons (wpAt_of_wpAny ?_)
  have hx : PS (cxS P w K mg base ["self", prm] qual scope f cda cc A outer s H1) (.Assign [.Attribute (.Name "self" p6) fld p7] (.Name prm p8) p9) (tOst K fld (tVar 0) (tVar 1)) := ps_ost (pe_var (i := 0) rfl (.inl S.self)) (pe_var (i := 1) rfl (.inl S.par) S.dbg S.cdi)
  refine wpAny_mono (hx.run _ s2 [some (.ref a), some y] H1 { nx := fun _ H' => Q .non H', rt := fun _ _ => False } I5 ⟨y, rfl, .ref a, rfl, a, C, rfl, SK.T, SK.no, .inl ⟨ha, fun dx n ne => q dx n ne⟩⟩) (fun fl s3 hs => ?_) fun _ _ z => z.elim
  cases fl with
  | next =>
    obtain ⟨σ', H', J, qq⟩ := hs
    refine wpAt_of_wpAny (wpAny_pure ?_)
    exact ⟨.non, H', J.os, J.bare, J.base, J.hok, rfl, qq⟩
  | ret u =>
    obtain ⟨_, _, _, _, _, z⟩ := hs
    exact z.elim
  | brk =>
    obtain ⟨_, _, _, z⟩ := hs
    exact z.elim
  | cont =>
    obtain ⟨_, _, _, z⟩ := hs
    exact z.elim
end
end Fp

/-! raise X(e), X with a field by its own __init__ -/
namespace Fp
open PySem PySem.Spec PyProof.Rows L2
structure ErrF (P : Program) (w : World) (K : PySem.W.Frag) (mg : Str → Option Value) (base : Heap) (k : Nat) (nm : Str) (C : Addr) (fld : Str) : Prop where
  ex : OexC K C ∧ mg nm = some (.ref C) ∧ ∃ (fI : Addr) (fd : FuncData) (prm : Str), PySem.W.findIn K (.ref C) "__init__" = some (some (.ref fI)) ∧ PySem.W.typeIn K (.ref fI) = some (.type "function") ∧
    FnOk P w K mg base CX0 k fI fd ["self", prm] (sp_sup C fld) ∧ Binds K fd ["self", prm] []
section
variable {X : Cx} {W : WX} {x fld : Str} {C : Addr} {k : Nat} {p pos pos' : Pos} {e : Expr} {te : TE}
/-- the reading of raise X(e): what stands behind e's -/
def tErrF (W : WX) (C : Addr) (fld : Str) (te : TE) : TS := fun _ σ H => tMkO C (sp_sup C fld) [] (tCons te tNil) σ H fun cls d H' => W cls d σ H'
theorem ps_errF (hc : X.calm = true) (tk : Takes X W) (D : ErrF X.prog X.w X.K X.mg X.base k x C fld) (hr : Room (k + 1) X.A) (hg : Gl X x) (he : PE X e te) (hdb : (x == ("__debug__" : Str)) = false := by decide)
    (hse : starEach [e] X.env = (false, eval e X.env) :: starEach [] X.env := by rfl) :
    PS X (.Raise (some (.Call (.Name x p) [e] [] pos)) none pos') (tErrF W C fld te) := by
  obtain ⟨T, hm, fI, fd, prm, h1, h2, h3, h4⟩ := D.ex
  exact L2.ps_raise (pos := pos') hc tk (pmk_oex (p := p) (pos := pos) T h1 h2 h3 hr h4 .nil pass0 hg hm (pa_cons he pa_nil hse) hdb hse)
theorem g_errF {D : Ends} {σ : L2.St} {H : Hp} (h : te σ H fun y H1 => ([y] : List V).length ≤ 1000 ∧ ∀ a, H1 a = none → sp_sup C fld (.ref a :: ([y] ++ [])) (upd H1 a (exo a C none))
    (fun v H2 => v = .non ∧ ∃ (d : Addr) (fs : List (Str × V)), H2 a = some (exo a C (some d)) ∧ H2 d = some (exd d fs) ∧ H1 d = none ∧ W (.ref C) (some d) σ (upd (del H2 a) d (.xd fs))) fun _ _ _ => False) : tErrF W C fld te D σ H := h
/-- behind e: the error is out -/
theorem errF_end {R : Option Addr → Hp → Prop} {H1 : Hp} {y : V} {E : XK} (h : ∀ d, H1 d = none → R (some d) (upd H1 d (.xd [(fld, y)]))) : ([y] : List V).length ≤ 1000 ∧ ∀ a, H1 a = none → sp_sup C fld (.ref a :: ([y] ++ [])) (upd H1 a (exo a C none))
    (fun v H2 => v = .non ∧ ∃ (d : Addr) (fs : List (Str × V)), H2 a = some (exo a C (some d)) ∧ H2 d = some (exd d fs) ∧ H1 d = none ∧ R (some d) (upd (del H2 a) d (.xd fs))) E := by
  refine ⟨Nat.le_of_ble_eq_true rfl, fun a ha => ⟨a, y, rfl, upd_same, fun dx hdx hne => ⟨rfl, dx, [(fld, y)], upd_same, ?_, ?_, ?_⟩⟩⟩
  · rw [upd_ne hne, upd_same]
  · rw [upd_ne hne] at hdx
    exact hdx
  · rw [upd_ne hne] at hdx
    have e : upd (del (upd (upd (upd H1 a (exo a C none)) dx (exd dx [(fld, y)])) a (exo a C (some dx))) a) dx (.xd [(fld, y)]) = upd H1 dx (.xd [(fld, y)]) := by
      funext b
      by_cases hb : b = dx
      · rw [hb, upd_same, upd_same]
      · rw [upd_ne hb, upd_ne hb]
        by_cases hba : b = a
        · rw [hba, del_same, ha]
        · rw [del_ne hba, upd_ne hba, upd_ne hb, upd_ne hba]
    rw [e]
    exact h dx hdx
end
end Fp

/-! X(), an own error as a value; isinstance of a thing that may be one. -/
namespace Fp
open PySem L2 PyProof.Rows
section
variable {X : Cx} {C : Addr} {bmB : List Value} {B newId initId : String}
theorem pe_exc0 {x : Str} {p pos : Pos} (F : ExcBaseFacts B newId initId bmB) (q : PySem.W.excIn X.K C bmB newId = true) (gC : X.mg x = some (.ref C)) (kC : PySem.W.keepIn X.K (.ref C) = true) (hg : Gl X x) (hdb : (x == ("__debug__" : Str)) = false := by decide) :
    PE X (.Call (.Name x p) [] [] pos) (fun σ H Q => ∀ a, H a = none → Q (.ref a) (upd H a (ExO (.ref C) a))) := by
  refine ⟨fun pins s σ H Q I h => ?_⟩
  refine wpAny_Call_Name_kw (ld_glob I hg gC ?_ hdb)
  refine PySem.W.callWith_K0 I.kIn kC ?_
  show wpAny _ _ (call (.ref C) []) _ _ _
  obtain ⟨bm, N, nm, qn, bs, hdct, sn, sub, ab, col, dd, k0, k1, k2, k3, k5, mN, hC, hN, hni, T⟩ := exc_obj I.kIn q
  refine wpAny_call_exc_subT F T hC hN hni (fun h' a hm => ?_) (Nat.zero_le _)
  have hn : H a = none := I.hok.gone hm.new
  obtain ⟨t, ht, _, _⟩ := hm.there
  exact ⟨.ref a, upd H a (ExO (.ref C) a), I.laidN hm.keeps hm.new hn (exO_ok ht ⟨rfl, rfl⟩ rfl rfl rfl (show 4 < 6 by decide)), rfl, h a hn⟩
theorem pe_errO {x : Str} {p pos : Pos} (D : ErrC X.K X.mg x C) (hg : Gl X x) (hdb : (x == ("__debug__" : Str)) = false := by decide) :
    PE X (.Call (.Name x p) [] [] pos) (fun σ H Q => ∀ a, H a = none → Q (.ref a) (upd H a (ExO (.ref C) a))) := pe_exc0 PySem.F.excBase_ValueError D.q D.g D.k hg hdb
end
/-- the type of a thing that may be an own error's object -/
def TyE (K : PySem.W.Frag) (H : Hp) (x : V) (t : Value) : Prop := TyX K H x t ∨ ∃ a D, x = .ref a ∧ H a = some (ExO (.ref D) a) ∧ ExcC K D ∧ t = .ref D
def rIsiE (K : PySem.W.Frag) : List V → Hp → VK → Prop := fun xs H Q => ∃ (x c : V) (t u : Value) (b : Bool), xs = [x, c] ∧ ClsV c u ∧ TyE K H x t ∧ PySem.W.kitOne K t u = some b ∧ Q (.bl b) H
theorem g_isE {K : PySem.W.Frag} {x : V} {C : Addr} {t : Value} {b : Bool} {H : Hp} {Q : VK} (ht : TyE K H x t) (hk : PySem.W.kitOne K t (.ref C) = some b) (h : Q (.bl b) H) : rIsiE K [x, .ref C] H Q := ⟨x, .ref C, t, _, b, rfl, .own C, ht, hk, h⟩
theorem call_isiE {X : Cx} : CallR X (.builtin "isinstance") (rIsiE X.K) := by
  intro pins s σ H xs us Q I r h
  obtain ⟨x, c, t, u, b, rfl, k, ty, e, q⟩ := h
  rcases ty with ty | ⟨a, D, rfl, ha, C, rfl⟩
  · exact call_isi pins s σ H _ us Q I r ⟨x, c, t, u, b, rfl, k, ty, e, q⟩
  · obtain ⟨u1, u2, rfl, r1, r2⟩ := vals2 r
    have e2 := k.eq r2
    subst e2
    cases r1
    obtain ⟨⟨oe, vs, hget, hz, hv, _⟩, _, _⟩ := I.hok a _ ha
    have J : PySem.W.InstAt s.heap a oe D none := by
      obtain ⟨oc, od, oda, osl⟩ := oe
      obtain ⟨h1, h2⟩ := hz
      dsimp only at h1 h2 hv
      subst h1 h2 hv
      exact ⟨hget, rfl, rfl, trivial⟩
    exact PySem.W.kia_one (PySem.W.handS_kitx_exc C.hg C.hk C.hs C.hd C.ha C.hn C.ht C.hm) I.kIn J e (fun z => nomatch z) fun tk => ⟨.bl b, H, I.tok tk, rfl, q⟩
end Fp

/-! X(e), X with a field by its own __init__, as a value; isinstance of it; isinstance of what an except clause holds -/
namespace Fp
open PySem PySem.Spec PyProof.Rows L2
section
variable {X : Cx} {x fld : Str} {C : Addr} {k : Nat} {p pos : Pos} {e : Expr} {te : TE}
/-- the reading of X(e) -/
def tErrV (C : Addr) (fld : Str) (te : TE) : TE := fun σ H Q => te σ H fun y H1 => ∀ a, H1 a = none → sp_sup C fld [.ref a, y] (upd H1 a (exo a C none)) (fun v H2 => v = .non ∧ Q (.ref a) H2) fun _ _ _ => False
theorem pe_errV (D : ErrF X.prog X.w X.K X.mg X.base k x C fld) (hr : Room (k + 1) X.A) (hg : Gl X x) (he : PE X e te) (hdb : (x == ("__debug__" : Str)) = false := by decide)
    (hse : starEach [e] X.env = (false, eval e X.env) :: starEach [] X.env := by rfl) (hpl : (backTo pos (starEach [] X.env)).any (·.1) = false := by rfl) : PE X (.Call (.Name x p) [e] [] pos) (tErrV C fld te) := by
  obtain ⟨T, hm, fI, fd, prm, iC, tI, F1, hb⟩ := D.ex
  refine ⟨fun pins s σ H Q I h => ?_⟩
  obtain ⟨nm, q, N, bs, bm, sn, sub, ab, col, dd, k0, k1, k2, k3, k5, hC, hbm⟩ := T.cls
  refine wpAny_Call_Name_kw (ld_glob I hg hm ?_ hdb)
  have ha : PA X [e] (tCons te tNil) := pa_cons he pa_nil hse
  refine PySem.W.callWith_K (h₀ := X.base) I.ok.mod.kin T.kC (thn (ha.run pos pins s σ H (fun vs H1 => ∃ y, vs = [y] ∧ ∀ a, H1 a = none → sp_sup C fld [.ref a, y] (upd H1 a (exo a C none)) (fun v H2 => v = .non ∧ Q (.ref a) H2) fun _ _ _ => False) I ?_) fun us s1 ⟨vs, H1, I1, r1, y, hvs, q1⟩ => ⟨I1.kIn, ?_⟩) hse hpl
  · show te σ H fun y H1 => _
    exact (show te σ H fun y H1 => ∃ y', [y] = [y'] ∧ ∀ a, H1 a = none → sp_sup C fld [.ref a, y'] (upd H1 a (exo a C none)) (fun v H2 => v = .non ∧ Q (.ref a) H2) fun _ _ _ => False from by
      have e1 : (fun (y : V) (H1 : Hp) => ∃ y', [y] = [y'] ∧ ∀ a, H1 a = none → sp_sup C fld [.ref a, y'] (upd H1 a (exo a C none)) (fun v H2 => v = .non ∧ Q (.ref a) H2) fun _ _ _ => False) = fun y H1 => ∀ a, H1 a = none → sp_sup C fld [.ref a, y] (upd H1 a (exo a C none)) (fun v H2 => v = .non ∧ Q (.ref a) H2) fun _ _ _ => False := by
        funext y H1
        exact propext ⟨fun ⟨y', e, z⟩ => by cases e; exact z, fun z => ⟨y, rfl, z⟩⟩
      rw [e1]
      exact h)
  subst hvs
  show wpAny _ _ (call (.ref C) us) _ _ _
  obtain ⟨hp, g, dr, tk, os⟩ := s1
  have hsz : hp.objs.size ≤ hp.objs.size + 1 := Nat.le_succ _
  have hn : H1 (hp.objs.size + 1) = none := I1.hok.fresh hsz
  have hq := q1 (hp.objs.size + 1) hn
  have kk : ∀ b o, hp.get? b = some o → ((hp.push (PySem.W.kdv_tup us)).push (PySem.HandSPX.excO C hp.objs.size)).get? b = some o := fun b o e => Heap.get?_push_of_some _ (Heap.get?_push_of_some _ e)
  have hget : ((hp.push (PySem.W.kdv_tup us)).push (PySem.HandSPX.excO C hp.objs.size)).get? (hp.objs.size + 1) = some (PySem.HandSPX.excO C hp.objs.size) := by heap_get
  have I2 : Inv X pins σ (upd H1 (hp.objs.size + 1) (exo (hp.objs.size + 1) C none)) ⟨(hp.push (PySem.W.kdv_tup us)).push (PySem.HandSPX.excO C hp.objs.size), g, dr, tk, os⟩ :=
    I1.laid (t' := tk) (a := hp.objs.size + 1) (o := exo (hp.objs.size + 1) C none) (h' := (hp.push (PySem.W.kdv_tup us)).push (PySem.HandSPX.excO C hp.objs.size)) kk hsz (exo_ok hget)
  have r2 : Vals [V.ref (hp.objs.size + 1), y] (Value.ref (hp.objs.size + 1) :: us) := .cons rfl r1
  have hl : (Value.ref (hp.objs.size + 1) :: us ++ []).length = (["self", prm] : List Str).length := by
    have e := r2.length
    rw [F1.len _ _ _ _ hq] at e
    rw [List.append_nil]
    exact e.symm
  have hb2 := hb ⟨(hp.push (PySem.W.kdv_tup us)).push (PySem.HandSPX.excO C hp.objs.size), g, dr, tk, os⟩ (Value.ref (hp.objs.size + 1) :: us) I2.kIn hl
  rw [List.append_nil] at hb2
  have hus : us.length ≤ sizeLine := by
    rw [← Paired.length r1]
    exact Nat.le_of_ble_eq_true rfl
  refine wpAny_call (PySem.HandSPX.call_own F.excBase_ValueError (fun Y => PySem.HandSPX.refsVE_contains Y bm hbm) (I1.kIn _ _ hC) (PySem.W.looks_findIn I1.kIn iC) (fun self => PySem.W.bind_fn I1.kIn self tI) hus
    (codeAny_mono (F1.run _ X.stack _ _ ⟨Value.ref (hp.objs.size + 1) :: us, []⟩ (Value.ref (hp.objs.size + 1) :: us) _ _ (fun _ _ _ => False) (hr.make C us []) (I2.env0.make C us []) hb2 r2 hq) fun r s' hq' => ?_))
  cases r with
  | error er => exact pass0 pins σ _ _ er s' I2 hq'
  | ok fl =>
    cases fl with
    | ret u =>
      obtain ⟨v, H', I3, rv, ev, q3⟩ := I2.after hq'
      subst ev
      exact ⟨rv, ⟨V.ref (hp.objs.size + 1), H', I3, rfl, q3⟩⟩
    | next => exact False.elim hq'
    | brk => exact False.elim hq'
    | cont => exact False.elim hq'
/-- behind e: the error's object is made -/
theorem g_errV {σ : L2.St} {H : Hp} {Q : VK} (h : te σ H fun y H1 => ∀ a d, H1 a = none → H1 d = none → d ≠ a → Q (.ref a) (upd (upd (upd H1 a (exo a C none)) d (exd d [(fld, y)])) a (exo a C (some d)))) : tErrV C fld te σ H Q := by
  refine (show te σ H fun y H1 => ∀ a, H1 a = none → sp_sup C fld [.ref a, y] (upd H1 a (exo a C none)) (fun v H2 => v = .non ∧ Q (.ref a) H2) fun _ _ _ => False from ?_)
  have e1 : (fun (y : V) (H1 : Hp) => ∀ a d, H1 a = none → H1 d = none → d ≠ a → Q (.ref a) (upd (upd (upd H1 a (exo a C none)) d (exd d [(fld, y)])) a (exo a C (some d)))) = fun y H1 => ∀ a, H1 a = none → sp_sup C fld [.ref a, y] (upd H1 a (exo a C none)) (fun v H2 => v = .non ∧ Q (.ref a) H2) fun _ _ _ => False := by
    funext y H1
    refine propext ⟨fun z a ha => ⟨a, y, rfl, upd_same, fun dx hdx hne => ⟨rfl, z a dx ha (by rw [upd_ne hne] at hdx; exact hdx) hne⟩⟩, fun z a d ha hd hne => ?_⟩
    obtain ⟨a', y', e, _, q⟩ := z a ha
    cases e
    exact (q d (by rw [upd_ne hne]; exact hd) hne).2
  rw [← e1]
  exact h
end
/-- the type of a thing that may be an error's object, with or without a dict -/
def TyG (K : PySem.W.Frag) (H : Hp) (x : V) (t : Value) : Prop := TyX K H x t ∨ ∃ a D d fs, x = .ref a ∧ H a = some (exo a D (some d)) ∧ H d = some (exd d fs) ∧ ExcC K D ∧ t = .ref D
def rIsiG (K : PySem.W.Frag) : List V → Hp → VK → Prop := fun xs H Q => ∃ (x c : V) (t u : Value) (b : Bool), xs = [x, c] ∧ ClsV c u ∧ TyG K H x t ∧ PySem.W.kitOne K t u = some b ∧ Q (.bl b) H
theorem call_isiG {X : Cx} : CallR X (.builtin "isinstance") (rIsiG X.K) := by
  intro pins s σ H xs us Q I r h
  obtain ⟨x, c, t, u, b, rfl, k, ty, e, q⟩ := h
  rcases ty with ty | ⟨a, D, d, fs, rfl, ha, hd, C, rfl⟩
  · exact call_isi pins s σ H _ us Q I r ⟨x, c, t, u, b, rfl, k, ty, e, q⟩
  · obtain ⟨u1, u2, rfl, r1, r2⟩ := vals2 r
    have e2 := k.eq r2
    subst e2
    cases r1
    obtain ⟨⟨t1, hget⟩, _, _⟩ := I.hok a _ ha
    obtain ⟨mA, hns, _⟩ := exd_at I.hok hd
    obtain ⟨o, es, ep, ed, _⟩ := hns
    have J : PySem.W.InstAt s.heap a (({ cls := .ref D, dict := some d, data := .fields #[.ref t1, .none, .none, .none, .bool false, .none] } : Obj)) D (some o) := ⟨hget, rfl, rfl, ed⟩
    refine PySem.W.kia_one (PySem.W.kitx_exc ?_ C.hg C.hk C.hs C.ha C.hn C.ht C.hm) I.kIn J e (fun z => nomatch z) fun tk => ⟨.bl b, H, I.tok tk, rfl, q⟩
    obtain ⟨cd, hc, _⟩ := PySem.W.any_some C.hd
    rw [hc]
    rfl
/-- isinstance(e, c), e the exception that the suite holds -/
def rIsP (K : PySem.W.Frag) (a : Addr) (cls : Value) (d : Option Addr) : List V → Hp → VK → Prop := fun xs H Q => ∃ (D : Addr) (c : V) (u : Value) (b : Bool), xs = [.ref a, c] ∧ cls = .ref D ∧ d = none ∧ ExcC K D ∧ ClsV c u ∧ PySem.W.kitOne K (.ref D) u = some b ∧ Q (.bl b) H
theorem call_isP {X : Cx} {a : Addr} {cls : Value} {d : Option Addr} {oe : Obj} {pn : List (Addr × Obj)} (hz : Zc cls d oe) (hf : ∃ vs, oe.data = .fields vs) : CallR (X.suite a ((a, oe) :: pn)) (.builtin "isinstance") (rIsP X.K a cls d) := by
  intro pins s σ H xs us Q I r h
  obtain ⟨D, c, u, b, rfl, rfl, rfl, C, k, e, q⟩ := h
  obtain ⟨u1, u2, rfl, r1, r2⟩ := vals2 r
  have e2 := k.eq r2
  subst e2
  cases r1
  obtain ⟨hget, _⟩ := I.pin (a, oe) (List.mem_append.mpr (.inl List.mem_cons_self))
  obtain ⟨vs, hv⟩ := hf
  have J : PySem.W.InstAt s.heap a oe D none := by
    obtain ⟨oc, od, oda, osl⟩ := oe
    obtain ⟨h1, h2⟩ := hz
    dsimp only at h1 h2 hv
    subst h1 h2 hv
    exact ⟨hget, rfl, rfl, trivial⟩
  refine PySem.W.kia_one (PySem.W.kitx_exc ?_ C.hg C.hk C.hs C.ha C.hn C.ht C.hm) I.kIn J e (fun z => nomatch z) fun tk => ⟨.bl b, H, I.kept (t' := tk) fun _ _ z => z, rfl, q⟩
  obtain ⟨cd, hc, _⟩ := PySem.W.any_some C.hd
  rw [hc]
  rfl
end Fp

/-! try with several except clauses, some of which name what they catch. -/
namespace Fp
open PySem PySem.Spec L2 PyProof.Rows
/-- a clause: its class, the slot of its name (if any), its suite's reading -/
abbrev Clause := Value × Option Nat × (Addr → Value → Option Addr → TS)
def outC (D : Ends) : Option Nat → Ends
  | none => D
  | some i => { nx := fun p q => D.nx (p.set i none) q, rt := D.rt, bk := fun p q => D.bk (p.set i none) q, ct := fun p q => D.ct (p.set i none) q }
def inC (p : L2.St) (a : Addr) : Option Nat → L2.St
  | none => p
  | some i => p.set i (some (.ref a))
/-- what the clauses wish of an exception of the body -/
def wMix (K : PySem.W.Frag) (Wout : WX) (D : Ends) : List Clause → WX
  | [] => Wout
  | (c, oi, ts) :: more => fun cls d p q => ∃ b, PySem.W.exmOne K cls c = some b ∧ (b = true → ∀ a, q a = none → ts a cls d (outC D oi) (inC p a oi) q) ∧ (b = false → wMix K Wout D more cls d p q)
inductive MixOk (X : Cx) : List ExceptHandler → List Clause → Prop
  | nil : MixOk X [] []
  | bare {x : Str} {c : Value} {ts : Addr → Value → Option Addr → TS} {b₀ : Stmt} {su : List Stmt} {n1 n2 : Pos} {hds : List ExceptHandler} {l : List Clause} (hc : Names X x c)
      (hsu : ∀ (a : Addr) (oe : Obj) (cls : Value) (d : Option Addr) (pn : List (Addr × Obj)), Zc cls d oe → (∃ vs, oe.data = .fields vs) → PSs (X.suite a ((a, oe) :: pn)) (b₀ :: su) (ts a cls d)) (more : MixOk X hds l) :
      MixOk X (.ExceptHandler (some (.Name x n1)) none (b₀ :: su) n2 :: hds) ((c, none, ts) :: l)
  | named {x n : Str} {i : Nat} {c : Value} {ts : Addr → Value → Option Addr → TS} {b₀ : Stmt} {su : List Stmt} {n1 n2 : Pos} {hds : List ExceptHandler} {l : List Clause} (hN : X.N.Nodup) (hi : X.N[i]? = some n) (hln : X.env.kindOf n = some .local) (hc : Names X x c)
      (hsu : ∀ (a : Addr) (oe : Obj) (cls : Value) (d : Option Addr) (pn : List (Addr × Obj)), Zc cls d oe → (∃ vs, oe.data = .fields vs) → PSs (X.suite a ((a, oe) :: pn)) (b₀ :: su) (ts a cls d)) (more : MixOk X hds l) :
      MixOk X (.ExceptHandler (some (.Name x n1)) (some n) (b₀ :: su) n2 :: hds) ((c, some i, ts) :: l)
section
variable {X : Cx} {body : List Stmt} {h₀ : ExceptHandler} {hds : List ExceptHandler} {l : List Clause} {pos : Pos} {tb : WX → TS} {Wout : WX}
theorem ps_try_mix (hs : X.stack = X.env :: X.outer) (hf : X.env.frame = some X.env.locals) (tk : Takes X Wout)
    (hb : ∀ (W : WX) (pn : List (Addr × Obj)) (xe : Value → Shared → Prop), Takes (X.tr pn xe) W → PassesOwn (model X.prog X.w) X.A X.env xe → PSs (X.tr pn xe) body (tb W))
    (hh : MixOk X (h₀ :: hds) l) : PS X (.Try body (h₀ :: hds) [] [] pos) (fun D p q => tb (wMix X.K Wout D l) D p q) := by
  refine ⟨fun pins s p q D I hw => ?_⟩
  have okX := I.ok
  have hfr : X.A.frames = some (X.env :: X.outer) := by rw [okX.frames, hs]
  refine wpAny_Try_except ?_
  refine wpAny_mono ((hb (wMix X.K Wout D l) (X.pn ++ pins) (fun e z₁ => wpAny (model X.prog X.w) X.A (noteFrame e X.env) (fun _ z₂ => wpAny (model X.prog X.w) X.A (setFlight e none) (fun _ z₃ => wpAny (model X.prog X.w) X.A (handleBy e X.env (h₀ :: hds)) (SP X pins D) X.xe z₃) X.xe z₂) X.xe z₁)
    (fun u s' got => ?_) PassesOwn.looking).run [] s p q D (I.toTry _) hw) (fun fl s1 done => ?_) (fun e s1 he => he)
  · obtain ⟨a, B, sI, pins', p', q', cls, d, rfl, J', nb, up, sky, na, os, ag, want⟩ := got
    have J : Inv X pins p' q' sI := J'.ofTry okX
    have sky1 : Sky B (X.env :: X.outer) a (Zc cls d) X.env.locals s'.heap := by rw [← hs]; exact sky
    show wpAny (model X.prog X.w) X.A (noteFrame (.ref a) X.env) _ _ _
    refine Sky.land Zc.steady hfr hf sky1 fun hp ld up3 => ?_
    have J3 : Inv X pins p' q' { s' with heap := hp } := J.landed nb ld.1 (up.trans up3) os ag
    obtain ⟨oe, vs, g1, g2, g3⟩ := ld.there
    have away : a ∉ frs (X.env :: X.outer) := fun hm => by
      obtain ⟨_, o1, e1, hnf⟩ := ld.2.2.1.mem hm
      rw [g1] at e1
      cases e1
      exact hnf _ g3
    have aL : a ≠ X.env.locals := fun z => away (List.mem_filterMap.mpr ⟨X.env, List.mem_cons_self, by rw [hf, z]⟩)
    have aF : a ∉ X.fs := fun hm => by
      obtain ⟨e, he, z⟩ := List.mem_filterMap.mp hm
      exact away (List.mem_filterMap.mpr ⟨e, List.mem_cons_of_mem _ he, z⟩)
    have S3 := J3.suite g1 g3 na aL aF
    have named? : ∀ {x : Str} {c : Value} {np : Pos}, Names X x c → ∀ {Q E : Value → Shared → Prop}, Q c { s' with heap := hp } → wpAny (model X.prog X.w) (X.A.mark (some (.ref a))) (eval (.Name x np) X.env) Q E { s' with heap := hp } := fun {x c np} hc {Q E} z => by
      obtain ⟨hg, hdbg, hm | ⟨hm, hv, hnn⟩⟩ := hc
      · exact ld_glob (X := X.suite a ((a, oe) :: (X.pn ++ pins))) S3 hg hm z hdbg
      · exact ld_blt (X := X.suite a ((a, oe) :: (X.pn ++ pins))) S3 hg hm hv z hnn hdbg
    have looks : PySem.W.Looks (model X.prog X.w) hp (typeOf (.ref a)) cls := fun A Q E s k z => wpAny_typeOf_ref (k _ _ g1) (by rw [g2.1]; exact z)
    have all : ∀ {hs1 : List ExceptHandler} {l1 : List Clause}, MixOk X hs1 l1 → wMix X.K Wout D l1 cls d p' q' → wpAny (model X.prog X.w) X.A (handleBy (.ref a) X.env hs1) (SP X pins D) X.xe { s' with heap := hp } := by
      intro hs1 l1 hk
      induction hk with
      | nil =>
        intro want
        refine wpAny_handleBy_nil ?_
        obtain ⟨_, _, _, o5, v5, T5, _, _, k1, _, k2, k3, _⟩ := id ld
        unfold PySem.passOn
        refine wpAny_bind (wpAny_field k1 k2 k3 ?_)
        rw [if_neg (by simp : ¬ ((Value.ref T5 == Value.none) = true))]
        have away5 : wpAny (model X.prog X.w) X.A (setFlight (.ref a) X.env.frame) (fun _ s4 => wpAny (model X.prog X.w) X.A (throw (.ref a) : Sem Flow) (SP X pins D) X.xe s4) X.xe { s' with heap := hp } := by
          rw [hf]
          exact HandSPX.setFlight_upZ ld fun h4 hh4 up4 => wpAny_throw (tk _ _ ⟨a, B, sI, pins, p', q', cls, d, rfl, J, nb, (up.trans up3).trans up4, .inr (.inr (by rw [hs]; exact hh4)), na, os, ag, want⟩)
        first | exact wpAny_bind (wpAny_pure (wpAny_bind away5)) | exact wpAny_bind away5
      | @bare x c ts b₀ su n1 n2 hds2 l2 hc hsu more ih =>
        rintro ⟨b, hb1, hyes, hno⟩
        refine wpAny_handleBy_cons (codeAny_handlers_test ?_) (fun z => nomatch z)
        refine named? hc ((PySem.W.exm_one (M := model X.prog X.w) (J3.kIn) looks hb1).here ?_)
        match b, hyes, hno with
        | false, _, hno => exact ih (hno rfl)
        | true, hyes, _ =>
          refine codeAny_handlers_suite (HandSPX.lands_againZ ld fun h4 ld4 up4 => ?_)
          have J4 : Inv X pins p' q' { s' with heap := h4 } := J.landed nb ld4.1 ((up.trans up3).trans up4) os ag
          obtain ⟨o4, v4, k1, k2, k3⟩ := ld4.there
          refine wpAny_mono ((hsu a o4 cls d (X.pn ++ pins) k2 ⟨_, k3⟩).run [] _ _ q' _ (J4.suite k1 k3 na aL aF) (hyes rfl a na)) (fun fl s6 r => ?_) (fun _ _ z => z.elim)
          match fl, r with
          | .next, ⟨_, _, S6, z⟩ => exact ⟨_, _, S6.unsuite okX, z⟩
          | .brk, ⟨_, _, S6, z⟩ => exact ⟨_, _, S6.unsuite okX, z⟩
          | .cont, ⟨_, _, S6, z⟩ => exact ⟨_, _, S6.unsuite okX, z⟩
          | .ret u, ⟨_, _, _, S6, r6, z⟩ => exact ⟨_, _, _, S6.unsuite okX, r6, z⟩
      | @named x n i c ts b₀ su n1 n2 hds2 l2 hN hi hln hc hsu more ih =>
        rintro ⟨b, hb1, hyes, hno⟩
        refine wpAny_handleBy_cons (codeAny_handlers_test ?_) (fun z => nomatch z)
        refine named? hc ((PySem.W.exm_one (M := model X.prog X.w) (J3.kIn) looks hb1).here ?_)
        match b, hyes, hno with
        | false, _, hno => exact ih (hno rfl)
        | true, hyes, _ =>
          refine codeAny_handlers_suite_as (HandSPX.lands_againZ ld fun h4 ld4 up4 => ?_)
          have J4 : Inv X pins p' q' { s' with heap := h4 } := J.landed nb ld4.1 ((up.trans up3).trans up4) os ag
          obtain ⟨o4, v4, k1, k2, k3⟩ := ld4.there
          refine store_ok (X := X.suite a ((a, o4) :: (X.pn ++ pins))) (v := .ref a) (J4.suite k1 k3 na aL aF) hN hi (.inl hln) rfl (fun s5 S5 => ?_) (.inr hln)
          refine wpAny_mono ((hsu a o4 cls d (X.pn ++ pins) k2 ⟨_, k3⟩).run [] s5 _ q' _ S5 (hyes rfl a na)) (fun fl s6 r => ?_) (fun _ _ z => z.elim)
          have forget : ∀ {p6 : L2.St} {q6 : Hp} {G : Shared → Prop}, Inv (X.suite a ((a, o4) :: (X.pn ++ pins))) [] p6 q6 s6 → (∀ s7, Inv X pins (p6.set i none) q6 s7 → G s7) →
              wpAny (model X.prog X.w) X.A (do bindName X.env n .none; unbindBehindTheSuite X.env n n2) (fun _ s7 => G s7) X.xe s6 := fun {p6 q6 G} S6 hq => gone_ok (S6.unsuite okX) hN hi hln hq
          match fl, r with
          | .next, ⟨_, _, S6, z⟩ => exact forget S6 fun s7 J7 => ⟨_, _, J7, z⟩
          | .brk, ⟨_, _, S6, z⟩ => exact forget S6 fun s7 J7 => ⟨_, _, J7, z⟩
          | .cont, ⟨_, _, S6, z⟩ => exact forget S6 fun s7 J7 => ⟨_, _, J7, z⟩
          | .ret u, ⟨_, _, _, S6, r6, z⟩ => exact forget S6 fun s7 J7 => ⟨_, _, _, J7, r6, z⟩
    exact all hh want
  · match fl, done with
    | .next, ⟨_, _, J', z⟩ => exact wpAny_execs_nil ⟨_, _, J'.ofTry okX, z⟩
    | .brk, ⟨_, _, J', z⟩ => exact ⟨_, _, J'.ofTry okX, z⟩
    | .cont, ⟨_, _, J', z⟩ => exact ⟨_, _, J'.ofTry okX, z⟩
    | .ret u, ⟨_, _, _, J', r, z⟩ => exact ⟨_, _, _, J'.ofTry okX, r, z⟩
end
end Fp

/-! Dividing: what it tells is a rest; how big things get; bags told backward. -/
namespace Fp
open PySem PySem.W
section
variable {p : Int} {F L : Bg} {t : Str}
theorem word_good {t : Str} (hp : 1 < p) : Good p [(t, (1 : Int))] := ⟨by unfold keys; simp, fun kv h => by rw [List.mem_singleton.mp h]; exact (by decide : (0 : Int) < 1), fun kv h => by rw [List.mem_singleton.mp h]; exact hp⟩
theorem eqv_len {s u : Bg} (gs : Good p s) (gu : Good p u) (h : Eqv s u) : s.length = u.length := by
  have := (keys_perm gs gu (eqv_cf h)).length_eq
  unfold keys at this
  rwa [List.length_map, List.length_map] at this
theorem eqv_of_cf {s u : Bg} (h : ∀ w, cf s w = cf u w) : Eqv s u := fun l => h _
/-- what dividing tells is a rest -/
theorem DivR.sound {f : Bg} {r : Option Bg} (hp : Prm p) (gF : Good p F) (hF : F ≠ []) (h : DivR p F L f r) : ∀ {g : Bg}, r = some g → Good p L → Good p f → (∀ u ∈ keys f, L ≠ [] → leW (lead F ++ u) (lead L) = true ∧ lead F ++ u ≠ lead L) → Good p g ∧ Eqv (plusS p L (prodS p F f) 1) (prodS p F g) := by
  have hp0 : 0 < p := by have := hp.pos; omega
  induction h with
  | @done f =>
    intro g e gL gf hd
    obtain rfl := Option.some.inj e
    refine ⟨gf, fun l => ?_⟩
    rw [cl_plus hp0 Good.nil (Good.prod hp0 F f).nd]
    have : cl [] l = 0 := rfl
    rw [this, Int.zero_add, Int.one_mul]
    exact cl_mod hp0 (Good.prod hp0 F f) l
  | stop q1 q2 => intro g e; cases e
  | @step L f r t q1 q2 _ ih =>
    intro g e gL gf hd
    have hk := divK_bd hp gF gL hF q1
    have hl := divL_lead hp gF gL hF q1 q2
    have ht : t ∉ keys f := fun z => (hd t z q1).2 q2.symm
    have gf' := gf.put (w := t) hk.1 hk.2
    obtain ⟨gg, e2⟩ := ih e (divL_good hp gL) gf' (fun u hu hne => by
      obtain ⟨l1, l2⟩ := hl hne
      have hu' : u ∈ keys f ∨ u = t := by
        rw [keys_put] at hu
        split at hu
        · exact .inl hu
        · rcases List.mem_append.mp hu with z | z
          · exact .inl z
          · exact .inr (List.mem_singleton.mp z)
      rcases hu' with z | z
      · obtain ⟨m1, m2⟩ := hd u z q1
        refine ⟨leW_total.trans _ _ _ m1 l1, fun e => m2 (leW_anti m1 ?_)⟩
        rw [e]
        exact l1
      · rw [z, ← q2]
        exact ⟨l1, l2⟩)
    refine ⟨gg, Eqv.trans (fun l => ?_) e2⟩
    have gt : Good p [(t, (1 : Int))] := word_good hp.pos
    have ef : Eqv (putS f t (divK p F L)) (plusS p f [(t, 1)] (divK p F L)) := eqv_of_cf fun w => by
      rw [cf_put, cf_plus hp0 gf gt.nd]
      by_cases h : w = t
      · subst h
        rw [if_pos rfl, cf_not_mem ht, cf_pos rfl, Int.zero_add, Int.mul_one, Int.emod_eq_of_lt (by omega) hk.2]
      · rw [if_neg h, cf_neg (fun z => h z.symm), cf_nil, Int.mul_zero, Int.add_zero]
        exact (cf_mod hp0 gf w).symm
    have e3 : Eqv (prodS p F (putS f t (divK p F L))) (plusS p (prodS p F f) (withB F t) (divK p F L)) := by
      refine (prod_congr hp0 gF.nd gf'.nd gF.nd (Good.plus hp0 gf _).nd (Eqv.refl _) ef).trans ?_
      rw [← prod_word t gF]
      exact distrib_r hp0 gF gf gt _
    rw [cl_plus hp0 gL (Good.prod hp0 F f).nd, cl_plus hp0 (divL_good hp gL) (Good.prod hp0 F _).nd, e3 l, cl_plus hp0 (Good.prod hp0 F f) (withB_nodup gF.nd)]
    unfold divL
    rw [cl_plus hp0 gL (withB_nodup gF.nd), Int.one_mul, Int.one_mul, ← Int.add_emod]
    congr 1
    rw [Int.neg_mul]
    omega
/-- dividing comes to an end -/
theorem DivR.ends {n : Nat} (hp : Prm p) (gF : Good p F) (hF : F ≠ []) (bF : Bd n F) : ∀ (m : Nat) {L f : Bg}, mu n L < m → Good p L → Bd n L → ∃ r, DivR p F L f r
  | 0, _, _, h, _, _ => absurd h (Nat.not_lt_zero _)
  | m + 1, L, f, h, gL, bL => by
    by_cases hL : L = []
    · subst hL; exact ⟨_, .done⟩
    · by_cases ht : ∃ t, lead L = lead F ++ t
      · obtain ⟨t, ht⟩ := ht
        have h1 := divL_mu hp gF gL hF hL bL ht
        obtain ⟨r, hr⟩ := DivR.ends hp gF hF bF m (L := divL p F L t) (f := putS f t (divK p F L)) (by omega) (divL_good hp gL) (divL_bd bF bL hL ht)
        exact ⟨r, .step hL ht hr⟩
      · exact ⟨_, .stop hL ht⟩
theorem DivR.sound0 {r : Option Bg} {g : Bg} (hp : Prm p) (gF : Good p F) (hF : F ≠ []) (h : DivR p F L [] r) (e : r = some g) (gL : Good p L) : Good p g ∧ Eqv L (prodS p F g) := by
  have hp0 : 0 < p := by have := hp.pos; omega
  obtain ⟨h1, h2⟩ := h.sound hp gF hF e gL Good.nil (fun _ z => nomatch z)
  refine ⟨h1, Eqv.trans (fun l => ?_) h2⟩
  rw [prod_nil, cl_plus hp0 gL (Good.nil (p := p)).nd]
  have : cl [] l = 0 := rfl
  rw [this, Int.mul_zero, Int.add_zero]
  exact (cl_mod hp0 gL l).symm
theorem DivR.planted0 {r : Option Bg} {R : Bg} (hp : Prm p) (gF : Good p F) (hF : F ≠ []) (h : DivR p F L [] r) (gL : Good p L) (gR : Good p R) (e : Eqv L (prodS p F R)) : ∃ f, r = some f ∧ Good p f ∧ Eqv f R := by
  obtain ⟨f, h1, h2, h3⟩ := h.planted hp gF hF gL gR Good.nil e (fun _ _ z => nomatch z)
  exact ⟨f, h1, h2, eqv_of_cf fun w => by rw [h3 w, cf_nil, Int.zero_add]⟩
/-! ### how big things get -/
structure DivJ (p : Int) (F L : Bg) (J : Bg → Bg → Prop) : Prop where
  start : J L []
  step : ∀ L' f' t, J L' f' → L' ≠ [] → lead L' = lead F ++ t → J (divL p F L' t) (putS f' t (divK p F L'))
  size : ∀ L' f', J L' f' → L'.length ≤ 3000000 ∧ f'.length ≤ 3000000
theorem Bd.put' {n : Nat} {s : Bg} {t : Str} {k : Int} (h : Bd n s) (h1 : t.length ≤ n) (h2 : Ltr t.cps.toList) : Bd n (putS s t k) := fun u hu => by
  rw [keys_put] at hu
  split at hu
  · exact h u hu
  · rcases List.mem_append.mp hu with hu | hu
    · exact h u hu
    · rw [List.mem_singleton.mp hu]; exact ⟨h1, h2⟩
theorem tail_bd {n : Nat} (bL : Bd n L) (hL : L ≠ []) (ht : lead L = lead F ++ t) : t.length ≤ n ∧ Ltr t.cps.toList := by
  have h1 := bL _ (lead_mem hL)
  rw [ht, len_app, app_toList] at h1
  exact ⟨by omega, fun c hc => h1.2 c (List.mem_append_right _ hc)⟩
theorem DivJ.small {n : Nat} (hp : Prm p) (gF : Good p F) (hF : F ≠ []) (gL : Good p L) (bF : Bd n F) (bL : Bd n L) (hU : lenU n ≤ 3000000) : DivJ p F L fun L' f' => Good p L' ∧ Bd n L' ∧ Good p f' ∧ Bd n f' where
  start := ⟨gL, bL, Good.nil, fun _ h => nomatch h⟩
  step := fun L' f' t ⟨g1, b1, g2, b2⟩ hne ht => by
    have hk := divK_bd hp gF g1 hF hne
    obtain ⟨t1, t2⟩ := tail_bd b1 hne ht
    exact ⟨divL_good hp g1, divL_bd bF b1 hne ht, g2.put hk.1 hk.2, b2.put' t1 t2⟩
  size := fun L' f' ⟨g1, b1, g2, b2⟩ => ⟨Nat.le_trans (b1.len g1.nd) hU, Nat.le_trans (b2.len g2.nd) hU⟩
theorem DivJ.stop (h : ¬ ∃ t, lead L = lead F ++ t) (hl : L.length ≤ 3000000) : DivJ p F L fun L' f' => L' = L ∧ f' = [] where
  start := ⟨rfl, rfl⟩
  step := fun L' f' t ⟨e, _⟩ hne ht => absurd ⟨t, by rw [← e]; exact ht⟩ h
  size := fun L' f' ⟨e1, e2⟩ => by rw [e1, e2]; exact ⟨hl, Nat.zero_le _⟩
theorem drop_len {s : Bg} {t : Str} (hn : (keys s).Nodup) (h : t ∈ keys s) : (dropS s t).length + 1 ≤ s.length := by
  have h1 := len_sub (l := t :: keys (dropS s t)) (m := keys s) (List.nodup_cons.mpr ⟨fun z => by
    rw [keys_drop] at z
    exact absurd (List.mem_filter.mp z).2 (by simp), by rw [keys_drop]; exact hn.filter _⟩) (fun u hu => by
    rcases List.mem_cons.mp hu with z | z
    · rw [z]; exact h
    · rw [keys_drop] at z
      exact (List.mem_filter.mp z).1)
  unfold keys at h1
  rw [List.length_cons, List.length_map, List.length_map] at h1
  exact h1
/-- a product and short words more -/
theorem DivJ.long {R S : Bg} (hp : Prm p) (gF : Good p F) (hF : F ≠ []) (gL : Good p L) (gR : Good p R) (gS : Good p S) (hS : ∀ u ∈ keys S, u.length < (lead F).length) (he : Eqv L (plusS p (prodS p F R) S 1)) (hm : F.length * R.length + S.length ≤ 3000000) (hr : R.length ≤ 3000000) :
    DivJ p F L fun L' f' => ∃ R', Good p R' ∧ Good p L' ∧ Eqv L' (plusS p (prodS p F R') S 1) ∧ f'.length + R'.length ≤ R.length where
  start := ⟨R, gR, gL, he, by simp⟩
  step := fun L' f' t ⟨R', gR', gL', he', hlen⟩ hne ht => by
    have hp0 : 0 < p := by have := hp.pos; omega
    have hcf : ∀ w, cf L' w = (cf (prodS p F R') w + cf S w) % p := fun w => by rw [eqv_cf he' w, cf_plus hp0 (Good.prod hp0 F R') gS.nd, Int.one_mul]
    have hlS : ∀ w, (lead F).length ≤ w.length → cf S w = 0 := fun w hw => cf_not_mem fun z => by
      have := hS w z
      omega
    have hcl : ∀ w, (lead F).length ≤ w.length → cf L' w = cf (prodS p F R') w := fun w hw => by rw [hcf w, hlS w hw, Int.add_zero]; exact cf_mod hp0 (Good.prod hp0 F R') w
    have hll : (lead F).length ≤ (lead L').length := by rw [ht, len_app]; omega
    have hmem : lead L' ∈ keys (prodS p F R') := by
      rw [cf_ne (Good.prod hp0 F R'), ← hcl _ hll]
      exact (cf_ne gL').mp (lead_mem hne)
    have hR' : R' ≠ [] := fun z => by
      subst z
      rw [prod_nil] at hmem
      cases hmem
    obtain ⟨m1, m2, m3⟩ := prod_lead hp gF gR' hF hR'
    have hle := lead_len hmem
    have hin : lead (prodS p F R') ∈ keys L' := by
      rw [cf_ne gL', hcl _ (by omega)]
      rw [m2]
      exact (cf_ne (Good.prod hp0 F R')).mp m1
    have el : lead L' = lead (prodS p F R') := leW_anti (lead_le hin) (lead_le hmem)
    obtain rfl : t = lead R' := app_cancel_l (ht.symm.trans (el.trans m2))
    have ek : divK p F L' = cf R' (lead R') := by
      unfold divK
      rw [hcl _ hll, el, m2, m3]
      exact step_back hp (cf_pos_of gR' (lead_mem hR')) (cf_lt_of hp0 gR') (cf_pos_of gF (lead_mem hF)) (cf_lt_of hp0 gF)
    have gw : Good p [(lead R', (1 : Int))] := word_good hp.pos
    have hd : Eqv (dropS R' (lead R')) (plusS p R' [(lead R', 1)] (-(divK p F L'))) := eqv_of_cf fun w => by
      rw [cf_drop, cf_plus hp0 gR' gw.nd]
      by_cases h : w = lead R'
      · subst h
        rw [if_pos rfl, cf_pos rfl, ek, Int.mul_one, Int.add_right_neg]
        exact (Int.zero_emod p).symm
      · rw [if_neg h, cf_neg (fun z => h z.symm), cf_nil, Int.mul_zero, Int.add_zero]
        exact (cf_mod hp0 gR' w).symm
    refine ⟨dropS R' (lead R'), gR'.drop, divL_good hp gL', fun l => ?_, ?_⟩
    · have e3 : Eqv (prodS p F (dropS R' (lead R'))) (plusS p (prodS p F R') (withB F (lead R')) (-(divK p F L'))) := by
        refine (prod_congr hp0 gF.nd gR'.drop.nd gF.nd (Good.plus hp0 gR' _).nd (Eqv.refl _) hd).trans ?_
        rw [← prod_word (lead R') gF]
        exact distrib_r hp0 gF gR' gw _
      unfold divL
      rw [cl_plus hp0 gL' (withB_nodup gF.nd), he' l, cl_plus hp0 (Good.prod hp0 F R') gS.nd, cl_plus hp0 (Good.prod hp0 F _) gS.nd, e3 l, cl_plus hp0 (Good.prod hp0 F R') (withB_nodup gF.nd), Int.emod_add_emod, Int.emod_add_emod]
      congr 1
      omega
    · have h1 := drop_len gR'.nd (lead_mem hR')
      have h2 := len_put f' (lead R') (divK p F L')
      omega
  size := fun L' f' ⟨R', gR', gL', he', hlen⟩ => by
    have hp0 : 0 < p := by have := hp.pos; omega
    have h1 := eqv_len gL' (Good.plus hp0 (Good.prod hp0 F R') S) he'
    have h2 := len_plus (p := p) (s := prodS p F R') (t := S) 1
    have h3 := len_prod (p := p) (s := F) (t := R')
    have h4 : F.length * R'.length ≤ F.length * R.length := Nat.mul_le_mul_left _ (by omega)
    exact ⟨by omega, by omega⟩
end
/-! ### bags told backward -/
def revW (w : Str) : Str := ofL w.cps.toList.reverse
theorem revW_revW (w : Str) : revW (revW w) = w := by
  unfold revW
  rw [toList_ofL, List.reverse_reverse, ofL_toList]
theorem revW_app (a b : Str) : revW (a ++ b) = revW b ++ revW a := by
  unfold revW
  rw [app_toList, List.reverse_append, ofL_app]
theorem revW_inj {a b : Str} (h : revW a = revW b) : a = b := by rw [← revW_revW a, h, revW_revW]
theorem revW_len (w : Str) : (revW w).length = w.length := by
  rw [← str_len, ← str_len]
  unfold revW
  rw [toList_ofL, List.length_reverse]
def turnS (s : Bg) : Bg := s.map fun kv => (revW kv.1, kv.2)
theorem turnS_turnS (s : Bg) : turnS (turnS s) = s := by
  unfold turnS
  rw [List.map_map]
  conv => rhs; rw [← List.map_id s]
  refine List.map_congr_left fun kv _ => ?_
  simp [revW_revW]
theorem turn_keys (s : Bg) : keys (turnS s) = (keys s).map revW := by
  unfold turnS keys
  rw [List.map_map, List.map_map]
  rfl
theorem turn_nodup {s : Bg} (h : (keys s).Nodup) : (keys (turnS s)).Nodup := by
  rw [turn_keys]
  exact List.Pairwise.map _ (fun a b q e => q (revW_inj e)) h
theorem turn_good {p : Int} {s : Bg} (g : Good p s) : Good p (turnS s) := ⟨turn_nodup g.nd, fun kv h => by
    obtain ⟨q, hq, rfl⟩ := List.mem_map.mp h
    exact g.lo q hq, fun kv h => by
    obtain ⟨q, hq, rfl⟩ := List.mem_map.mp h
    exact g.hi q hq⟩
theorem turn_len (s : Bg) : (turnS s).length = s.length := List.length_map _
theorem turn_ne {s : Bg} (h : s ≠ []) : turnS s ≠ [] := fun e => h (List.map_eq_nil_iff.mp e)
theorem cf_turn {s : Bg} (hn : (keys s).Nodup) (w : Str) : cf (turnS s) w = cf s (revW w) := by
  by_cases h : revW w ∈ keys s
  · obtain ⟨n, hm⟩ := mem_keys.mp h
    rw [cf_of_mem hn hm, cf_of_mem (turn_nodup hn) (n := n) (List.mem_map.mpr ⟨_, hm, by simp [revW_revW]⟩)]
  · rw [cf_not_mem h, cf_not_mem]
    rw [turn_keys]
    intro z
    obtain ⟨v, hv, e⟩ := List.mem_map.mp z
    exact h (by rw [← e, revW_revW]; exact hv)
theorem turn_eqv {s u : Bg} (hs : (keys s).Nodup) (hu : (keys u).Nodup) (h : Eqv s u) : Eqv (turnS s) (turnS u) := eqv_of_cf fun w => by rw [cf_turn hs, cf_turn hu, eqv_cf h]
theorem turn_prod {p : Int} {s u : Bg} (hp : 0 < p) : Eqv (turnS (prodS p s u)) (prodS p (turnS u) (turnS s)) := eqv_of_cf fun w => by
  rw [cf_turn (Good.prod hp s u).nd, cf_prod hp, cf_prod hp]
  congr 1
  unfold cvS turnS
  rw [sumL_map, sumL_swap]
  refine sumL_congr fun b _ => ?_
  rw [sumL_map]
  refine sumL_congr fun a _ => ?_
  by_cases h : a.1 ++ b.1 = revW w
  · rw [if_pos h, if_pos]
    · exact Int.mul_comm _ _
    · show revW b.1 ++ revW a.1 = w
      rw [← revW_app, h, revW_revW]
  · rw [if_neg h, if_neg]
    intro e
    refine h ?_
    rw [← e]
    show _ = revW (revW b.1 ++ revW a.1)
    rw [← revW_app, revW_revW]
theorem turn_bd {n : Nat} {s : Bg} (h : Bd n s) : Bd n (turnS s) := fun u hu => by
  rw [turn_keys] at hu
  obtain ⟨v, hv, rfl⟩ := List.mem_map.mp hu
  rw [revW_len]
  refine ⟨(h v hv).1, fun c hc => (h v hv).2 c ?_⟩
  unfold revW at hc
  rw [toList_ofL] at hc
  exact List.mem_reverse.mp hc
end Fp

/-! A text told backward. -/
namespace Fp
open PySem L2 PyProof.Rows
section
variable {X : Cx}
theorem rev_sliceBy (x : Str) (u : Tok) : Txt.sliceBy x none none (-1, u) = revW x := by
  refine str_ext ?_
  rw [step_rev_list]
  unfold revW
  rw [toList_ofL]
  refine List.ext_getElem? fun i => ?_
  rcases Nat.lt_or_ge i x.length with h | h
  · have h2 : x.length - 1 - i < x.cps.toList.length := by rw [str_len]; omega
    rw [List.getElem?_map, List.getElem?_range h, List.getElem?_reverse (by rw [str_len]; exact h), str_len, List.getElem?_eq_getElem h2]
    have h3 : x.length - 1 - i < x.cps.size := by show _ < x.length; omega
    show some (x.cps.getD (x.length - 1 - i) 0) = _
    simp [Array.getD, h3]
  · rw [List.getElem?_eq_none (by simp; exact h), List.getElem?_eq_none (by rw [List.length_reverse, str_len]; exact h)]
def tRevS (te : TE) : TE := fun σ H Q => te σ H fun x H1 => ∃ z, x = .str z ∧ z.length ≤ sizeLine ∧ Q (.str (revW z)) H1
theorem g_revS {te : TE} {σ : L2.St} {H : Hp} {Q : VK} (h : te σ H fun x H1 => ∃ z, x = .str z ∧ z.length ≤ sizeLine ∧ Q (.str (revW z)) H1) : tRevS te σ H Q := h
theorem pe_revS {e : Expr} {te : TE} {k : Nat} {p1 p2 p3 pos : Pos} (he : PE X e te) : PE X (.Subscript e (.Slice none none (some (.UnaryOp .USub (.Constant (.int 1) k p1) p2)) p3) pos) (tRevS te) := by
  refine ⟨fun pins s σ H Q I h => ?_⟩
  refine Subscript_ (thn (he.run pins s σ H _ I h) fun v s1 ⟨x, H1, I1, r1, q1⟩ => ?_)
  obtain ⟨z, ex, hz, q⟩ := q1
  subst ex
  obtain ⟨t, rfl⟩ := r1
  have hst : PO X (some (.UnaryOp .USub (.Constant (.int 1) k p1) p2)) (tPart (tUn (rU fun i => .int (-i)) (tC (.int 1)))) := po_some (pe_un un_neg pe_int)
  refine wpAny_Slice (thn (po_none.run pins s1 σ H1 (fun o H2 => o = none ∧ H2 = H1) I1 ⟨rfl, rfl⟩) fun vl s2 ⟨l, H2, I2, pl, el, e2⟩ => ?_)
  subst el e2
  refine thn (po_none.run pins s2 σ H2 (fun o H3 => o = none ∧ H3 = H2) I2 ⟨rfl, rfl⟩) fun vu s3 ⟨u, H3, I3, pu, eu, e3⟩ => ?_
  subst eu e3
  refine thn (hst.run pins s3 σ H3 (fun o H4 => o = some (-1) ∧ H4 = H3) I3 ⟨1, rfl, -1, rfl, rfl, rfl⟩) fun vs s4 ⟨o, H4, I4, ps, eo, e4⟩ => ?_
  subst eo e4
  have I5 : Inv X pins σ H4 { s4 with heap := s4.heap.push { cls := .type "slice", data := .fields #[vl, vu, vs] } } := I4.kept (t' := s4.toks) fun b ob q => Heap.get?_push_of_some _ q
  show wpAny (model X.prog X.w) X.A (subscriptTail e (.Slice none none (some (.UnaryOp .USub (.Constant (.int 1) k p1) p2)) p3) (.str z t) (.ref s4.heap.objs.size)) (EP X pins σ Q) X.xe { s4 with heap := s4.heap.push { cls := .type "slice", data := .fields #[vl, vu, vs] } }
  obtain ⟨l, rfl, el⟩ := IsPart.raw pl
  obtain ⟨u, rfl, eu⟩ := IsPart.raw pu
  obtain ⟨sv, rfl, es⟩ := IsPart.raw ps
  have hl : l = none := by cases l with | none => rfl | some q => cases el
  have hu : u = none := by cases u with | none => rfl | some q => cases eu
  subst hl hu
  obtain ⟨⟨j, tk⟩, rfl⟩ : ∃ q, sv = some q := by cases sv with | none => cases es | some q => exact ⟨q, rfl⟩
  obtain rfl : j = -1 := Option.some.inj es
  refine tail_any (ops := [.ref s4.heap.objs.size, .str z t]) (typeIs_str _ z t) F.slot_str_getitem.lookup (wpAny_getItem_str_slice (l := none) (u := none) (st := some (-1, tk)) ⟨_, Heap.get?_push_size _ rfl, rfl, rfl⟩ rfl ?_) (by with_unfolding_all rfl)
  have hsm : sliceMade z t none none (some (-1, tk)) = Made.str (revW z) := by
    rw [← rev_sliceBy z tk]
    rfl
  rw [hsm]
  exact ⟨by rw [revW_len]; exact hz, .str _, H4, I5.tok _, ⟨_, rfl⟩, q⟩
end
end Fp

namespace Fp
open PySem L2
section
variable {P : Program} {w : World} {K : PySem.W.Frag} {mg : Str → Option Value} {base : Heap} {C_Bag : Addr} {Cs : Addr → Prop}
local macro_rules | `(tactic| walk_at "hp") => `(tactic| first | assumption | rfl)
local macro_rules | `(tactic| walk_at "cond") => `(tactic| first | assumption | decide | omega | (unfold CMul; omega) | (refine ⟨?_, ?_⟩ <;> omega) | (unfold CDiv; omega) | (unfold CPow; omega))
local macro_rules | `(tactic| walk_at "g1") => `(tactic| first
  | with_reducible first
    | refine g_seq ?_ | refine g_asg ?_ | refine g_name ?_ | refine g_ret ?_ | refine g_retN ?_ | refine g_drop ?_ | refine g_ifs ?_
    | refine g_c ?_ | refine g_op ?_ | refine g_un ?_ | refine g_I0 ?_ | refine g_U ?_
    | refine g_test ?_ | refine g_tB ?_ | refine g_bl ?_ | refine g_and ?_ | refine g_or ?_ | refine g_not ?_
    | refine g_andV ?_ | refine g_orV ?_ | refine g_notV ?_ | refine g_if ?_ | refine g_nil ?_ | refine g_cons ?_ | refine g_cb ?_ | refine g_call ?_
    | refine g_lst ?_ | refine g_tup ?_ | refine g_itT ?_ | refine g_itF ?_ | refine g_itNT ?_ | refine g_itNF ?_ | refine g_lc ?_ | refine g_iStr ?_ | refine g_yes ?_ | refine g_exs ?_
    | refine g_chain ?_ | refine g_dget ?_ | refine g_dput ?_ | refine g_dget2 ?_ | refine g_dpop2 ?_ | refine g_fld ?_ | refine g_sfld ?_ | refine g_make ?_ | refine g_meth ?_
    | refine g_bm ?_ | refine g_kw ?_ | refine g_callS ?_ | refine g_revL ?_ | refine g_m1 ?_ | refine g_gsub ?_ | refine g_for ?_ | refine g_iList ?_ | refine g_iTup ?_ | refine g_iRng1 ?_ | refine g_iRng2 ?_ | refine g_sl ?_ | refine g_part ?_ | refine g_noPart ?_
    | refine g_exi ?_ | refine g_exr ?_ | refine g_dnew ?_ | refine g_disp ?_ | refine g_prs0 ?_ | refine g_prs ?_ | refine g_nxt ?_
  | ((with_reducible refine g_var (v := ?vv) ?gv ?_); (case gv => exact rfl))
  | ((with_reducible refine g_I ?gc ?_); (case gc => walk_at "cond"))
  | ((with_reducible refine g_eq ?ge ?_); (case ge => exact rfl))
  | ((with_reducible refine g_ne ?ge ?_); (case ge => exact rfl))
  | (refine g_ixl (SqL.of (by first | assumption | exact upd_same)) rfl ?_)
  | (refine g_setl (by first | assumption | exact upd_same) rfl ?_)
  | ((with_reducible show (∃ i, [V.int _] = [V.int i] ∧ _) ∨ _); refine Or.inl ⟨_, rfl, ?_⟩)
  | ((with_reducible show ∃ i, [V.int _] = [V.int i] ∧ _); refine ⟨_, rfl, ?_⟩)
  | dsimp only)
local macro_rules | `(tactic| walk_at "go") => `(tactic| repeat (walk_at "g1"))

local macro_rules | `(tactic| walk_at "ex") => `(tactic| first
  | assumption
  | exact Ex.refl _
  | (refine Ex.trans ?_ (by assumption); walk_at "ex")
  | (refine BagAt.ex' (by assumption) ?_; walk_at "ex")
  | (refine TapeAt.ex' (by assumption) ?_; walk_at "ex")
  | (refine Ex.at' (by assumption) ?_; walk_at "ex")
  | (refine SqL.of ?_; walk_at "ex")
  | (refine SqT.of ?_; walk_at "ex")
  | (refine Or.inl ?_; walk_at "ex")
  | (refine tape_dk (by assumption) (by assumption) ?_; walk_at "ex"))

/-! ### bags that are made raw -/
def sp_raw_init (C_Raw : Addr) (Cs : Addr → Prop) : Sp := fun vs H Q _ => ∃ (x d : Addr) (p : Int) (s : Bg) (dx : Addr), vs = [.ref x, .int p, .ref d] ∧ H x = some (.ins C_Raw dx []) ∧ H d = some (.dK (toK s)) ∧ s.length ≤ 10000000 ∧ (∀ u ∈ keys s, u.length ≤ 10000000) ∧ (keys s).Nodup ∧
  ∀ H', ExB x H H' → BagAt Cs H' x p s → Q .non H'
theorem ok_raw_init {C_Raw : Addr} {f : Addr} {fd : FuncData} (F : Fun K "__init__" "RawBag.__init__" s_RawBag_init f fd) (T : Txt K mg C_Bag Cs) (hR : Cs C_Raw) (D_mt_RawBag_keep : MtOk P w K mg base CX0 5 C_Raw "keep" ["self", "clock", "sparse"] (sp_keep Cs)) : FnOk P w K mg base CX0 6 f fd ["self", "clock", "sparse"] (sp_raw_init C_Raw Cs) := by
  refine F.ok sc_RawBag_init (fun vs H Q E h => ?_) (fun cdv A outer s H vs Q E hr h => ?_)
  · obtain ⟨x, d, p, s, dx, rfl, _⟩ := h
    rfl
  · obtain ⟨x, d, p, s, dx, rfl, hx, hd, hz, hw, hn, k⟩ := h
    have hxd : d ≠ x := fun e => by subst e; rw [hx] at hd; cases hd
    have hu := hu_of hr; have hu64 := L2.Room.units hr; refine ⟨_, (pss_one (ps_expr (pe_mtD D_mt_RawBag_keep (hr.mono (by decide)) pass0 (pv 0) (pa_cons (pv 1) (pa_cons (pv 2) pa_nil))))), ?_⟩; rw [st_RawBag_init]; (try dsimp only [cxOf]); walk_at "go"
    refine ⟨x, dx, [], rfl, hx, rfl, ?_⟩
    walk_at "go"
    refine ⟨x, d, p, s, C_Raw, dx, rfl, hx, hR, hd, hz, hw, hn, fun k1 t H2 e2 h2 hw' => ?_⟩
    exact k H2 e2 ⟨C_Raw, dx, d, k1, t, hR, h2, e2 _ _ hxd hd, hw'⟩
def sp_raw (Cs : Addr → Prop) : Sp := fun vs H Q _ => ∃ (d : Addr) (p : Int) (s : Bg), vs = [.int p, .ref d] ∧ H d = some (.dK (toK s)) ∧ s.length ≤ 10000000 ∧ (∀ u ∈ keys s, u.length ≤ 10000000) ∧ (keys s).Nodup ∧
  ∀ x H', Ex H H' → H x = none → BagAt Cs H' x p s → Q (.ref x) H'
theorem ok_raw {C_RawBag : Addr} {f : Addr} {fd : FuncData} (F : Fun K "raw" "raw" s_raw f fd) (T : Txt K mg C_Bag Cs) (D_mk_RawBag : MkOk P w K mg base CX0 6 "RawBag" C_RawBag ["self", "clock", "sparse"] (sp_raw_init C_RawBag Cs)) : FnOk P w K mg base CX0 8 f fd ["clock", "sparse"] (sp_raw Cs) := by
  refine F.ok sc_raw (fun vs H Q E h => ?_) (fun cdv A outer s H vs Q E hr h => ?_)
  · obtain ⟨d, p, s, rfl, _⟩ := h
    rfl
  · obtain ⟨d, p, s, rfl, hd, hz, hw, hn, k⟩ := h
    have hu := hu_of hr; have hu64 := L2.Room.units hr; refine ⟨_, (pss_one (ps_ret (pe_mkD D_mk_RawBag (hr.mono (by decide)) rfl pass0 (pa_cons (pv 0) (pa_cons (pv 1) pa_nil))))), ?_⟩; rw [st_raw]; (try dsimp only [cxOf]); walk_at "go"
    intro x dx hx hdx hne
    have hx1 : upd H dx (.own x) x = none := by rw [upd_ne (Ne.symm hne)]; exact hx
    have e1 : Ex H (upd (upd H dx (.own x)) x (.ins C_RawBag dx [])) := (Ex.new hdx).trans (Ex.new hx1)
    exact ⟨x, d, p, s, dx, rfl, upd_same, e1 _ _ hd, hz, hw, hn, fun H' e hb => ⟨rfl, k x H' (fun a o q => e a o (ne_of_none q hx) (e1 _ _ q)) hx hb⟩⟩
/-- two bags by one clock -/
def sp_check_clocks (Cs : Addr → Prop) : Sp := fun vs H Q _ => ∃ (a b : Addr) (p : Int) (s t : Bg), vs = [.ref a, .ref b] ∧ BagAt Cs H a p s ∧ BagAt Cs H b p t ∧ Q .non H
/-- what the classes of errors say of one another -/
structure K72 (K : PySem.W.Frag) (C_Bag C_BagError C0 C1 C2 C_BadBag : Addr) : Prop where
  x0 : ExcC K C0
  x1 : ExcC K C1
  x2 : ExcC K C2
  xB : ExcC K C_BadBag
  m0 : PySem.W.exmOne K (.ref C0) (.ref C_BagError) = some true
  m1 : PySem.W.exmOne K (.ref C1) (.ref C_BagError) = some true
  m2 : PySem.W.exmOne K (.ref C2) (.ref C_BagError) = some true
  k00 : PySem.W.kitOne K (.ref C0) (.ref C0) = some true
  k01 : PySem.W.kitOne K (.ref C0) (.ref C1) = some false
  k02 : PySem.W.kitOne K (.ref C0) (.ref C2) = some false
  k10 : PySem.W.kitOne K (.ref C1) (.ref C0) = some false
  k11 : PySem.W.kitOne K (.ref C1) (.ref C1) = some true
  k12 : PySem.W.kitOne K (.ref C1) (.ref C2) = some false
  k20 : PySem.W.kitOne K (.ref C2) (.ref C0) = some false
  k21 : PySem.W.kitOne K (.ref C2) (.ref C1) = some false
  k22 : PySem.W.kitOne K (.ref C2) (.ref C2) = some true
  v0 : PySem.W.kitOne K (.ref C0) (.type "ValueError") = some true
  v1 : PySem.W.kitOne K (.ref C1) (.type "ValueError") = some true
  v2 : PySem.W.kitOne K (.ref C2) (.type "ValueError") = some true
  s : PySem.W.kitOne K (.ref C_BadBag) (.type "str") = some false
  b : PySem.W.kitOne K (.ref C_BadBag) (.ref C_Bag) = some false
/-! ### errors let out: alphabets, letters, numbers -/
theorem inV_two (z a b : Str) : inV (.str z) [.str a, .str b] = decide (z = a ∨ z = b) := by
  show ((a == z) || ((b == z) || false)) = _
  rw [Bool.or_false]
  by_cases h1 : z = a
  · subst h1
    rw [beq_self_eq_true, Bool.true_or, decide_eq_true (.inl rfl)]
  · rw [show (a == z) = false from beq_eq_false_iff_ne.mpr (Ne.symm h1), Bool.false_or]
    by_cases h2 : z = b
    · subst h2
      rw [beq_self_eq_true, decide_eq_true (.inr rfl)]
    · rw [show (b == z) = false from beq_eq_false_iff_ne.mpr (Ne.symm h2), decide_eq_false (fun h => h.elim h1 h2)]
theorem g_isG {K : PySem.W.Frag} {x c : V} {t u : Value} {b : Bool} {H : Hp} {Q : VK} (hc : ClsV c u) (ht : TyG K H x t) (hk : PySem.W.kitOne K t u = some b) (h : Q (.bl b) H) : rIsiG K [x, c] H Q := ⟨x, c, t, u, b, rfl, hc, ht, hk, h⟩
/-- what is no string -/
def NoStrG (K : PySem.W.Frag) (H : Hp) (x : V) : Prop := ∃ t, TyG K H x t ∧ PySem.W.kitOne K t (.type "str") = some false
def NoAl (K : PySem.W.Frag) (H : Hp) (x : V) : Prop := (∃ z : Str, x = .str z ∧ z.length ≤ 100 ∧ ¬ inAlph z) ∨ NoStrG K H x
def sp_check_alphX (K : PySem.W.Frag) (C_NoAlphabet : Addr) : Sp := fun vs H Q E => ∃ x, vs = [x] ∧ ((NoAl K H x ∧ E (.ref C_NoAlphabet) none H) ∨ ∃ z, x = .str z ∧ inAlph z ∧ Q .non H)
theorem ok_check_alphabetX {C_NoAlphabet : Addr} {f : Addr} {fd : FuncData} (F : Fun K "check_alphabet" "check_alphabet" s_check_alphabet f fd) (T : Txt K mg C_Bag Cs) (G_ALPHABETS : ∃ a, mg "ALPHABETS" = some (.ref a) ∧ SqT K (fun _ => none) a [.str "xy", .str "xyz"]) (E_NoAlphabet : ErrC K mg "NoAlphabet" C_NoAlphabet) : FnOk P w K mg base (L2.CX P w) 1 f fd ["thing"] (sp_check_alphX K C_NoAlphabet) := by
  refine F.okX sc_check_alphabet (fun vs H Q E h => ?_) (fun cdv A outer s H vs Q E hr h => ?_)
  · obtain ⟨x, rfl, _⟩ := h
    rfl
  · obtain ⟨x, rfl, h⟩ := h
    obtain ⟨a_ALPHABETS, T_ALPHABETS, hC⟩ := G_ALPHABETS
    have hu := hu_of hr; have hu64 := L2.Room.units hr; refine ⟨_, (pss_one (ps_if (PW.pt (pw_or (pt_not (pt_val (pe_callB (r := rIsiG K) call_isiG (by rfl) T.b_isinstance (by decide +kernel) (pa_cons (pv 0) (pa_cons (pe_bltn (v := .ty "str") rfl T.b_str (by decide +kernel) rfl) pa_nil))))) (pw_or1 (pt_cmpR op_notIn_seq (pv 0) (pe_glob (v := .ref a_ALPHABETS) rfl T_ALPHABETS rfl) (by rfl))))) (pss_one (ps_err rfl (takes_of rfl rfl rfl rfl) E_NoAlphabet rfl)) pss_nil)), ?_⟩; rw [st_check_alphabet]; (try dsimp only [cxOf]); walk_at "go"
    have hC' : SqT K H a_ALPHABETS [.str "xy", .str "xyz"] := hC.elim (fun h => h.elim (fun h => nomatch h) fun ⟨_, h⟩ => nomatch h) .inr
    rcases h with ⟨⟨z, rfl, hzl, hz⟩ | ⟨t, ht, hk⟩, k⟩ | ⟨z, rfl, hz, k⟩
    · refine g_isG (b := true) (.ty "str") (.inl (.base (.str z))) (kit_ty (by decide +kernel)) ?_
      walk_at "go"
      refine ⟨a_ALPHABETS, _, rfl, .inr hC', rfl, rfl, ?_⟩
      rw [if_pos rfl, inV_two, decide_eq_false (show ¬ (z = Str.ofString "xy" ∨ z = Str.ofString "xyz") from hz)]
      walk_at "go"
      exact k
    · refine g_isG (.ty "str") ht hk ?_
      walk_at "go"
      exact k
    · refine g_isG (b := true) (.ty "str") (.inl (.base (.str z))) (kit_ty (by decide +kernel)) ?_
      walk_at "go"
      refine ⟨a_ALPHABETS, _, rfl, .inr hC', rfl, rfl, ?_⟩
      rw [if_pos rfl, inV_two, decide_eq_true (show z = Str.ofString "xy" ∨ z = Str.ofString "xyz" from hz)]
      walk_at "go"
      exact k
def sp_check_overX (K : PySem.W.Frag) (Cs : Addr → Prop) (C_NoAlphabet C_NoLetters : Addr) : Sp := fun vs H Q E => ∃ x y, vs = [x, y] ∧ ((NoAl K H x ∧ E (.ref C_NoAlphabet) none H) ∨ ∃ (z : Str) (a : Addr) (p : Int) (s : Bg), x = .str z ∧ inAlph z ∧ y = .ref a ∧ BagAt Cs H a p s ∧ s.length ≤ 1000 ∧ (∀ u ∈ keys s, u.length ≤ 1000) ∧
  ((¬ ∀ u ∈ keys s, OverS z u) → ∀ H', Ex H H' → E (.ref C_NoLetters) none H') ∧ ((∀ u ∈ keys s, OverS z u) → ∀ H', Ex H H' → Q .non H'))
theorem ok_check_overX {C_NoAlphabet C_NoLetters : Addr} {f : Addr} {fd : FuncData} (F : Fun K "check_over" "check_over" s_check_over f fd) (T : Txt K mg C_Bag Cs) (D_check_alphabetX : DefOk P w K mg base (L2.CX P w) 1 "check_alphabet" ["thing"] (sp_check_alphX K C_NoAlphabet)) (D_is_over : DefOk P w K mg base CX0 1 "is_over" ["alphabet", "bag"] (sp_is_over Cs)) (E_NoLetters : ErrC K mg "NoLetters" C_NoLetters) : FnOk P w K mg base (L2.CX P w) 2 f fd ["alphabet", "bag"] (sp_check_overX K Cs C_NoAlphabet C_NoLetters) := by
  refine F.okX sc_check_over (fun vs H Q E h => ?_) (fun cdv A outer s H vs Q E hr h => ?_)
  · obtain ⟨x, y, rfl, _⟩ := h
    rfl
  · obtain ⟨x, y, rfl, h⟩ := h
    have hu := hu_of hr; have hu64 := L2.Room.units hr; refine ⟨_, (pss_cons (ps_expr (pe_callDX D_check_alphabetX (hr.mono (by decide)) rfl (takes_of rfl rfl rfl rfl) (pa_cons (pv 0) pa_nil))) (pss_one (ps_if (pt_not (pt_val (pe_callD D_is_over (hr.mono (by decide)) rfl pass0 (pa_cons (pv 0) (pa_cons (pv 1) pa_nil))))) (pss_one (ps_err rfl (takes_of rfl rfl rfl rfl) E_NoLetters rfl)) pss_nil))), ?_⟩; rw [st_check_over]; (try dsimp only [cxOf]); walk_at "go"
    rcases h with ⟨hn, k⟩ | ⟨z, a, p, t, rfl, hz, rfl, ha, hn, hl, k1, k2⟩
    · exact ⟨_, rfl, .inl ⟨hn, k⟩⟩
    · refine ⟨_, rfl, .inr ⟨z, rfl, hz, ?_⟩⟩
      walk_at "go"
      refine ⟨z, a, p, t, rfl, ha, hn, hl, fun b H1 e1 hb => ?_⟩
      cases b with
      | true =>
        walk_at "go"
        exact k2 (hb.mp rfl) H1 e1
      | false =>
        walk_at "go"
        exact k1 (fun q => Bool.false_ne_true (hb.mpr q)) H1 e1
def sp_check_numX (K : PySem.W.Frag) (C_NoNumber : Addr) : Sp := fun vs H Q E => ∃ (x : V) (lo hi : Int) (b : Bool), vs = [x, .int lo, .int hi] ∧ WithinIs K H x lo hi b ∧ (b = false → E (.ref C_NoNumber) none H) ∧ (b = true → Q .non H)
theorem ok_check_numberX {C_NoNumber : Addr} {f : Addr} {fd : FuncData} (F : Fun K "check_number" "check_number" s_check_number f fd) (T : Txt K mg C_Bag Cs) (D_is_within : DefOk P w K mg base CX0 2 "is_within" ["thing", "least", "most"] (sp_is_within K)) (E_NoNumber : ErrC K mg "NoNumber" C_NoNumber) : FnOk P w K mg base (L2.CX P w) 3 f fd ["thing", "least", "most"] (sp_check_numX K C_NoNumber) := by
  refine F.okX sc_check_number (fun vs H Q E h => ?_) (fun cdv A outer s H vs Q E hr h => ?_)
  · obtain ⟨x, lo, hi, b, rfl, _⟩ := h
    rfl
  · obtain ⟨x, lo, hi, b, rfl, hw, k1, k2⟩ := h
    have hu := hu_of hr; have hu64 := L2.Room.units hr; refine ⟨_, (pss_one (ps_if (pt_not (pt_val (pe_callD D_is_within (hr.mono (by decide)) rfl pass0 (pa_cons (pv 0) (pa_cons (pv 1) (pa_cons (pv 2) pa_nil)))))) (pss_one (ps_err rfl (takes_of rfl rfl rfl rfl) E_NoNumber rfl)) pss_nil)), ?_⟩; rw [st_check_number]; (try dsimp only [cxOf]); walk_at "go"
    refine ⟨x, lo, hi, b, rfl, hw, ?_⟩
    cases b with
    | true =>
      walk_at "go"
      exact k2 rfl
    | false =>
      walk_at "go"
      exact k1 rfl
/-- a flag for a bag or another thing -/
def sp_is_fullX (K : PySem.W.Frag) (C_Bag : Addr) (Cs : Addr → Prop) (C_NoAlphabet : Addr) : Sp := fun vs H Q E => ∃ x y, vs = [x, y] ∧ ((NoAl K H x ∧ E (.ref C_NoAlphabet) none H) ∨ ∃ z : Str, x = .str z ∧ inAlph z ∧
  ((∃ t, TyG K H y t ∧ PySem.W.kitOne K t (.ref C_Bag) = some false ∧ Q (.bl false) H) ∨ ∃ (a : Addr) (p : Int) (s : Bg), y = .ref a ∧ BagAt Cs H a p s ∧ 0 < p ∧ Good p s ∧ s.length ≤ 1000 ∧ (∀ u ∈ keys s, u.length ≤ 999) ∧ ∀ b H', Ex H H' → (b = true → ∀ u ∈ keys s, OverS z u) → Q (.bl b) H'))
theorem ok_is_fullX {C_NoAlphabet : Addr} {f : Addr} {fd : FuncData} (F : Fun K "is_full" "is_full" s_is_full f fd) (T : Txt K mg C_Bag Cs) (D_check_alphabetX : DefOk P w K mg base (L2.CX P w) 1 "check_alphabet" ["thing"] (sp_check_alphX K C_NoAlphabet)) (D_is_over : DefOk P w K mg base CX0 1 "is_over" ["alphabet", "bag"] (sp_is_over Cs))
    (D_comes_to_one : DefOk P w K mg base CX0 1 "comes_to_one" ["alphabet", "sums"] sp_comes) (D_sums_at_starts : DefOk P w K mg base CX0 4 "sums_at_starts" ["bag"] (sp_sums Cs)) : FnOk P w K mg base (L2.CX P w) 5 f fd ["alphabet", "thing"] (sp_is_fullX K C_Bag Cs C_NoAlphabet) := by
  refine F.okX sc_is_full (fun vs H Q E h => ?_) (fun cdv A outer s H vs Q E hr h => ?_)
  · obtain ⟨x, y, rfl, _⟩ := h
    rfl
  · obtain ⟨x, y, rfl, h⟩ := h
    have hu := hu_of hr; have hu64 := L2.Room.units hr; refine ⟨_, (pss_cons (ps_expr (pe_callDX D_check_alphabetX (hr.mono (by decide)) rfl (takes_of rfl rfl rfl rfl) (pa_cons (pv 0) pa_nil))) (pss_cons (ps_if (PW.pt (pw_or (pt_not (pt_val (pe_callB (r := rIsiG K) call_isiG (by rfl) T.b_isinstance (by decide +kernel) (pa_cons (pv 1) (pa_cons (pe_glob (v := .ref C_Bag) rfl T.c_Bag rfl) pa_nil))))) (pw_or1 (pt_not (pt_val (pe_callD D_is_over (hr.mono (by decide)) rfl pass0 (pa_cons (pv 0) (pa_cons (pv 1) pa_nil)))))))) (pss_one (ps_ret pe_bl)) pss_nil) (pss_one (ps_ret (pe_callD D_comes_to_one (hr.mono (by decide)) rfl pass0 (pa_cons (pv 0) (pa_cons (pe_callD D_sums_at_starts (hr.mono (by decide)) rfl pass0 (pa_cons (pv 1) pa_nil)) pa_nil))))))), ?_⟩; rw [st_is_full]; (try dsimp only [cxOf]); walk_at "go"
    rcases h with ⟨hn, k⟩ | ⟨z, rfl, hz, h⟩
    · exact ⟨_, rfl, .inl ⟨hn, k⟩⟩
    refine ⟨_, rfl, .inr ⟨z, rfl, hz, ?_⟩⟩
    walk_at "go"
    rcases h with ⟨t, ht, hk, k⟩ | ⟨a, p, s, rfl, ha, hp, gs, hn, hl, k⟩
    · refine g_isG (.own C_Bag) ht hk ?_
      walk_at "go"
      exact k
    have hl' : ∀ u ∈ keys s, u.length ≤ 1000 := fun u hu => Nat.le_succ_of_le (hl u hu)
    obtain ⟨C, dx, d, k1, t1, hc, h1, h2, h3⟩ := ha.ex
    refine g_isG (.own C_Bag) (.inl (bag_ty T hc h1)) (T.c_isB C hc) ?_
    walk_at "go"
    refine ⟨z, a, p, s, rfl, ha, hn, hl', fun b H1 e1 hb => ?_⟩
    cases b with
    | false =>
      walk_at "go"
      exact k false H1 e1 (fun q => absurd q Bool.false_ne_true)
    | true =>
      have ho := hb.mp rfl
      walk_at "go"
      refine ⟨a, p, s, rfl, ha.ex' e1, hp, gs, hn, hl', fun d2 t H2 e2 hd2 ht S => ?_⟩
      walk_at "go"
      have hz3 := hz.alph.le
      refine ⟨z, d2, t, rfl, hz3, .inl ht, S.nd, fun u hu => ?_, fun b H3 e3 hb3 => ?_⟩
      · rcases (S.mem u).mp hu with rfl | ⟨v, hv, hp'⟩
        · exact Nat.zero_le _
        · have h5 := hl v hv
          have h6 := hp'.length_le
          rw [str_len, str_len] at h6
          omega
      · exact k b H3 ((e1.trans e2).trans e3) fun _ => ho
def begF (p : Int) (kv : Str × Int) : Option (Str × Int) := if kv.2 ≠ 1 then some (kv.1, (1 - kv.2) % p) else none
def begS (p : Int) (t : Bg) : Bg := t.filterMap (begF p)
theorem begS_nd {p : Int} {t : Bg} (h : (keys t).Nodup) : (keys (begS p t)).Nodup := by
  unfold begS
  induction t with
  | nil => exact .nil
  | cons kv t ih =>
    have hc := List.nodup_cons.mp h
    rw [List.filterMap_cons]
    unfold begF
    split
    · exact ih hc.2
    · rename_i b hb
      split at hb
      · cases hb
        refine List.nodup_cons.mpr ⟨fun z => hc.1 ?_, ih hc.2⟩
        obtain ⟨n, hn⟩ := mem_keys.mp z
        obtain ⟨kv', h1, h2⟩ := List.mem_filterMap.mp hn
        split at h2
        · have e := (Prod.mk.inj (Option.some.inj h2)).1
          exact mem_keys.mpr ⟨kv'.2, by rw [← e]; exact h1⟩
        · cases h2
      · cases hb
theorem begS_key {p : Int} {t : Bg} {u : Str} {n : Int} (h : (u, n) ∈ begS p t) : u ∈ keys t := by
  obtain ⟨kv', h1, h2⟩ := List.mem_filterMap.mp h
  unfold begF at h2
  split at h2
  · have e := (Prod.mk.inj (Option.some.inj h2)).1
    exact mem_keys.mpr ⟨kv'.2, by rw [← e]; exact h1⟩
  · cases h2

def sp_beginX (K : PySem.W.Frag) (Cs : Addr → Prop) (C_NoAlphabet C_NoLetters : Addr) : Sp := fun vs H Q E => ∃ x y, vs = [x, y] ∧ ((NoAl K H x ∧ E (.ref C_NoAlphabet) none H) ∨ ∃ (z : Str) (a : Addr) (p : Int) (s : Bg), x = .str z ∧ inAlph z ∧ y = .ref a ∧ BagAt Cs H a p s ∧ 1 < p ∧ Good p s ∧ s.length ≤ 1000 ∧ (∀ u ∈ keys s, u.length ≤ 999) ∧
  ((¬ ∀ u ∈ keys s, OverS z u) → ∀ H', Ex H H' → E (.ref C_NoLetters) none H') ∧ ((∀ u ∈ keys s, OverS z u) → ∀ v H', Ex H H' → (v = .non ∨ ∃ b q r, v = .ref b ∧ BagAt Cs H' b q r) → Q v H'))
theorem ok_beginningsX {C_NoAlphabet C_NoLetters : Addr} {f : Addr} {fd : FuncData} (F : Fun K "beginnings" "beginnings" s_beginnings f fd) (T : Txt K mg C_Bag Cs) (D_check_overX : DefOk P w K mg base (L2.CX P w) 2 "check_over" ["alphabet", "bag"] (sp_check_overX K Cs C_NoAlphabet C_NoLetters)) (D_sums_at_starts : DefOk P w K mg base CX0 4 "sums_at_starts" ["bag"] (sp_sums Cs))
    (D_comes_to_one : DefOk P w K mg base CX0 1 "comes_to_one" ["alphabet", "sums"] sp_comes) (D_raw : DefOk P w K mg base CX0 8 "raw" ["clock", "sparse"] (sp_raw Cs)) : FnOk P w K mg base (L2.CX P w) 9 f fd ["alphabet", "bag"] (sp_beginX K Cs C_NoAlphabet C_NoLetters) := by
  refine F.okX sc_beginnings (fun vs H Q E h => ?_) (fun cdv A outer s H vs Q E hr h => ?_)
  · obtain ⟨x, y, rfl, _⟩ := h
    rfl
  · obtain ⟨x, y, rfl, h⟩ := h
    have hu := hu_of hr; have hu64 := L2.Room.units hr; refine ⟨_, (pss_cons (ps_expr (pe_callDX D_check_overX (hr.mono (by decide)) rfl (takes_of rfl rfl rfl rfl) (pa_cons (pv 0) (pa_cons (pv 1) pa_nil)))) (pss_cons (ps_set (i := 2) sc_beginnings.nd rfl (by first | exact Or.inl rfl | exact Or.inr rfl) (pe_callD D_sums_at_starts (hr.mono (by decide)) rfl pass0 (pa_cons (pv 1) pa_nil))) (pss_cons (ps_if (pt_not (pt_val (pe_callD D_comes_to_one (hr.mono (by decide)) rfl pass0 (pa_cons (pv 0) (pa_cons (pv 2) pa_nil))))) (pss_one (ps_ret pe_non)) pss_nil) (pss_one (ps_ret (pe_callD D_raw (hr.mono (by decide)) rfl pass0 (pa_cons (pe_fldK (K := K) rfl (pv 1) rfl) (pa_cons (pe_lockR (pe_dc (own := [("word", 3)]) (g := (gName 3)) rfl sc_beginnings.nd (pi_keys (pv 2)) (blkOk_by (N := N_beginnings) (sc := defScope s_beginnings) (by decide +kernel)) (fun _ _ _ _ _ => (pg_name (i := 3) sc_beginnings.nd rfl (by first | exact Or.inl rfl | exact Or.inr rfl))) (fun _ _ _ _ _ => (pts_one (pt_cmpR op_ne (pe_dget hu (pv 2) (pv 3) (fun _ _ => rfl)) pe_int (nomark _)))) (fun _ _ _ _ _ => (pv 3)) (fun _ _ _ _ _ => (pe_op op_mod (pe_op op_sub pe_int (pe_dget hu (pv 2) (pv 3) (fun _ _ => rfl))) (pe_fldK (K := K) rfl (pv 1) rfl))))) pa_nil)))))))), ?_⟩; rw [st_beginnings]; (try dsimp only [cxOf]); walk_at "go"
    rcases h with ⟨hn, k⟩ | ⟨z, x, p, s, rfl, hz, rfl, hx, hp, gs, hn, hl, k1, k2⟩
    · exact ⟨_, _, rfl, .inl ⟨hn, k⟩⟩
    have hl' : ∀ u ∈ keys s, u.length ≤ 1000 := fun u hu => Nat.le_succ_of_le (hl u hu)
    refine ⟨_, _, rfl, .inr ⟨z, x, p, s, rfl, hz, rfl, hx, hn, hl', fun ho H1 e1 => k1 ho H1 e1, fun ho H1 e1 => ?_⟩⟩
    walk_at "go"
    refine ⟨x, p, s, rfl, hx.ex' e1, by omega, gs, hn, hl', fun d2 t H2 e2 hd2 ht S => ?_⟩
    walk_at "go"
    have hz3 := hz.alph.le
    have hlt : ∀ u ∈ keys t, u.length ≤ 1000 := fun u hu => by
      rcases (S.mem u).mp hu with rfl | ⟨v, hv, hp'⟩
      · exact Nat.zero_le _
      · have h5 := hl v hv
        have h6 := hp'.length_le
        rw [str_len, str_len] at h6
        omega
    refine ⟨z, d2, t, rfl, hz3, .inl ht, S.nd, hlt, fun b H3 e3 hb3 => ?_⟩
    have e13 := (e1.trans e2).trans e3
    cases b with
    | false =>
      walk_at "go"
      exact k2 ho _ H3 e13 (.inl rfl)
    | true =>
      walk_at "go"
      obtain ⟨C, dx, db, kk, t1, hc, h1, h2, h3⟩ := (hx.ex' e13).ex
      have ht3 := e3 _ _ ht
      have htn := S.n
      refine ⟨x, C, dx, _, _, rfl, h1, T.cls C hc, T.n_clock C hc, bagF_clock _ _ _ _, ?_⟩
      walk_at "go"
      have bn := begS_nd (p := p) S.nd
      refine dcd_rel (.inl ht3) (Nat.lt_of_le_of_lt htn (by decide)) (fun H' Q' _ q => ⟨_, rfl, q⟩) (begF p) bn (fun _ => rfl) ?_ ?_
      · intro i u n H4 Kc N hi le hk hN
        walk_at "go"
        refine g_dg le.self (getS_at S.nd hi) ?_
        walk_at "go"
        have h1' : H4 x = some (.ins C dx (bagF p db kk t1)) := le.keep _ _ (fun q => by subst q; rw [ht3] at h1; cases h1) h1
        by_cases hn1 : n = 1
        · rw [decide_eq_true (by rw [hn1])]
          refine hN ?_ H4 (Ex.refl _)
          unfold begF
          rw [if_neg (fun q => q hn1)]
        · rw [decide_eq_false (fun e => hn1 (V.int.inj e))]
          walk_at "go"
          refine g_dg le.self (getS_at S.nd hi) ?_
          walk_at "go"
          refine ⟨x, C, dx, _, _, rfl, h1', T.cls C hc, T.n_clock C hc, bagF_clock _ _ _ _, ?_⟩
          walk_at "go"
          refine hk u _ H4 ?_ (Ex.refl _)
          unfold begF
          rw [if_pos hn1]
      · intro D H4 hD e4 hD4
        walk_at "go"
        refine ⟨D, p, begS p t, rfl, hD4, ?_, ?_, bn, fun y H5 e5 hy hb => ?_⟩
        · exact Nat.le_trans (List.length_filterMap_le _ _) (by omega)
        · intro u hu
          obtain ⟨n, hn'⟩ := mem_keys.mp hu
          exact Nat.le_trans (hlt u (begS_key hn')) (by omega)
        · exact k2 ho _ H5 ((e13.trans e4).trans e5) (.inr ⟨y, p, _, rfl, hb⟩)
def sp_unmetX (K : PySem.W.Frag) (Cs : Addr → Prop) (C_NoAlphabet C_NoLetters C_NoNumber : Addr) : Sp := fun vs H Q E => ∃ x y m, vs = [x, y, m] ∧ ((NoAl K H x ∧ E (.ref C_NoAlphabet) none H) ∨ ∃ (z : Str) (a : Addr) (p : Int) (s : Bg), x = .str z ∧ inAlph z ∧ y = .ref a ∧ BagAt Cs H a p s ∧ 0 < p ∧ Good p s ∧ s.length ≤ 1000 ∧ (∀ u ∈ keys s, u.length ≤ 999) ∧
  ((¬ ∀ u ∈ keys s, OverS z u) → ∀ H', Ex H H' → E (.ref C_NoLetters) none H') ∧ ((∀ u ∈ keys s, OverS z u) → ∃ b, (∀ H', Ex H H' → WithinIs K H' m 0 12 b) ∧ (b = false → ∀ H', Ex H H' → E (.ref C_NoNumber) none H') ∧ (b = true → ∃ n : Nat, m = .int n ∧ n ≤ 12 ∧ ∀ v H', Ex H H' → (v = .non ∨ ∃ u : Str, v = .str u ∧ u.length = n) → Q v H')))
theorem opV_some {z : List Nat} {n : Nat} {q : List Nat → Bool} : opV ((allw z n).find? q) = .non ∨ ∃ u : Str, opV ((allw z n).find? q) = .str u ∧ u.length = n := by
  cases h : (allw z n).find? q with
  | none => exact .inl rfl
  | some l =>
    have := (mem_allw.mp (List.mem_of_find?_eq_some h)).1
    refine .inr ⟨ofL l, rfl, ?_⟩
    rw [← str_len, toList_ofL]
    exact this
theorem ok_unmetX {C_NoAlphabet C_NoLetters C_NoNumber : Addr} {f : Addr} {fd : FuncData} (F : Fun K "unmet" "unmet" s_unmet f fd) (T : Txt K mg C_Bag Cs) (D_check_overX : DefOk P w K mg base (L2.CX P w) 2 "check_over" ["alphabet", "bag"] (sp_check_overX K Cs C_NoAlphabet C_NoLetters)) (D_check_numberX : DefOk P w K mg base (L2.CX P w) 3 "check_number" ["thing", "least", "most"] (sp_check_numX K C_NoNumber))
    (D_sums_at_starts : DefOk P w K mg base CX0 4 "sums_at_starts" ["bag"] (sp_sums Cs)) (D_least_unmet : DefOk P w K mg base CX0 14 "least_unmet" ["alphabet", "sums", "word", "most"] (sp_least 13)) : FnOk P w K mg base (L2.CX P w) 15 f fd ["alphabet", "bag", "most"] (sp_unmetX K Cs C_NoAlphabet C_NoLetters C_NoNumber) := by
  refine F.okX sc_unmet (fun vs H Q E h => ?_) (fun cdv A outer s H vs Q E hr h => ?_)
  · obtain ⟨x, y, m, rfl, _⟩ := h
    rfl
  · obtain ⟨x, y, m, rfl, h⟩ := h
    obtain ⟨tM, T_MOST_LETTERS⟩ := T.g_MOST_LETTERS
    have hu := hu_of hr; have hu64 := L2.Room.units hr; refine ⟨_, (pss_cons (ps_expr (pe_callDX D_check_overX (hr.mono (by decide)) rfl (takes_of rfl rfl rfl rfl) (pa_cons (pv 0) (pa_cons (pv 1) pa_nil)))) (pss_cons (ps_expr (pe_callDX D_check_numberX (hr.mono (by decide)) rfl (takes_of rfl rfl rfl rfl) (pa_cons (pv 2) (pa_cons pe_int (pa_cons (pe_glob (v := .int 12) rfl T_MOST_LETTERS ⟨_, rfl⟩) pa_nil))))) (pss_one (ps_ret (pe_callD D_least_unmet (hr.mono (by decide)) rfl pass0 (pa_cons (pv 0) (pa_cons (pe_callD D_sums_at_starts (hr.mono (by decide)) rfl pass0 (pa_cons (pv 1) pa_nil)) (pa_cons pe_str (pa_cons (pv 2) pa_nil))))))))), ?_⟩; rw [st_unmet]; (try dsimp only [cxOf]); walk_at "go"
    rcases h with ⟨hn, k⟩ | ⟨z, x, p, s, rfl, hz, rfl, hx, hp, gs, hn, hl, k1, k2⟩
    · exact ⟨_, _, rfl, .inl ⟨hn, k⟩⟩
    have hl' : ∀ u ∈ keys s, u.length ≤ 1000 := fun u hu => Nat.le_succ_of_le (hl u hu)
    refine ⟨_, _, rfl, .inr ⟨z, x, p, s, rfl, hz, rfl, hx, hn, hl', fun ho H1 e1 => k1 ho H1 e1, fun ho H1 e1 => ?_⟩⟩
    walk_at "go"
    obtain ⟨b, hb, k3, k4⟩ := k2 ho
    refine ⟨m, 0, 12, b, rfl, hb H1 e1, fun q => k3 q H1 e1, fun q => ?_⟩
    obtain ⟨n, rfl, hm, k⟩ := k4 q
    walk_at "go"
    refine ⟨x, p, s, rfl, hx.ex' e1, hp, gs, hn, hl', fun d t H2 e2 hd ht S => ?_⟩
    walk_at "go"
    refine ⟨z, d, t, Str.empty, n, p, s, rfl, hz.alph, .inl ht, S, (S.mem _).mpr (.inl rfl), Nat.zero_le _, by show n + 1 ≤ 0 + 13; omega, by omega, fun H3 e3 => ?_⟩
    have := k _ H3 ((e1.trans e2).trans e3) (opV_some (z := z.cps.toList) (q := bad p (cl s)))
    rwa [← goOn_nil] at this

end
end Fp

namespace Fp
open PySem L2
theorem g_gcons {t : TG} {u : TGs} {v : V} {r : List V} {σ : St} {H : Hp} {Q : St → Hp → Prop} (h : t v σ H fun σ' H' => u r σ' H' Q) : gCons t u (v :: r) σ H Q := ⟨v, r, rfl, h⟩
theorem g_gnil {σ : St} {H : Hp} {Q : St → Hp → Prop} (h : Q σ H) : gNil [] σ H Q := ⟨rfl, h⟩
theorem g_gtup {K : PySem.W.Frag} {n : Nat} {t : TGs} {a : Addr} {xs : List V} {σ : St} {H : Hp} {Q : St → Hp → Prop} (ht : SqT K H a xs) (hn : xs.length = n) (h : t xs σ H Q) : gTup K n t (.ref a) σ H Q := ⟨a, xs, rfl, ht, hn, h⟩
theorem g_zip {K : PySem.W.Frag} {i j : Nat} {σ : St} {H : Hp} {a b : Addr} {xs ys : List V} {R : It → Hp → Prop} (hi : σ[i]? = some (some (.ref a))) (hj : σ[j]? = some (some (.ref b))) (h1 : SqL K H a xs) (h2 : SqL K H b ys) (h : R (Itz K a b) H) : iZip K (tCons (tVar i) (tCons (tVar j) tNil)) σ H R := ⟨_, hi, _, hj, a, b, xs, ys, rfl, h1, h2, h⟩
end Fp

/-! Sets of texts: set(list of texts), sorted(such a set). -/
namespace Fp
open PySem PySem.Spec PyProof.Rows L2
/-- an entry is a text with its hash -/
def TxtE (w : World) (z : Int × Value) : Prop := ∃ (x : Str) (u : Tok), z.2 = .str x u ∧ z.1 = hashStr w x
def txtE (z : Int × Value) : Str := match z.2 with
  | .str x _ => x
  | _ => Str.empty
/-- the set at a holds the texts l, each once -/
structure SetT (w : World) (h : Heap) (a : Addr) (l : List Str) : Prop where
  ex : ∃ (oo : Obj) (zs : Array (Int × Value)) (ep : Nat) (tb : SetTable), h.get? a = some oo ∧ oo.ExactSet ∧ oo.data = .set zs ep tb ∧ (∀ z ∈ zs.toList, TxtE w z) ∧ (zs.toList.map txtE).Perm l ∧ l.Nodup ∧
    zs.size < scanBound ∧ tb.fits zs.size = true ∧ Ris tb.place.toList ∧ (w.params.followText "set-order" = true ∨ tb.led = true)
def addT (l : List Str) (x : Str) : List Str := if x ∈ l then l else x :: l
theorem addT_nodup {l : List Str} {x : Str} (h : l.Nodup) : (addT l x).Nodup := by
  unfold addT
  split
  · exact h
  · exact List.nodup_cons.mpr ⟨by assumption, h⟩
theorem addT_mem {l : List Str} {x y : Str} : y ∈ addT l x ↔ y = x ∨ y ∈ l := by
  unfold addT
  split
  · exact ⟨.inr, fun h => h.elim (fun e => by rw [e]; assumption) id⟩
  · exact List.mem_cons
theorem addT_len (l : List Str) (x : Str) : (addT l x).length ≤ l.length + 1 := by
  unfold addT
  split
  · exact Nat.le_succ _
  · exact Nat.le_refl _
def ofListT (ws : List Str) : List Str := ws.foldl addT []
theorem foldT_mem {y : Str} : ∀ (ws l : List Str), y ∈ ws.foldl addT l ↔ y ∈ ws ∨ y ∈ l
  | [], l => ⟨.inr, fun h => h.elim (fun h => nomatch h) id⟩
  | x :: ws, l => by
    rw [List.foldl_cons, foldT_mem ws, addT_mem, List.mem_cons]
    exact ⟨fun h => h.elim (fun h => .inl (.inr h)) (fun h => h.elim (fun e => .inl (.inl e)) .inr), fun h => h.elim (fun h => h.elim (fun e => .inr (.inl e)) .inl) (fun h => .inr (.inr h))⟩
theorem ofListT_mem {ws : List Str} {y : Str} : y ∈ ofListT ws ↔ y ∈ ws := by
  unfold ofListT
  rw [foldT_mem]
  exact ⟨fun h => h.elim id (fun h => nomatch h), .inl⟩
theorem foldT_len : ∀ (ws l : List Str), (ws.foldl addT l).length ≤ l.length + ws.length
  | [], l => Nat.le_refl _
  | x :: ws, l => by
    rw [List.foldl_cons, List.length_cons]
    have := foldT_len ws (addT l x)
    have := addT_len l x
    omega
theorem foldT_nodup : ∀ (ws l : List Str), l.Nodup → (ws.foldl addT l).Nodup
  | [], _, h => h
  | x :: ws, l, h => foldT_nodup ws (addT l x) (addT_nodup h)
theorem ofListT_nodup (ws : List Str) : (ofListT ws).Nodup := foldT_nodup ws [] .nil
theorem ofListT_len (ws : List Str) : (ofListT ws).length ≤ ws.length := by
  have := foldT_len ws []
  rwa [List.length_nil, Nat.zero_add] at this
section
variable {P : Program} {w : World} {A : Around} {E : Value → Shared → Prop} {s : Shared} {a : Addr} {l : List Str}
theorem SetT.at {h h' : Heap} (R : SetT w h a l) (k : ∀ o, h.get? a = some o → h'.get? a = some o) : SetT w h' a l := by
  obtain ⟨oo, zs, ep, tb, e, r⟩ := R.ex
  exact ⟨oo, zs, ep, tb, k oo e, r⟩
theorem txt_is {z : Int × Value} (g : TxtE w z) (x : Str) : (strKind P w).is x z.2 = true ↔ txtE z = x := by
  obtain ⟨y, u, h1, _⟩ := g
  unfold txtE
  rw [h1]
  show Value.isStrOf x (.str y u) = true ↔ y = x
  constructor
  · intro h
    obtain ⟨t, e⟩ := Value.isStrOf_shape h
    cases e
    rfl
  · rintro rfl
    exact strKind_is P w y u
theorem txt_elems {zs : List (Int × Value)} (g : ∀ z ∈ zs, TxtE w z) : ElemsOf (strKind P w) zs := fun z hz => by
  obtain ⟨x, u, h1, h2⟩ := g z hz
  exact ⟨⟨x, by rw [h1]; exact strKind_is P w x u, h2⟩, by rw [h1]; rfl⟩
theorem put_at {h : Heap} {oo : Obj} {zs zs' : Array (Int × Value)} {ep : Nat} {tb tb' : SetTable} (e : h.get? a = some oo) (d : oo.data = .set zs ep tb) : (h.update a (Obj.putSet zs' tb')).get? a = some { oo with data := .set zs' (ep + 1) tb' } := by
  have h1 := Heap.get?_update_self (Obj.putSet zs' tb') e (by rw [putSet_of zs' tb' d]; rfl)
  rwa [putSet_of zs' tb' d] at h1
/-- what is done behind a new entry: stored, and laid anew where it is too full -/
theorem setT_tail {gv : Bool → Sem Unit} (hgv : ∀ (b : Bool) (s₁ : Shared) (Q₁ : Unit → Shared → Prop), Q₁ () s₁ → wpAny (model P w) A (gv b) Q₁ E s₁) {oo : Obj} {zs : Array (Int × Value)} {ep : Nat} {tb : SetTable} (ho : s.heap.get? a = some oo) (hex : oo.ExactSet) (hd : oo.data = .set zs ep tb)
    {zs1 : Array (Int × Value)} {tb2 : SetTable} (g1 : ∀ z ∈ zs1.toList, TxtE w z) (p1 : (zs1.toList.map txtE).Perm l) (nd : l.Nodup) (hb1 : zs1.size < scanBound) (hf2 : tb2.fits zs1.size = true) (hr : Ris tb2.place.toList) (hl : w.params.followText "set-order" = true ∨ tb2.led = true) {wd : Bool} {R : Option Bool → Shared → Prop}
    (hR : ∀ h', Heap.SameBut a s.heap h' → SetT w h' a l → R (some true) { s with heap := h' }) :
    wpAny (model P w) A (do
        storeSet a zs1 tb2
        if (!wd && tb2.tooFull) = true then do
            gv (relayAll tb2 zs1 (SetTable.grown zs1.size)).2.2
            storeSet a (relayAll tb2 zs1 (SetTable.grown zs1.size)).1 (relayAll tb2 zs1 (SetTable.grown zs1.size)).2.1
            pure (some true)
          else pure (some true)) R E s := by
  refine wpAny_bind (wpAny_storeSet_of ho hd ?_ (fits_of_scanBound hb1))
  have at1 := put_at (zs' := zs1) (tb' := tb2) ho hd
  have same1 := Heap.SameBut.update s.heap a (Obj.putSet zs1 tb2)
  split
  · have q1 := relayAll_perm tb2 zs1 (SetTable.grown zs1.size)
    have q2 := relayAll_fits tb2 zs1 (SetTable.grown zs1.size)
    have q3 := relayAll_ris tb2 zs1 (SetTable.grown zs1.size)
    have q4 := relayAll_led tb2 zs1 (SetTable.grown zs1.size)
    generalize relayAll tb2 zs1 (SetTable.grown zs1.size) = Y at q1 q2 q3 q4 ⊢
    obtain ⟨zs2, tb3, gave⟩ := Y
    dsimp only at q1 q2 q3 q4 ⊢
    have sz2 : zs2.size < scanBound := by rw [← Array.length_toList, q1.length_eq, Array.length_toList]; exact hb1
    refine wpAny_bind (hgv _ _ _ (wpAny_bind (wpAny_storeSet_of at1 rfl (wpAny_pure (hR _ (same1.trans (Heap.SameBut.update _ a _)) ?_)) (fits_of_scanBound sz2))))
    exact ⟨_, zs2, _, tb3, put_at at1 rfl, hex, rfl, fun z hz => g1 z (q1.mem_iff.mp hz), (q1.map txtE).trans p1, nd, sz2, q2, q3, hl.imp id fun z => by rw [q4]; exact z⟩
  · exact wpAny_pure (hR _ same1 ⟨_, zs1, _, tb2, at1, hex, rfl, g1, p1, nd, hb1, hf2, hr, hl⟩)
theorem setT_add {x : Str} {u : Tok} {Q : Bool → Shared → Prop} (R : SetT w s.heap a l) (room : l.length + 1 < scanBound)
    (hQ : ∀ (b : Bool) (h' : Heap), Heap.SameBut a s.heap h' → SetT w h' a (addT l x) → Q b { s with heap := h' }) : wpAny (model P w) A (setAddHashed a (.str x u) ((strKind P w).hash x)) Q E s := by
  obtain ⟨oo, zs, ep, tb, ho, hex, hd, g, hp, nd, hb, hf, hr, hl⟩ := R.ex
  have hkey := strKind_is P w x u
  have hsc : (Value.str x u).scannable = true := rfl
  have hel : ElemsOf (strKind P w) zs.toList := txt_elems g
  have hzl : zs.size = l.length := by rw [← Array.length_toList, ← hp.length_eq, List.length_map]
  unfold setAddHashed setAddHashedIn
  refine wpAny_holding (wpAny_bind (wpAny_setState_of ho hd hf ?_))
  dsimp only
  rw [byScan_of hsc hb hel]
  simp only [↓reduceIte]
  unfold setAddByScan
  refine wpAny_bind (wpAny_bind (wpAny_rule (wpAny_bind (wpAny_setScan_of hkey ho hd hf hel ?_))))
  cases hfi : List.findIdx? (fun e => (strKind P w).is x e.2) zs.toList with
  | some j =>
    dsimp only
    obtain ⟨hj, pj, _⟩ := List.findIdx?_eq_some_iff_getElem.mp hfi
    have hm : x ∈ l := hp.mem_iff.mp (List.mem_map.mpr ⟨_, List.getElem_mem hj, (txt_is (P := P) (g _ (List.getElem_mem hj)) x).mp pj⟩)
    have e9 : addT l x = l := if_pos hm
    exact wpAny_pure (wpAny_pure (hQ _ s.heap (Heap.SameBut.refl a s.heap) (by rw [e9]; exact R)))
  | none =>
    dsimp only
    have hm : x ∉ l := fun hx => by
      obtain ⟨z, hz, hzx⟩ := List.mem_map.mp (hp.mem_iff.mpr hx)
      have h9 := List.findIdx?_eq_none_iff.mp hfi z hz
      rw [(txt_is (P := P) (g z hz) x).mpr hzx] at h9
      cases h9
    have e9 : addT l x = x :: l := if_neg hm
    have hgv : ∀ (b : Bool) {s₁ : Shared} {Q₁ : Unit → Shared → Prop}, Q₁ () s₁ → wpAny (model P w) A (match b with | true => rule "set.scan.the-table-gave-way" | false => pure ()) Q₁ E s₁ := fun b s₁ Q₁ z => by cases b <;> first | exact wpAny_pure z | exact wpAny_rule z
    have q1 := layNew_perm tb zs ((strKind P w).hash x) (.str x u)
    have q2 := layNew_fits tb zs ((strKind P w).hash x) (.str x u)
    have q3 := layNew_ris tb zs ((strKind P w).hash x) (.str x u) hr
    have q4 := layNew_led tb zs ((strKind P w).hash x) (.str x u)
    generalize layNew tb zs ((strKind P w).hash x) (.str x u) = Y at q1 q2 q3 q4 ⊢
    obtain ⟨zs1, tb1, wd, gave⟩ := Y
    dsimp only at q1 q2 q3 q4 ⊢
    rw [Array.toList_push] at q1
    have pc := q1.trans (List.perm_append_singleton _ _)
    have g1 : ∀ z ∈ zs1.toList, TxtE w z := fun z hz => (List.mem_cons.mp (pc.mem_iff.mp hz)).elim (fun e => by rw [e]; exact ⟨x, u, rfl, rfl⟩) (g z)
    have p1 : (zs1.toList.map txtE).Perm (addT l x) := by
      rw [e9]
      exact (pc.map txtE).trans (hp.cons _)
    have nd1 := addT_nodup (x := x) nd
    have hb1 : zs1.size < scanBound := by
      rw [← Array.length_toList, pc.length_eq, List.length_cons, Array.length_toList, hzl]
      exact room
    have hl1 : w.params.followText "set-order" = true ∨ tb1.led = true := hl.imp id fun z => by rw [q4]; exact z
    refine wpAny_bind (hgv _ ?_)
    split
    · refine wpAny_bind ?_
      rw [hashByValue_scannable 8 hsc]
      refine wpAny_pure (setT_tail ?_ ho hex hd g1 p1 nd1 hb1 ?_ ?_ ?_ ?_)
      · intro b s₁ Q₁ z; cases b <;> first | exact wpAny_pure z | exact wpAny_rule z
      · first | (split <;> first | exact q2 | exact SetTable.fits_plain_off q2) | exact q2
      · first | (split <;> exact q3) | exact q3
      · first | (split <;> exact hl1) | exact hl1
      · intro h' sb r; dsimp only; exact wpAny_pure (hQ _ h' sb r)
    · refine wpAny_bind (wpAny_pure ?_)
      simp only [↓reduceIte]
      refine setT_tail ?_ ho hex hd g1 p1 nd1 hb1 q2 q3 hl1 ?_
      · intro b s₁ Q₁ z; cases b <;> first | exact wpAny_pure z | exact wpAny_rule z
      · intro h' sb r; dsimp only; exact wpAny_pure (hQ _ h' sb r)
/-- the loop of set(list) -/
theorem setT_loop {R : Result → Shared → Prop} {I : Addr} {fp wr : List Addr} {G : Array GenState → Array GenState → Prop} {n : Nat} {Pv : Nat → Value → Prop} {St : Nat → Shared → Prop} (W : WalksS P w A.in1 I fp wr G n Pv St) {b : Addr} (hb : b ∉ fp) {ws : List Str} (hw : ws.length = n)
    (hv : ∀ i v, Pv i v → ∃ x t, ws[i]? = some x ∧ v = .str x t) (hz : n + 1 < scanBound) :
    ∀ (k i : Nat) (s : Shared), n - i = k → i ≤ n → St i s → SetT w s.heap b (ofListT (ws.take i)) →
      (∀ s', Moved (b :: wr) G s s' → SetT w s'.heap b (ofListT ws) → R (.ok (.ret .none)) s') → codeAny (model P w) A (.builtin "set.update.loop" ⟨[.ref b, .ref I], []⟩) R s := by
  have hbw : b ∉ wr := fun h => hb (W.sub _ h)
  have hsub : ∀ c ∈ wr, c ∈ b :: wr := fun c hc => List.mem_cons_of_mem _ hc
  intro k
  induction k with
  | zero =>
    intro i s hk hi hst hS hR
    obtain rfl : i = n := by omega
    rw [← hw, List.take_length] at hS
    refine codeAny_builtin PyProof.Rows.F.entry_set_update_loop ?_
    rw [Around.under_plainId PyProof.Rows.F.plain_set_update_loop _]
    show wpAny _ A.in1 (pyNext (.ref I) >>= _) _ _ s
    refine wpAny_bind (W.done s _ _ hst fun s' hm => ?_)
    show wpAny _ A.in1 (ret Value.none) _ _ s'
    exact wpAny_pure (hR s' (hm.mono hsub) (hS.at fun o e => hm.heap b o hbw e))
  | succ k ih =>
    intro i s hk hi hst hS hR
    have hlt : i < n := by omega
    refine codeAny_builtin PyProof.Rows.F.entry_set_update_loop ?_
    rw [Around.under_plainId PyProof.Rows.F.plain_set_update_loop _]
    show wpAny _ A.in1 (pyNext (.ref I) >>= _) _ _ s
    refine wpAny_bind (W.item i s _ _ hlt hst fun v s' hP hst' hm => ?_)
    obtain ⟨x, t, hx, rfl⟩ := hv i v hP
    have hS' : SetT w s'.heap b (ofListT (ws.take i)) := hS.at fun o e => hm.heap b o hbw e
    show wpAny _ A.in1 (holding [Value.str x t] (setAdd b (.str x t)) >>= _) _ _ s'
    refine wpAny_bind (wpAny_holding ?_)
    unfold setAdd
    refine wpAny_holding (wpAny_bind ((strKind P w).pyHash (k := x) (strKind_is P w x t) ?_))
    have room : (ofListT (ws.take i)).length + 1 < scanBound := by
      have h1 := ofListT_len (ws.take i)
      rw [List.length_take] at h1
      omega
    refine setT_add (s := { s' with toks := s'.toks + 1 }) hS' room fun _ h' hsb hS2 => ?_
    have e2 : addT (ofListT (ws.take i)) x = ofListT (ws.take (i + 1)) := by
      rw [List.take_add_one, hx]
      unfold ofListT
      rw [List.foldl_append]
      rfl
    rw [e2] at hS2
    refine wpAny_pure ⟨plainId_quiet PyProof.Rows.F.plain_set_update_loop _, ih (i + 1) _ (by omega) hlt (W.frame _ s' _ _ hst' (Nat.le_succ _) fun c hc o e => ?_) hS2 fun s'' hm'' hS'' => ?_⟩
    · rw [hsb.2 c (fun h : c = b => hb (by rw [← h]; exact hc))]
      exact e
    · refine hR s'' (Moved.trans W.gtrans ((hm.mono hsub).then_heap (Nat.le_succ _) fun c o hc e => ?_) hm'') hS''
      rw [hsb.2 c (fun h : c = b => hc (by rw [h]; exact List.mem_cons_self))]
      exact e
/-- an empty set, its table led where the world's text leads no order -/
abbrev newSet (w : World) : Obj := { cls := .type "set", dict := none, data := .set #[] 0 (.fresh 0 0 (!w.params.followText "set-order")) }
theorem newSet_is {h : Heap} : SetT w (h.push (newSet w)) h.objs.size [] :=
  ⟨_, #[], 0, _, Heap.get?_push_size _ rfl, ⟨rfl, rfl, rfl⟩, rfl, (fun z hz => by simp at hz), .refl _, .nil, (by decide), (by rfl), List.Pairwise.nil, by
    show _ ∨ (!w.params.followText "set-order") = true
    cases w.params.followText "set-order"
    · exact .inr rfl
    · exact .inl rfl⟩
theorem code_new1 (v : Value) {Q₁ : Value → Shared → Prop} (h : Q₁ (.ref s.heap.objs.size) { s with heap := s.heap.push (newSet w) }) : codeAny (model P w) A (.call (.builtin "set.__new__") ⟨[.type "set", v], []⟩) (wants Q₁ E) s := by
  refine codeAny_of_tree ?_
  show wpAny _ A.in1 (do checkBuiltinCall "set.__new__" ⟨[.type "set", v], []⟩; again (.builtin "set.__new__" ⟨[.type "set", v], []⟩)) _ _ s
  refine wpAny_bind (wpAny_of_eq (PySem.F.newCall_set_1 v) (wpAny_pure ⟨plainId_quiet F.plain_set_new _, codeAny_builtin F.entry_set_new ?_⟩))
  rw [Around.under_plainId F.plain_set_new _]
  unfold Builtin.«set.__new__» Builtin.Frozenset.newClass
  have hsub := sub_set_self
  obtain ⟨hp, g, d, tk, os⟩ := s
  dsimp only
  wp_walk
  refine wpAny_askSetting (wpAny_pure ?_)
  dsimp only
  simp only [newObj]
  exact wpAny_bind (wpAny_alloc (wpAny_pure (wpAny_pure h)))
theorem strs_at {vs : List Value} {ws : List Str} (r : Vals (ws.map V.str) vs) {i : Nat} {v : Value} (h : vs[i]? = some v) : ∃ x t, ws[i]? = some x ∧ v = .str x t := by
  induction ws generalizing vs i with
  | nil => cases r; cases h
  | cons x ws ih =>
    cases r with
    | cons r1 r2 =>
      cases i with
      | zero =>
        obtain ⟨t, e⟩ := r1
        cases Option.some.inj h
        exact ⟨x, t, rfl, e⟩
      | succ i => exact ih r2 h
set_option maxRecDepth 100000 in
theorem call_setT {la : Addr} {items : Array Value} {ws : List Str} {Q : Value → Shared → Prop} (hh : A.handled = none) (hl : s.heap.IsList la items) (hi : Vals (ws.map V.str) items.toList) (hb : ws.length + 1 < scanBound)
    (h : ∀ (h' : Heap) (tk : Nat), SetT w h' s.heap.objs.size (ofListT ws) → (∀ b o, b < s.heap.objs.size → s.heap.get? b = some o → h'.get? b = some o) → Q (.ref s.heap.objs.size) { s with heap := h', toks := tk }) :
    wpAny (model P w) A (call (.type "set") [.ref la]) Q E s := by
  have hwl : ws.length = items.size := by
    have := hi.length
    rwa [List.length_map, Array.length_toList] at this
  obtain ⟨c, tl, hmro⟩ := F.called_set.mro
  have hmade := F.called_set.made
  have hsub := F.called_set.sub
  refine wpAny_call (codeAny_of_tree ?_)
  show wpAny _ _ (callAny (.type "set") _) _ _ _
  refine wpAny_pure ⟨Code.quiet_builtin _ (by decide +kernel), codeAny_builtin F.entry_type_call ?_⟩
  rw [Around.under_plain (weight_type_call_type "set" [.ref la] []) rfl]
  have h1 := F.called_set.notType
  have h2 := F.called_set.canCreate
  have hct := PySem.F.typeCall_set_1 (.ref la)
  repeat (any_goals (first | assumption | wp_step))
  refine codeAny_mono (code_new1 (.ref la) (E := E) (Q₁ := fun obj s₁ => obj = .ref s.heap.objs.size ∧ s₁ = { s with heap := s.heap.push (newSet w) }) ⟨rfl, rfl⟩) fun r s₁ hr => ?_
  cases r with
  | error e => exact hr
  | ok fl =>
    cases fl with
    | ret obj =>
      obtain ⟨rfl, rfl⟩ := hr
      have hS : (s.heap.push (newSet w)).get? s.heap.objs.size = some (newSet w) := Heap.get?_push_size _ rfl
      have hT : Shared.TypeIs { s with heap := s.heap.push (newSet w) } (.ref s.heap.objs.size) "set" := ⟨_, hS, rfl⟩
      have hli := F.called_set.init.lookup
      have hbi := F.called_set.init.bind (.ref s.heap.objs.size)
      repeat (any_goals (first | assumption | wp_step))
      refine codeAny_mono (codeAny_call_builtin (R := wants (fun r s₂ => r = .none ∧ ∃ h' tk, s₂ = { s with heap := h', toks := tk } ∧ SetT w h' s.heap.objs.size (ofListT ws) ∧ (∀ b o, b < s.heap.objs.size → s.heap.get? b = some o → h'.get? b = some o)) E) F.called_set.init.plain F.entry_set_init (PySem.check_set_init_1 hT ?_)) fun r₂ s₂ hr₂ => ?_
      · obtain ⟨ol, hol, hcl, nl, hdl⟩ := hl
        obtain ⟨ocls, odict, odata, oslots⟩ := ol
        simp only at hcl hdl
        subst hcl; subst hdl
        have hol' : (s.heap.push (newSet w)).get? la = some { cls := .type "list", dict := odict, data := .seq items nl, slots := oslots } := Heap.get?_push_of_some _ hol
        have hsls := PySem.F.sub_list_set
        have hslf := PySem.F.sub_list_frozenset
        have hne : (Value.type "list" == Value.type "dict") = false := by decide
        have hl1 : (s.heap.push (newSet w)).IsList la items := ⟨_, hol', rfl, nl, rfl⟩
        unfold Builtin.«set.__init__» noKeywords Builtin.Frozenset.updateFrom
        generalize hPI : pyIter = PI
        wp_walk
        subst hPI
        refine wpAny_pyIter_list hl1 (wpAny_bind (wpAny_runValue ?_))
        have hlS : la < s.heap.objs.size := Heap.lt_size hol
        have hh3 : A.in1.in1.in1.handled = none := by simp [hh]
        have sz1 : (s.heap.push (newSet w)).objs.size = s.heap.objs.size + 1 := Heap.size_push _ _
        have hneI : la ≠ (s.heap.push (newSet w)).objs.size := by rw [sz1]; exact Nat.ne_of_lt (Nat.lt_succ_of_lt hlS)
        have hSf : s.heap.objs.size ∉ [(s.heap.push (newSet w)).objs.size, la] := by
          rw [sz1]
          simp only [List.mem_cons, List.not_mem_nil, or_false, not_or]
          exact ⟨Nat.ne_of_lt (Nat.lt_succ_self _), Nat.ne_of_gt hlS⟩
        refine setT_loop ((Walks.list hh3 _ la hneI items).toS) hSf (ws := ws) hwl (fun i v hv => strs_at hi (by rw [Array.getElem?_toList]; exact hv)) (by rw [← hwl]; exact hb) (items.size - 0) 0 _ (by omega) (Nat.zero_le _)
          ⟨⟨_, Heap.get?_push_size _ rfl, rfl, rfl⟩, (hl1.push _)⟩ ?hS0 ?hR
        case hS0 => exact newSet_is.at fun o e => Heap.get?_push_of_some _ e
        case hR =>
          intro s' hm hS'
          obtain ⟨h', g', d', tk', os'⟩ := s'
          have eg : g' = s.gens := hm.gens
          have ed : d' = s.drawn := hm.drawn
          have eo : os' = s.os := hm.os
          subst eg; subst ed; subst eo
          show wpAny _ _ _ _ _ _
          refine wpAny_pure ?_
          show wpAny _ _ (ret Value.none) _ _ _
          refine wpAny_pure ⟨rfl, h', tk', rfl, hS', fun b o hb e => hm.heap b o ?_ (Heap.get?_push_of_some _ (Heap.get?_push_of_some _ e))⟩
          rw [sz1]
          simp only [List.mem_cons, List.not_mem_nil, or_false, not_or]
          exact ⟨Nat.ne_of_lt hb, Nat.ne_of_lt (Nat.lt_succ_of_lt hb)⟩
      · cases r₂ with
        | error e => exact hr₂
        | ok fl₂ =>
          cases fl₂ with
          | ret r =>
            obtain ⟨rfl, h', tk, rfl, hS', hk'⟩ := hr₂
            repeat (any_goals (first | assumption | wp_step))
            exact h _ _ hS' hk'
          | _ => exact hr₂.elim
    | _ => exact hr.elim
theorem strs_txt {vs : List Value} {zs : List (Int × Value)} (g : ∀ z ∈ zs, TxtE w z) (p : vs.Perm (zs.map (·.2))) : ∃ ss, StrsAre vs ss ∧ ss.Perm (zs.map txtE) := by
  have h1 : ∀ v ∈ vs, ∃ x t, v = Value.str x t := fun v hv => by
    obtain ⟨z, hz, e⟩ := List.mem_map.mp (p.mem_iff.mp hv)
    obtain ⟨x, t, h2, _⟩ := g z hz
    exact ⟨x, t, by rw [← e]; exact h2⟩
  refine ⟨vs.map PyProof.Rows.strOf, strsAre_map vs h1, (p.map _).trans (List.Perm.of_eq ?_)⟩
  rw [List.map_map]
  refine List.map_congr_left fun z hz => ?_
  obtain ⟨x, t, h2, _⟩ := g z hz
  show PyProof.Rows.strOf z.2 = txtE z
  unfold txtE
  rw [h2]
  rfl
theorem call_sortedT {Q : Value → Shared → Prop} (R : SetT w s.heap a l) (hh : A.handled = none) (h64 : l.length < 64)
    (hQ : ∀ s' p (out : Array Value) (c : Nat) (ss : List Str), (∀ b o, s.heap.get? b = some o → s'.heap.get? b = some o) → s'.gens = s.gens → s'.os = s.os → s.heap.objs.size ≤ p → s'.heap.get? p = some (seqObj "list" out c) → StrsAre out.toList ss → ss.Perm l → PyProof.Rows.sortedS ss = true → Q (.ref p) s') :
    wpAny (model P w) A (call (.builtin "sorted") [.ref a]) Q E s := by
  obtain ⟨oo, zs, ep, tb, ho, hex, hd, g, hp, nd, hb, hf, hr, hl⟩ := R.ex
  refine Calls.call_function_entry kind_sorted plain_sorted entry_sorted (args_sorted1 _) ?_
  unfold Builtin.«sorted»
  refine wpAny_bind (m := checkCount "sorted" 1 1 _) (wpAny_pure (wpAny_bind (collect_set (A := A.in1) hh ⟨oo, ho, hex.1, hd⟩ hf hb hr hl fun s1 vs k1 hz g1 o1 pm => ?_)))
  obtain ⟨ss, hss, hsp⟩ := strs_txt g pm
  have hvl : vs.length < 64 := by rw [pm.length_eq, List.length_map, ← List.length_map (f := txtE), hp.length_eq]; exact h64
  refine wpAny_bind (wpAny_newList ?_ (by rw [sizeLine_eq]; omega))
  have hoL : (s1.heap.push (seqObj "list" vs.toArray 0)).get? s1.heap.objs.size = some (seqObj "list" vs.toArray 0) := Heap.get?_push_size _ rfl
  refine wpAny_bind (wpAny_holding (wpAny_call_entry slot_list_sort ⟨_, hoL, rfl⟩ entry_list_sort (list_sort_treeK strKind_oneLt hoL hss.keysOf (fun v₁ v₂ rest e => keyKind_strs (by rw [← e]; exact hss)) hvl fun st' a1 a2 => ⟨_, rfl, ?_⟩) (args_list_sort _)))
  obtain ⟨ss', b1, b2, b3⟩ := sorted_out_str hss a1 a2
  obtain ⟨c, hc⟩ := sortedHeap_at (vs := vs) (out := (arrOf st').map (·.2)) hoL
  refine wpAny_pure ⟨_, rfl, hQ _ s1.heap.objs.size _ c ss' (fun b u e => ?_) g1 o1 hz hc b1 (b2.trans (hsp.trans hp)) b3⟩
  have q := k1 b u e
  have hlt := Heap.lt_size q
  show (sortedHeap (s1.heap.push (seqObj "list" vs.toArray 0)) s1.heap.objs.size vs _).get? b = some u
  rw [sortedHeap_old (Nat.ne_of_lt hlt) (by rw [size_push']; exact Nat.lt_succ_of_lt hlt)]
  exact Heap.get?_push_of_some _ q
end
/-! ### over the layer -/
def SetTO (w : World) (a : Addr) (l : List Str) : HO := .ext fun h => SetT w h a l
section
variable {X : L2.Cx}
theorem setT_ok {P : Program} {w : World} {H : Hp} {h : Heap} {a : Addr} {l : List Str} (R : SetT w h a l) : ObjOk P w H h a (SetTO w a l) := by
  obtain ⟨oo, zs, ep, tb, ho, r⟩ := R.ex
  exact ⟨⟨oo, zs, ep, tb, ho, r⟩, ⟨oo, ho⟩, fun h1 h2 p k => SetT.at p k⟩
/-- set(list of texts) -/
def rSetT (K : PySem.W.Frag) (w : World) : List V → Hp → VK → Prop := fun xs H Q => ∃ (a : Addr) (ws : List Str), xs = [V.ref a] ∧ SqL K H a (ws.map V.str) ∧ ws.length ≤ 1000 ∧ ∀ p, H p = none → Q (.ref p) (upd H p (SetTO w p (ofListT ws)))
theorem cr_setT (hc : X.calm = true) : CallR X (.type "set") (rSetT X.K X.w) := by
  intro pins s σ H xs us Q I r h
  obtain ⟨a, ws, rfl, hs, hz, q⟩ := h
  rw [Vals.ref1 r]
  obtain ⟨its, rv, hl, _⟩ := I.list hs
  refine call_setT (ws := ws) (I.ok.hd hc) hl.isList (by simpa using rv) (Nat.lt_of_le_of_lt (Nat.succ_le_succ hz) (by decide)) fun h' tk R keep => ?_
  exact ⟨.ref _, upd H s.heap.objs.size (SetTO X.w s.heap.objs.size (ofListT ws)), I.laid (t' := tk) (fun b o e => keep b o (Heap.lt_size e) e) (Nat.le_refl _) (setT_ok R), rfl, q _ (I.hok.fresh (Nat.le_refl _))⟩
/-- sorted(set of texts), fewer than 64 -/
def rSortT (w : World) : List V → Hp → VK → Prop := fun vs H Q => ∃ (a : Addr) (l : List Str), vs = [V.ref a] ∧ H a = some (SetTO w a l) ∧ l.length < 64 ∧ ∀ (ss : List Str) (p : Addr), ss.Perm l → PyProof.Rows.sortedS ss = true → H p = none → Q (.ref p) (upd H p (.lst (ss.map V.str)))
theorem cr_sortT (hc : X.calm = true) : CallR X (.builtin "sorted") (rSortT X.w) := by
  intro pins s σ H vs us Q I r h
  obtain ⟨a, l, rfl, ha, h64, q⟩ := h
  have R : SetT X.w s.heap a l := (I.hok a _ ha).1
  rw [Vals.ref1 r]
  refine call_sortedT R (I.ok.hd hc) h64 fun s' p out c ss k g o hp hg hi hs hso => ?_
  have hlen : (ss.map V.str).length ≤ sizeLine := by
    rw [List.length_map, hs.length_eq, sizeLine_eq]
    omega
  have hn : H p = none := I.hok.fresh hp
  have J : Inv X pins σ (upd H p (.lst (ss.map V.str))) { s with heap := s'.heap, gens := s'.gens, drawn := s'.drawn, toks := s'.toks } :=
    I.call (ch := []) (Un.laid k hp hn) (I.hok.laid k hp ⟨hlen, out.toList, c, vals_of_strs hi, hg⟩) (by rw [g]; exact I.bare) (fun _ z => nomatch z)
  have e : s' = { s with heap := s'.heap, gens := s'.gens, drawn := s'.drawn, toks := s'.toks } := by
    cases s'
    cases s
    cases o
    rfl
  rw [e]
  exact ⟨.ref p, _, J, rfl, q ss p hs hso hn⟩
end
end Fp

/-! set(text), the set of its signs; len of a set of texts. -/
namespace Fp
open PySem PySem.Spec PyProof.Rows L2
def signs (x : Str) : List Str := x.cps.toList.map fun c => ⟨#[c]⟩
theorem sign_at {x : Str} {i : Nat} {v : Value} (h : SignAt x i v) : ∃ y t, (signs x)[i]? = some y ∧ v = .str y t := by
  obtain ⟨c, u, h1, h2⟩ := h
  refine ⟨⟨#[c]⟩, u, ?_, h2⟩
  unfold signs
  rw [List.getElem?_map, Array.getElem?_toList, h1]
  rfl
section
variable {P : Program} {w : World} {A : Around} {E : Value → Shared → Prop} {s : Shared} {a : Addr} {l : List Str}
set_option maxRecDepth 100000 in
theorem call_setS {x : Str} {t : Tok} {Q : Value → Shared → Prop} (hh : A.handled = none) (hb : x.cps.size + 1 < scanBound)
    (h : ∀ (h' : Heap) (tk : Nat), SetT w h' s.heap.objs.size (ofListT (signs x)) → (∀ b o, b < s.heap.objs.size → s.heap.get? b = some o → h'.get? b = some o) → Q (.ref s.heap.objs.size) { s with heap := h', toks := tk }) :
    wpAny (model P w) A (call (.type "set") [.str x t]) Q E s := by
  have hwl : (signs x).length = x.cps.size := by
    unfold signs
    rw [List.length_map, Array.length_toList]
  obtain ⟨c, tl, hmro⟩ := F.called_set.mro
  have hmade := F.called_set.made
  have hsub := F.called_set.sub
  refine wpAny_call (codeAny_of_tree ?_)
  show wpAny _ _ (callAny (.type "set") _) _ _ _
  refine wpAny_pure ⟨Code.quiet_builtin _ (by decide +kernel), codeAny_builtin F.entry_type_call ?_⟩
  rw [Around.under_plain (weight_type_call_type "set" [.str x t] []) rfl]
  have h1 := F.called_set.notType
  have h2 := F.called_set.canCreate
  have hct := PySem.F.typeCall_set_1 (.str x t)
  repeat (any_goals (first | assumption | wp_step))
  refine codeAny_mono (code_new1 (.str x t) (E := E) (Q₁ := fun obj s₁ => obj = .ref s.heap.objs.size ∧ s₁ = { s with heap := s.heap.push (newSet w) }) ⟨rfl, rfl⟩) fun r s₁ hr => ?_
  cases r with
  | error e => exact hr
  | ok fl =>
    cases fl with
    | ret obj =>
      obtain ⟨rfl, rfl⟩ := hr
      have hS : (s.heap.push (newSet w)).get? s.heap.objs.size = some (newSet w) := Heap.get?_push_size _ rfl
      have hT : Shared.TypeIs { s with heap := s.heap.push (newSet w) } (.ref s.heap.objs.size) "set" := ⟨_, hS, rfl⟩
      have hli := F.called_set.init.lookup
      have hbi := F.called_set.init.bind (.ref s.heap.objs.size)
      repeat (any_goals (first | assumption | wp_step))
      refine codeAny_mono (codeAny_call_builtin (R := wants (fun r s₂ => r = .none ∧ ∃ h' tk, s₂ = { s with heap := h', toks := tk } ∧ SetT w h' s.heap.objs.size (ofListT (signs x)) ∧ (∀ b o, b < s.heap.objs.size → s.heap.get? b = some o → h'.get? b = some o)) E) F.called_set.init.plain F.entry_set_init (PySem.check_set_init_1 hT ?_)) fun r₂ s₂ hr₂ => ?_
      · have hsls := PySem.F.sub_str_set
        have hslf := PySem.F.sub_str_frozenset
        have hne : (Value.type "str" == Value.type "dict") = false := by decide
        unfold Builtin.«set.__init__» noKeywords Builtin.Frozenset.updateFrom
        generalize hPI : pyIter = PI
        wp_walk
        subst hPI
        have hh3 : A.in1.in1.in1.handled = none := by simp [hh]
        have sz1 : (s.heap.push (newSet w)).objs.size = s.heap.objs.size + 1 := Heap.size_push _ _
        refine wpAny_pyIter_str fun ob St hW hSt => wpAny_bind (wpAny_runValue ?_)
        have hSf : s.heap.objs.size ∉ [(s.heap.push (newSet w)).objs.size] := by
          rw [sz1]
          simp only [List.mem_cons, List.not_mem_nil, or_false]
          exact Nat.ne_of_lt (Nat.lt_succ_self _)
        refine setT_loop ((hW _ hh3).toS) hSf (ws := signs x) hwl (fun i v hv => sign_at hv) hb (x.cps.size - 0) 0 _ (by omega) (Nat.zero_le _) hSt ?hS0 ?hR
        case hS0 => exact newSet_is.at fun o e => Heap.get?_push_of_some _ e
        case hR =>
          intro s' hm hS'
          obtain ⟨h', g', d', tk', os'⟩ := s'
          have eg : g' = s.gens := hm.gens
          have ed : d' = s.drawn := hm.drawn
          have eo : os' = s.os := hm.os
          subst eg; subst ed; subst eo
          show wpAny _ _ _ _ _ _
          refine wpAny_pure ?_
          show wpAny _ _ (ret Value.none) _ _ _
          refine wpAny_pure ⟨rfl, h', tk', rfl, hS', fun b o hb e => hm.heap b o ?_ (Heap.get?_push_of_some _ (Heap.get?_push_of_some _ e))⟩
          rw [sz1]
          simp only [List.mem_cons, List.not_mem_nil, or_false, not_or]
          exact ⟨Nat.ne_of_lt hb, Nat.ne_of_lt (Nat.lt_succ_of_lt hb)⟩
      · cases r₂ with
        | error e => exact hr₂
        | ok fl₂ =>
          cases fl₂ with
          | ret r =>
            obtain ⟨rfl, h', tk, rfl, hS', hk'⟩ := hr₂
            repeat (any_goals (first | assumption | wp_step))
            exact h _ _ hS' hk'
          | _ => exact hr₂.elim
    | _ => exact hr.elim
end
section
variable {X : L2.Cx}
/-- set(text) -/
def rSetS (w : World) : List V → Hp → VK → Prop := fun xs H Q => ∃ (x : Str), xs = [V.str x] ∧ x.length ≤ 1000 ∧ ∀ p, H p = none → Q (.ref p) (upd H p (SetTO w p (ofListT (signs x))))
theorem cr_setS (hc : X.calm = true) : CallR X (.type "set") (rSetS X.w) := by
  intro pins s σ H xs us Q I r h
  obtain ⟨x, rfl, hz, q⟩ := h
  cases r with
  | cons r1 r2 =>
    cases r2
    obtain ⟨t, rfl⟩ := r1
    refine call_setS (I.ok.hd hc) (Nat.lt_of_le_of_lt (Nat.succ_le_succ hz) (by decide)) fun h' tk R keep => ?_
    exact ⟨.ref _, upd H s.heap.objs.size (SetTO X.w s.heap.objs.size (ofListT (signs x))), I.laid (t' := tk) (fun b o e => keep b o (Heap.lt_size e) e) (Nat.le_refl _) (setT_ok R), rfl, q _ (I.hok.fresh (Nat.le_refl _))⟩
/-- len(set of texts) -/
def rLenSet (w : World) : List V → Hp → VK → Prop := fun vs H Q => ∃ (a : Addr) (l : List Str), vs = [V.ref a] ∧ H a = some (SetTO w a l) ∧ l.length ≤ 1000 ∧ Q (.int l.length) H
theorem cr_lenSet : CallR X (.builtin "len") (rLenSet X.w) := by
  intro pins s σ H vs us Q I r h
  obtain ⟨a, l, rfl, ha, hz, q⟩ := h
  have R : SetT X.w s.heap a l := (I.hok a _ ha).1
  rw [Vals.ref1 r]
  obtain ⟨oo, zs, ep, tb, ho, hex, hd, g, hp, nd, hb, hf, hr, hl⟩ := R.ex
  have hn : zs.size = l.length := by rw [← Array.length_toList, ← hp.length_eq, List.length_map]
  exact call_len_set ho hex hd hf (by rw [hn]; omega) ⟨.int l.length, H, I.tok _, ⟨_, by rw [hn]⟩, q⟩
theorem ofSigns_len (x : Str) : (ofListT (signs x)).length ≤ x.length := Nat.le_trans (ofListT_len _) (by unfold signs; rw [List.length_map]; exact Nat.le_of_eq Array.length_toList)
end
end Fp

/-! Sets of texts that a comprehension makes. -/
namespace Fp
open PySem PySem.Spec PyProof.Rows L2
section
variable {P : Program} {w : World} {A : Around} {E : Value → Shared → Prop} {s : Shared} {a : Addr} {l : List Str}
theorem SetT.ty (R : SetT w s.heap a l) : s.TypeIs (.ref a) "set" := by
  obtain ⟨oo, zs, ep, tb, ho, hex, _⟩ := R.ex
  exact ⟨oo, ho, hex.1⟩
/-- set.add of a text -/
theorem setT_addCall {x : Str} {u : Tok} {Q : Value → Shared → Prop} (R : SetT w s.heap a l) (room : l.length + 1 < scanBound)
    (hQ : ∀ h' : Heap, Heap.SameBut a s.heap h' → SetT w h' a (addT l x) → Q .none { s with heap := h', toks := s.toks + 1 }) : wpAny (model P w) A (call (.builtin "set.add") [.ref a, .str x u]) Q E s := by
  refine wpAny_call_entry PySem.F.slot_set_add R.ty PySem.F.entry_set_add ?_ (PySem.F.args_set_add_2 _ _)
  unfold Builtin.«set.add» Builtin.Frozenset.oneOther
  simp only [List.isEmpty_nil, bind_assoc]
  unfold Builtin.Frozenset.addrOf setAdd
  refine wpAny_bind (wpAny_pure ?_)
  (try dsimp only)
  refine wpAny_bind (wpAny_pure ?_)
  (try dsimp only)
  refine wpAny_bind (wpAny_holding (wpAny_bind ((strKind P w).pyHash (k := x) (strKind_is P w x u) ?_)))
  refine setT_add (s := { s with toks := s.toks + 1 }) R room fun _ h' sb r => ?_
  show wpAny _ _ (ret Value.none) _ _ _
  exact wpAny_pure ⟨_, rfl, hQ h' sb r⟩
end
section
variable {X : L2.Cx}
theorem addT_inv {pins : List (Addr × Obj)} {σ : L2.St} {H : Hp} {s : Shared} {E : Value → Shared → Prop} {D : Addr} {l : List Str} {x : Str} {u : Tok} {Q : Value → Shared → Prop} (I : Inv X pins σ H s) (hD : H D = some (SetTO X.w D l)) (room : l.length + 1 < scanBound)
    (h : ∀ s', Inv X pins σ (upd H D (SetTO X.w D (addT l x))) s' → Q .none s') : wpAny (model X.prog X.w) X.A (call (.builtin "set.add") [.ref D, .str x u]) Q E s := by
  have R : SetT X.w s.heap D l := (I.hok D _ hD).1
  refine setT_addCall R room fun h' sb new => ?_
  have he : ∃ o, h'.get? D = some o := by
    obtain ⟨oo, _, _, _, ho, _⟩ := new.ex
    exact ⟨oo, ho⟩
  exact h _ (I.write (e := D) (t' := s.toks + 1) (by rw [hD]; trivial) (.inl rfl) (fun b o hb e => (sb.2 b hb).trans e) he (setT_ok new))
/-- {text for target in iter if ..}: the turns, then the set D -/
def tScT (w : World) (wi : TI) (g : TG) (tt : TT) (te : TE) (vs : List Nat) : TE := fun σ H Q => wi σ H fun J H1 => ∀ D, H1 D = none → ∃ W : Nat → Nat → Hp → Prop, (∃ m, W 0 m (upd H1 D (SetTO w D []))) ∧ ∀ i m H, W i m H →
  (J.stop i H ∧ Q (.ref D) H) ∨ (J.go i H ∧ ∃ Nx : Hp → Prop, (∀ H', Nx H' → ∃ m', m' < m ∧ W (i + 1) m' H') ∧ ∀ x H', J.yld i H x H' → g x (wipe σ vs) H' fun σ2 H2 => wipe σ2 vs = wipe σ vs ∧ tt σ2 H2 fun b H3 =>
    if b = true then te σ2 H3 fun y H4 => ∃ (c : Str) (l : List Str), y = .str c ∧ H4 D = some (SetTO w D l) ∧ l.length + 1 < scanBound ∧ Nx (upd H4 D (SetTO w D (addT l c))) else Nx H3)
/-- how things stand in the block between two turns -/
def Between (Y : L2.Cx) (vs : List Nat) (σ : L2.St) (fp : List Addr) (tn : Nat → Heap → Prop) (W : Nat → Nat → Hp → Prop) (m : Nat) (s : Shared) : Prop :=
  ∃ i H, Inv Y [] (wipe σ vs) H s ∧ tn i s.heap ∧ (∀ b ∈ fp, H b = none) ∧ W i m H
theorem pe_scT {elt tg iter : Expr} {ifs : List Expr} {scope : Scope} {own : List (Str × Nat)} {pos : Pos} {wi : TI} {g : TG} {tt : TT} {te : TE} (hc : X.calm = true) (hN : X.N.Nodup) (hi : PI X tg iter wi) (ok : BlkOk X.N X.env.scope scope own)
    (hg : ∀ (s : Shared) (H : Hp) (C : Addr) (cl : List (Str × Addr)) (fp : List Addr), PG (X.blk s H scope (compEnvC scope cl C X.env) fp) tg g) (ht : ∀ (s : Shared) (H : Hp) (C : Addr) (cl : List (Str × Addr)) (fp : List Addr), PTs (X.blk s H scope (compEnvC scope cl C X.env) fp) ifs tt)
    (he : ∀ (s : Shared) (H : Hp) (C : Addr) (cl : List (Str × Addr)) (fp : List Addr), PE (X.blk s H scope (compEnvC scope cl C X.env) fp) elt te) (hs : ∀ x, foldedSetIterable iter X.env x = pure x := by intro _; rfl) :
    PE X (.SetComp elt [⟨tg, iter, ifs, 0⟩] scope pos) (tScT X.w wi g tt te (own.map (·.2))) := by
  refine ⟨fun pins s σ H Q I h => ?_⟩
  rw [PpSet.eval_SetComp]
  have hfree : ∀ y ∈ scope.names, y.2 = .free → ∃ c, X.env.cells.lookup y.1 = some c := fun y hy e => I.ok.has _ (ok.free y hy e)
  refine wpAny_comprehension_free rfl hs (closure_ok hfree) ok.kind (fun y hy e => by rw [ok.uniq y hy, e]) (thn (hi.run pins s σ H _ I h) fun _ _ hx => thn hx fun _ s2 h2 => ?_)
  obtain ⟨it, fp, tn, J, H2, rfl, I2, T, st2, f2, q⟩ := h2
  refine PpSet.newSet_ok (newEnv_comp ?_)
  -- the new set stands
  obtain ⟨W, ⟨m0, w0⟩, turn⟩ := q s2.heap.objs.size (I2.hok.fresh (Nat.le_refl _))
  have Is := I2.laid (t' := s2.toks) (o := SetTO X.w s2.heap.objs.size []) (fun b o e => Heap.get?_push_of_some (newSet X.w) e) (Nat.le_refl _) (setT_ok newSet_is)
  have fps : ∀ b ∈ fp, FpOk X pins (upd H2 s2.heap.objs.size (SetTO X.w s2.heap.objs.size [])) b ∧ b < (s2.heap.push (newSet X.w)).objs.size := fun b hb => by
    obtain ⟨o, e, _⟩ := T.obj _ _ st2 b hb
    have lt := Heap.lt_size e
    refine ⟨⟨?_, (f2 b hb).2⟩, by rw [Heap.size_push]; exact Nat.lt_succ_of_lt lt⟩
    rw [upd_ne (Nat.ne_of_lt lt)]
    exact (f2 b hb).1
  have sts : tn 0 (s2.heap.push (newSet X.w)) := T.keep _ _ _ st2 fun b _ o e => Heap.get?_push_of_some _ e
  obtain ⟨s3, hs3⟩ : ∃ s3 : Shared, s3 = { s2 with heap := s2.heap.push (newSet X.w) } := ⟨_, rfl⟩
  obtain ⟨H3, hH3⟩ : ∃ H3, H3 = upd H2 s2.heap.objs.size (SetTO X.w s2.heap.objs.size []) := ⟨_, rfl⟩
  obtain ⟨D, hD⟩ : ∃ D, D = s2.heap.objs.size := ⟨_, rfl⟩
  have e3 : s3.heap = s2.heap.push (newSet X.w) := by rw [hs3]
  rw [← hH3] at Is fps w0
  have Is' : Inv X pins σ H3 s3 := by rw [hs3]; exact Is
  rw [← e3] at fps sts
  rw [← hD] at turn
  show codeAny _ _ (.compStart _ 0 (.ref it) (.ref s2.heap.objs.size) _) (compPost (model X.prog X.w) X.A X.xe none _ (.ref s2.heap.objs.size) _) _
  rw [show ({ s2 with heap := s2.heap.push { cls := .type "set", dict := none, data := .set #[] 0 (.fresh 0 0 (!X.w.params.followText "set-order")) } } : Shared) = s3 from hs3.symm, ← hD]
  clear Is
  have I4 := block_start Is' ok hN fps
  obtain ⟨C, hC⟩ : ∃ C, C = s3.heap.objs.size := ⟨_, rfl⟩
  have pg := hg s3 H3 C (cellsFrom (C + 1) scope.names (cloFrom X.env.cells scope.names [])) fp
  have pt := ht s3 H3 C (cellsFrom (C + 1) scope.names (cloFrom X.env.cells scope.names [])) fp
  have pe := he s3 H3 C (cellsFrom (C + 1) scope.names (cloFrom X.env.cells scope.names [])) fp
  rw [← hC] at I4 ⊢
  show codeAny _ _ (.compStart (.SetComp elt [⟨tg, iter, ifs, 0⟩] scope pos) 0 (.ref it) (.ref D) (compEnvC scope (cellsFrom (C + 1) scope.names (cloFrom X.env.cells scope.names [])) C X.env)) (compPost (model X.prog X.w) X.A X.xe none (EP X pins σ Q) (.ref D) C) _
  have sts4 : tn 0 (pushCells (s3.heap.push { cls := .type "dict", data := .dict #[] }) scope.names) := T.keep _ _ _ sts fun b _ o e => pushCells_keeps _ _ _ _ (Heap.get?_push_of_some _ e)
  generalize hce : compEnvC scope (cellsFrom (C + 1) scope.names (cloFrom X.env.cells scope.names [])) C X.env = ce at I4 pg pt pe ⊢
  have hloc : ce.locals = C := by rw [← hce]; rfl
  generalize hs4 : ({ s3 with heap := pushCells (s3.heap.push { cls := .type "dict", data := .dict #[] }) scope.names } : Shared) = s4 at I4 ⊢
  have sts5 : tn 0 s4.heap := by rw [← hs4]; exact sts4
  -- the iterator's own things stay where they are
  have own4 : ∀ {σ' : L2.St} {H' : Hp} {s' : Shared}, Inv (X.blk s3 H3 scope ce fp) [] σ' H' s' → (∀ b ∈ fp, H' b = none) → ∀ b ∈ fp, FpOk (X.blk s3 H3 scope ce fp) [] H' b := fun I' hn b hb =>
    ⟨hn b hb, (I'.ok.exf b hb).1, I'.ok.exfs b hb, .inl hb, fun x c e => (I'.ok.exf b hb).2 x c e, fun z hz => absurd hz (by simp)⟩
  have none3 : ∀ b ∈ fp, H3 b = none := fun b hb => (fps b hb).1.1
  have loop : codeAny (model X.prog X.w) X.A (.compLoop (.SetComp elt [⟨tg, iter, ifs, 0⟩] scope pos) 0 (.ref it) (.ref D) ce) (compPost (model X.prog X.w) X.A X.xe none (EP X pins σ Q) (.ref D) C) s4 := by
    refine PpSet.compLoopS_any (Between (X.blk s3 H3 scope ce fp) (own.map (·.2)) σ fp tn W) ?_ m0 ⟨0, H3, I4, sts5, none3, w0⟩
    rintro n s5 ⟨i, H5, I5, st5, n5, w5⟩
    rcases turn i n H5 w5 with ⟨stop, qq⟩ | ⟨go, Nx, hNx, step⟩
    · refine thnF (T.done (X.blk s3 H3 scope ce fp) rfl rfl rfl hc i [] s5 _ H5 (fun _ _ => False) I5 (own4 I5 n5) st5 stop) fun r s6 hr => ?_
      obtain ⟨rfl, I6⟩ := hr
      -- back in the def's own frame
      have I7 : Inv X pins σ H5 s6 := Is'.call' (ch := fp) I6.os I6.base I6.hok I6.bare fun b hb => ⟨(fps b hb).1.2.2.2.1, (fps b hb).1.2.1, (fps b hb).1.2.2.2.2.1, (fps b hb).1.2.2.2.2.2⟩
      have nC : H5 s3.heap.objs.size = none := by
        have z : H5 ce.locals = none := I6.free
        rwa [hloc, hC] at z
      obtain ⟨m, hn, _⟩ := I6.loc
      have hn' : s6.heap.Ns C m := by rw [← hloc]; exact hn
      obtain ⟨f0, f1, _, f3, f4, f5⟩ := Is'.fpOk (Nat.le_refl _) nC
      rw [← hC] at f0 f1 f3 f4 f5
      exact ⟨m, hn', fun h'' sb => ⟨.ref D, H5, I7.turned (t' := s6.toks) (fun b o hb e => (sb.2 b hb).trans e) f0 f1 f3 f4 f5, rfl, qq⟩⟩
    · refine thnF (T.item (X.blk s3 H3 scope ce fp) rfl rfl rfl hc i [] s5 _ H5 (fun _ _ => False) I5 (own4 I5 n5) st5 go) fun r s6 hr => ?_
      obtain ⟨u, rfl, h6⟩ := hr
      refine thnF h6 fun _ s7 h7 => ?_
      obtain ⟨x, H7, I7, r7, y7, st7, n7⟩ := h7
      refine thnF (pg.run _ s7 _ H7 x u _ (I7.pinned (own4 I7 n7) (T.obj _ _ st7)) r7 (step x H7 y7)) fun _ s8 h8 => ?_
      obtain ⟨σ8, H8, I8, hw8, q8⟩ := h8
      refine thnF (pt.run _ s8 σ8 H8 _ I8 q8) fun b s9 h9 => ?_
      obtain ⟨H9, I9, q9⟩ := h9
      -- the turn is over
      have over : ∀ {s' : Shared} {H' : Hp}, Inv (X.blk s3 H3 scope ce fp) ([] ++ pinsAt fp s7.heap) σ8 H' s' → Nx H' → ∃ m, m < n ∧ Between (X.blk s3 H3 scope ce fp) (own.map (·.2)) σ fp tn W m s' := fun {s' H'} I' nx => by
        obtain ⟨m', hm, w'⟩ := hNx H' nx
        have pn : ∀ b ∈ fp, ∀ o, s7.heap.get? b = some o → s'.heap.get? b = some o ∧ H' b = none := fun b hb o e => by
          have z := I'.pin (b, o) (List.mem_append_right _ (List.mem_append_right _ (mem_pinsAt hb e)))
          exact ⟨z.1, z.2.1⟩
        have hl : (wipe σ (own.map (·.2))).length = σ8.length := by rw [← hw8, wipe_length]
        refine ⟨m', hm, i + 1, H', (I'.unpinned (pins := [])).weak hl (fun j v e => ?_), T.keep _ _ _ st7 fun b hb o e => (pn b hb o e).1, fun b hb => ?_, w'⟩
        · rw [← hw8] at e
          exact (wipe_some e).1
        · obtain ⟨o, e, _⟩ := T.obj _ _ st7 b hb
          exact (pn b hb o e).2
      cases b with
      | false =>
        rw [if_neg Bool.false_ne_true] at q9 ⊢
        exact over I9 q9
      | true =>
        rw [if_pos rfl] at q9 ⊢
        refine thnF (pe.run _ s9 σ8 H9 _ I9 q9) fun z s10 h10 => ?_
        obtain ⟨yv, H10, I10, r10, c1, l1, rfl, hD10, hz10, nx⟩ := h10
        obtain ⟨tk, rfl⟩ := r10
        exact addT_inv (X := X.blk s3 H3 scope ce fp) I10 hD10 hz10 fun s11 I11 => over I11 nx
  exact PpSet.codeAny_compStart_set loop (T.self X.A 0 _ _ _ sts5 loop)
end
/-- texts made of a dict's keys, as a set -/
theorem scd_texts {w : World} {σ : L2.St} {H : Hp} {Q : VK} {d : Addr} {s : Bg} {te0 te : TE} {j : Nat} {vs : List Nat} (hd : Rd H d (.dK (toK s))) (hz : s.length ≤ 1000)
    (he : ∀ (H' : Hp) (Q : VK), LkEx d s H H' → Q (.ref d) H' → te0 σ H' Q) (f : Str → Str) (hw : ∀ x, wipe ((wipe σ vs).set j x) vs = wipe σ vs)
    (hs : ∀ (i : Nat) (z : Str) (n : Int) (H' : Hp) (K : VK), s[i]? = some (z, n) → LkEx d s H H' → (∀ H4, Ex H' H4 → K (.str (f z)) H4) → te ((wipe σ vs).set j (some (.str z))) H' K)
    (hend : ∀ D H', H D = none → Ex H H' → H' D = some (SetTO w D (ofListT ((keys s).map f))) → Q (.ref D) H') : tLockRE (tScT w (iKeys te0) (gName j) tYes te vs) σ H Q := by
  refine lock_any hd fun Hl od Q' hl l0 hnone hq => ?_
  refine he Hl _ l0 ⟨d, od, rfl, .inl ⟨toK s, hl, fun D hD => ?_⟩⟩
  have hDd : D ≠ d := fun z => by subst z; rw [hl] at hD; cases hD
  refine ⟨fun i m H' => m = s.length - i ∧ i ≤ s.length ∧ Ex Hl H' ∧ H' D = some (SetTO w D (ofListT ((keys (s.take i)).map f))), ⟨s.length, by simp, Nat.zero_le _, Ex.new hD, upd_same⟩, ?_⟩
  rintro i m H2 ⟨rfl, hi, e2, hD2⟩
  have hl2 := e2 _ _ hl
  by_cases hlt : i < s.length
  · refine .inr ⟨⟨hl2, by rw [toK_len]; exact hlt⟩, fun H' => Ex Hl H' ∧ H' D = some (SetTO w D (ofListT ((keys (s.take (i + 1))).map f))), fun H' p => ⟨s.length - (i + 1), by omega, rfl, hlt, p.1, p.2⟩, ?_⟩
    rintro x H' ⟨rfl, k, v, hk, rfl⟩
    obtain ⟨z, n, hw', ekv⟩ := toK_get hk
    cases ekv
    refine ⟨hw _, ?_⟩
    unfold tYes
    dsimp only
    rw [if_pos rfl]
    refine hs i z n _ _ hw' (l0.ex e2) fun H4 e4 => ⟨f z, _, rfl, e4 _ _ hD2, ?_, ?_, ?_⟩
    · have h1 := ofListT_len ((keys (s.take i)).map f)
      rw [List.length_map] at h1
      unfold keys at h1
      rw [List.length_map, List.length_take] at h1
      have h2 : (ofListT ((keys (s.take i)).map f)).length + 1 ≤ 1001 := by unfold keys; omega
      exact Nat.lt_of_le_of_lt h2 (by decide)
    · exact Ex.mut (e2.trans e4) hD
    · rw [upd_same]
      have e9 : addT (ofListT ((keys (s.take i)).map f)) (f z) = ofListT ((keys (s.take (i + 1))).map f) := by
        rw [List.take_add_one, hw', Option.toList_some]
        unfold keys ofListT
        rw [List.map_append, List.map_append, List.foldl_append]
        rfl
      rw [e9]
  · have hi2 : i = s.length := by omega
    refine .inl ⟨⟨hl2, by rw [toK_len, hi2]; exact Nat.le_refl _⟩, ?_⟩
    · rw [hi2, List.take_length] at hD2
      exact hq _ H2 (fun D' z => by cases z; exact hnone _ hD) e2 fun H3 e3 hs3 _ => hend D H3 (hnone _ hD) e3 (by rw [hs3 D hDd]; exact hD2)
end Fp

/-! sorted(xs, key=f), f a def of our own that calls others: its promise tells the key, and that all that is tracked stands. -/
namespace Fp
open PySem L2 PySem.W PyProof.Rows
theorem eachIs_get {α β : Type} {R : α → β → Prop} : ∀ {vs : List α} {ds : List β}, vs.length = ds.length → (∀ (i : Nat) (v : α) (d : β), vs[i]? = some v → ds[i]? = some d → R v d) → EachIs R vs ds
  | [], [], _, _ => .nil
  | [], _ :: _, h, _ => nomatch h
  | _ :: _, [], h, _ => nomatch h
  | v :: vs, d :: ds, h, hr => .cons (hr 0 v d rfl rfl) (eachIs_get (by simpa using h) fun i v' d' h1 h2 => hr (i + 1) v' d' h1 h2)
theorem vals_byFst {bs : List (V × PyData)} {out : List Value} (h : EachIs (fun (v : Value) (b : V × PyData) => RelV b.1 v) out bs) : Vals (bs.map Prod.fst) out := by
  induction h with
  | nil => exact .nil
  | cons h1 _ ih => exact .cons h1 ih
/-- the values of a row, put in the order of their keys -/
def byKey (xs : List V) (ks : List PyData) : List V := ((xs.zip ks).mergeSort (dataLe false Prod.snd)).map Prod.fst
/-- what sorted(xs, key=f) asks -/
def rSortK (K : PySem.W.Frag) (f : Addr) (sp : Sp) : List V → List V → Hp → VK → Prop := fun vs zs H Q => ∃ (a : Addr) (xs : List V) (ks : List PyData) (KR : Nat → V → Hp → Prop), vs = [V.ref a] ∧ zs = [V.ref f] ∧ SqL K H a xs ∧ ks.length = xs.length ∧ AllAlike ks ∧ Sortable ks ∧ (∀ d ∈ ks, d.depth ≤ 8) ∧
  (∀ i v H H', ExL H H' → KR i v H → KR i v H') ∧ (∀ i d v H, ks[i]? = some d → KR i v H → Dp K H v d) ∧
  (∀ i x H1, xs[i]? = some x → Ex H H1 → sp [x] H1 (fun v H2 => Ex H1 H2 ∧ KR i v H2) E0) ∧
  ∀ p H', H p = none → Ex H H' → H' p = some (.lst (byKey xs ks)) → Q (.ref p) H'
section
variable {X : L2.Cx} {k : Nat} {f : Addr} {fd : FuncData} {ps : List Str} {sp : Sp} {pins : List (Addr × Obj)} {σ : L2.St}
/-- the callee runs, two built-ins deeper -/
theorem turn_fn {H : Hp} {s : Shared} {Q : VK} {us : List Value} {vs : List V} {E : XK} {E' : Value → Shared → Prop} (F : FnOk X.prog X.w X.K X.mg X.base CX0 k f fd ps sp) (hr : Room (k + 2) X.A) (hb : L2.Binds X.K fd ps [])
    (I : Inv X pins σ H s) (r : Vals vs us) (h : sp vs H Q E) : wpAny (model X.prog X.w) X.A.in1.in1 (call (.ref f) us) (EP X pins σ Q) E' s := by
  have hl : us.length = ps.length := by rw [← r.length]; exact F.len _ _ _ _ h
  have hb2 : BindsTo s fd ⟨us, []⟩ (ps.zip us) := by
    have := hb s us I.kIn (by rw [List.append_nil]; exact hl)
    rw [List.append_nil] at this
    exact this
  refine wpAny_call (codeAny_mono (F.run X.A.in1.in1 X.stack s H ⟨us, []⟩ us vs Q E hr.in1.in1 I.env0.in1.in1 hb2 r h) fun r s' hq => ?_)
  cases r with
  | error e => exact hq.elim
  | ok fl =>
    cases fl with
    | ret u => exact I.after hq
    | next => exact False.elim hq
    | brk => exact False.elim hq
    | cont => exact False.elim hq
/-- an untracked object that is ours may be anything -/
def hide1 (h : Heap) (a : Addr) : Heap := PySem.W.hideAll h [a]
theorem hide1_get {h : Heap} {a b : Addr} {o : Obj} (e : h.get? b = some o) (n : b ≠ a) : (hide1 h a).get? b = some o := PySem.W.hideAll_get _ e (by simpa using n)
theorem hide1_none {h : Heap} {a : Addr} : (hide1 h a).get? a = none := PySem.W.hideAll_none [a] (by simp)
theorem of_hide1 {h : Heap} {a b : Addr} {o : Obj} (e : (hide1 h a).get? b = some o) : b ≠ a ∧ h.get? b = some o := by
  refine ⟨fun z => ?_, PySem.W.of_hideAll [a] e⟩
  subst z
  rw [hide1_none] at e
  cases e
theorem cr_sortK (F : FnOk X.prog X.w X.K X.mg X.base CX0 k f fd ps sp) (hb : L2.Binds X.K fd ps []) (hr : Room (k + 2) X.A) : CallRK X (.builtin "sorted") [Str.ofString "key"] (rSortK X.K f sp) := by
  intro pins s σ H vs zs us ws Q I r rz h
  obtain ⟨a, xs, ks, KR, rfl, rfl, hs, hlen, hal, hsk, hdp, hmono, hdat, hturn, q⟩ := h
  obtain rfl := Vals.ref1 r
  obtain ⟨w1, rfl, e1⟩ := vals1 rz
  obtain rfl : w1 = Value.ref f := e1
  obtain ⟨its, rv, hl, hz⟩ := I.list hs
  have hil : its.length = xs.length := rv.length.symm
  have hizl : its.length ≤ sizeLine := by omega
  refine sorted_of_sort hl.isList hizl (ksk_s1 _ _) (fun _ => ksk_l1 _ _) fun E' => ?_
  show wpAny _ _ (ksk_tree (s.heap.objs.size + 1) (.ref f) false) _ _ _
  have hLs : s.heap.objs.size ≤ s.heap.objs.size + 1 := Nat.le_succ _
  generalize hL : s.heap.objs.size + 1 = L at *
  have hcs : (copyHeap s.heap its).get? L = some (seqObj "list" its.toArray 0) := by rw [← hL]; exact copyHeap_at s.heap its
  obtain ⟨e1, ho1⟩ : ∃ e1, ((copyHeap s.heap its).update L (Obj.mapSeq fun _ => (#[] : Array Value))).get? L = some (seqObj "list" #[] e1) := ⟨_, get?_update_seq hcs fun _ => #[]⟩
  unfold ksk_tree
  refine wpAny_bind (listItems_at hcs rfl ?_)
  refine wpAny_bind (listUpdate_at hcs rfl ?_ (by rw [List.size_toArray]; exact hizl) (Nat.zero_le _))
  refine wpAny_bind (seqEpoch_at ho1 rfl ?_)
  refine wpAny_bind (wpAny_newTuple ?_ (by show its.length ≤ _; exact hizl))
  refine wpAny_bind (wpAny_newList ?_ (Nat.zero_le _))
  refine wpAny_holding ?_
  dsimp only
  generalize hh1 : ((copyHeap s.heap its).update L (Obj.mapSeq fun _ => (#[] : Array Value))).push { cls := .type "tuple", data := .seq (its.toArray.toList).toArray } = h1
  have hk1 : ∀ b u, s.heap.get? b = some u → h1.get? b = some u := fun b u e => by
    have hb : b ≠ L := by rw [← hL]; exact Nat.ne_of_lt (Nat.lt_succ_of_lt (Heap.lt_size e))
    rw [← hh1]
    exact Heap.get?_push_of_some _ (by rw [Heap.get?_update_ne _ _ _ _ hb]; exact copyHeap_old e)
  have hLo : h1.get? L = some (seqObj "list" #[] e1) := by rw [← hh1]; exact Heap.get?_push_of_some _ ho1
  have hLn : s.heap.get? L = none := Heap.get?_none_of_le hLs
  have hHL : H L = none := I.hok.fresh hLs
  have I1 : Inv X pins σ H { s with heap := h1 } := I.kept (t' := s.toks) hk1
  have hlocL : L ≠ X.env.locals := Nat.ne_of_gt (Nat.lt_of_lt_of_le I.lt hLs)
  have hLc : ∀ x c, X.env.cells.lookup x = some c → c ≠ L := fun x c e z => by
    obtain ⟨v, o, ho, _⟩ := I.cell x c e
    rw [z, hLn] at ho
    cases ho
  have I1p : Inv X ((L, seqObj "list" #[] e1) :: pins) σ H { s with heap := h1 } := I1.pins_of fun p hp => by
    rcases List.mem_cons.mp hp with rfl | hp
    · exact ⟨hLo, hHL, hlocL, I.nofs hLs, fun v z => nomatch z⟩
    · exact I1.pin p (List.mem_append_right _ hp)
  have I2 := I1p.lnew (its := []) (ys := []) (t' := s.toks) .nil (Nat.zero_le _)
  have hkL : h1.objs.size ≠ L := Nat.ne_of_gt (Heap.lt_size hLo)
  have hks : s.heap.objs.size ≤ h1.objs.size := Nat.le_of_lt (by rw [← hL] at hLo; exact Nat.lt_of_succ_lt (Heap.lt_size hLo))
  have hHk : H h1.objs.size = none := I.hok.fresh hks
  have hn1 : h1.get? h1.objs.size = none := Heap.get?_none_of_le (Nat.le_refl _)
  generalize hh2 : h1.push { cls := .type "list", data := .seq ([] : List Value).toArray } = h2 at I2 ⊢
  generalize hkS : h1.objs.size = kS at *
  unfold ksk_rest
  refine wpAny_bind (wpAny_rule ?_)
  first
    | rw [List.forIn_toArray]
    | (rw [← Array.forIn_toList]; simp only [List.toList_toArray])
    | rw [← Array.forIn_toList]
  refine wpAny_bind (ksk_fold (fun i s' => ∃ H' ys, Inv X ((L, seqObj "list" #[] e1) :: pins) σ H' s' ∧ Ex H H' ∧ H' kS = some (.lst ys) ∧ ys.length = i ∧ ∀ (j : Nat) (y : V), ys[j]? = some y → KR j y H') its 0 _
    ⟨_, [], I2, Ex.new hHk, upd_same, rfl, fun j y e => nomatch e⟩ ?step ?done)
  case step =>
    rintro j v s' hv ⟨H', ys, I', e, hk, hy, hr'⟩
    simp only [Nat.zero_add] at hy ⊢
    obtain ⟨x, hx, rx⟩ : ∃ x, xs[j]? = some x ∧ RelV x v := by
      have hj : j < its.length := (List.getElem?_eq_some_iff.mp hv).1
      have hx : xs[j]? = some xs[j] := List.getElem?_eq_getElem (by omega)
      obtain ⟨u, hu, ru⟩ := rv.get hx
      rw [hv] at hu
      cases hu
      exact ⟨_, hx, ru⟩
    refine wpAny_bind (wpAny_attempt (wpAny_mono (turn_fn F hr hb I' (.cons rx .nil) (hturn j x H' hx e)) (fun u s'' he => ?_) fun _ _ hF => hF))
    obtain ⟨y, H'', I'', ry, e'', hky⟩ := he
    have hk2 := e'' _ _ hk
    obtain ⟨z, its2, n2, r2, hl2, e2⟩ := I''.lstM hk2
    have hyz : ys.length < sizeLine + 1 := by omega
    have hj : j < its.length := (List.getElem?_eq_some_iff.mp hv).1
    have hsz : (its2.toArray.push u).size ≤ sizeLine := by rw [Array.size_push, List.size_toArray]; omega
    try dsimp only
    refine wpAny_bind (listUpdate_at e2 rfl ?_ (by rw [List.size_toArray]; omega) (by omega))
    have I3 := I''.lset (f := (·.push u)) (its' := its2 ++ [u]) (t' := s''.toks) hk2 e2 (by simp) (r2.append (.cons ry .nil)) (by rw [List.length_append, List.length_singleton]; omega)
    refine wpAny_pure ⟨rfl, _, ys ++ [y], I3, Ex.mut (e.trans e'') hHk, upd_same, by rw [List.length_append, List.length_singleton, hy], fun i w hw => ?_⟩
    rcases Nat.lt_or_ge i ys.length with q1 | q1
    · rw [List.getElem?_append_left q1] at hw
      exact hmono _ _ _ _ (ExL.trans (Ex.exl e'') (ExL.upd hk2)) (hr' i w hw)
    · rw [List.getElem?_append_right q1] at hw
      have q2 : i - ys.length = 0 := by
        have := (List.getElem?_eq_some_iff.mp hw).1
        simp at this
        omega
      rw [q2] at hw
      cases hw
      have : i = j := by omega
      subst this
      exact hmono _ _ _ _ (ExL.upd hk2) hky
  case done =>
    rintro s' ⟨H', ys, I', e, hk, hy, hr'⟩
    simp only [Nat.zero_add] at hy
    obtain ⟨z, its2, n2, r2, hl2, e2⟩ := I'.lstM hk
    have hLp := (I'.pin (L, seqObj "list" #[] e1) (List.mem_append_right _ List.mem_cons_self))
    have eks : EachIs (fun v d => ∃ as, Reads s'.heap v d as) its2 ks := eachIs_get (by omega) fun i v d hv hd => by
      have hi : i < ys.length := by have := (List.getElem?_eq_some_iff.mp hv).1; omega
      have hyi : ys[i]? = some ys[i] := List.getElem?_eq_getElem hi
      obtain ⟨u, hu, ru⟩ := Vals.get r2 hyi
      rw [hv] at hu
      cases hu
      exact Dp.reads I' d _ _ (hdat i d _ H' hd (hr' i _ hyi)) ru
    try dsimp only
    refine wpAny_bind (listItems_at e2 rfl ?_)
    refine keyH_end (κ := dataKind s'.heap ks) (h₁ := hide1 s'.heap kS) (fun b o _ q => (of_hide1 q).2) hide1_none e2 hLp.1 hkL
      (SortsAt.data (s := s') eks hal hsk fun d hd => by
        have h1 := hr.un
        have h2 := hdp d hd
        show X.A.units + 1 + 1 + d.depth < cLine
        omega) (by rw [List.size_toArray]; omega) hizl fun h3 tk3 c k3 n3 => ⟨rfl, ?_⟩
    have hmz : (xs.zip ks).map Prod.snd = ks := by rw [List.map_snd_zip (by omega)]
    have ko : KeyedOut false ((xs.zip ks).map Prod.snd) its (sortVals (dataKind s'.heap ks) false its2.toArray.toList its) := by
      rw [hmz]
      exact ⟨s'.heap, its2.toArray.toList, hal, rfl, eks⟩
    have eR : EachIs (fun (v : Value) (b : V × PyData) => RelV b.1 v) its (xs.zip ks) := eachIs_get (by rw [List.length_zip]; omega) fun i v b hv hb' => by
      obtain ⟨h4, h5⟩ := List.getElem?_zip_eq_some.mp (show (xs.zip ks)[i]? = some (b.1, b.2) from hb')
      obtain ⟨u, hu, ru⟩ := rv.get h4
      rw [hv] at hu
      cases hu
      exact ru
    have eO := keyedOut_each Prod.snd ko eR
    generalize sortVals (dataKind s'.heap ks) false its2.toArray.toList its = out at n3 eO
    have vO : Vals (byKey xs ks) out := vals_byFst eO
    have hbl : (byKey xs ks).length ≤ sizeLine := by
      unfold byKey
      rw [List.length_map, (List.mergeSort_perm _ _).length_eq, List.length_zip]
      omega
    have hLn' : H' L = none := hLp.2.1
    have kp : ∀ b o, b ≠ L → b ≠ kS → s'.heap.get? b = some o → h3.get? b = some o := fun b o h4 h5 h6 => k3 b o h4 (hide1_get h6 h5)
    have fin : Inv X pins σ (upd (fun b => if b = kS then none else H' b) L (.lst (byKey xs ks))) { s' with heap := h3, gens := s'.gens, drawn := s'.drawn, toks := tk3 } := by
      have Ip : Inv X pins σ H' s' := I'.pins_of fun p hp => I'.pin p (List.mem_append_right _ (List.mem_cons_of_mem _ hp))
      have hf : ∀ b u, b ≠ L → b ≠ kS → H' b = u → upd (fun b => if b = kS then none else H' b) L (.lst (byKey xs ks)) b = u := fun b u h4 h5 h6 => by
        rw [upd_ne h4]
        show (if b = kS then none else H' b) = u
        rw [if_neg h5]
        exact h6
      have nL : ∀ b u, H' b = some u → b ≠ L := fun b u h4 z => by rw [z, hLn'] at h4; cases h4
      have nK : ∀ b u, H' b = some u → (∀ ys, u ≠ .lst ys) → b ≠ kS := fun b u h4 h5 z => by rw [z, hk] at h4; exact h5 _ (Option.some.inj h4).symm
      have old : ∀ b, b = L ∨ b = kS → s.heap.objs.size ≤ b := fun b h4 => by
        rcases h4 with rfl | rfl
        · exact hLs
        · exact hks
      refine Ip.step (ch := [kS, L]) (fun b hb' => ?_) (fun b o h4 h5 h6 h7 h8 => kp b o (fun z => h6 (by simp [z])) (fun z => h6 (by simp [z])) h7) (fun b o h4 h5 h6 h7 h8 => ⟨o.slots, kp b o (fun z => h6 (by simp [z])) (fun z => h6 (by simp [z])) h7⟩)
        (fun b o h4 h5 h6 => hf b _ (fun z => h4 (by simp [z])) (fun z => h4 (by simp [z])) h6) (fun b o h4 h5 => ⟨o, kp b o (fun z => h4 (by simp [z])) (fun z => h4 (by simp [z])) h5⟩)
        (fun b xs' h4 => hf b _ (nL _ _ h4) (nK _ _ h4 fun _ z => nomatch z) h4) (fun b o u h4 => hf b _ (nL _ _ h4) (nK _ _ h4 fun _ z => nomatch z) h4) (fun b ps' h4 => ⟨#[], by rw [hf b _ (nL _ _ h4) (nK _ _ h4 fun _ z => nomatch z) h4]; simp⟩)
        (fun m hm => ?_) (fun b u h4 => ?_) I'.bare
      · have hb2 : b = L ∨ b = kS := by
          rcases List.mem_cons.mp hb' with z | z
          · exact .inr z
          · exact .inl (List.mem_singleton.mp z)
        have hb3 := old b hb2
        refine ⟨.inr (Nat.le_trans I.sz hb3), Nat.ne_of_gt (Nat.lt_of_lt_of_le I.lt hb3), fun x c' h4 z => ?_, fun p hp z => ?_⟩
        · obtain ⟨v, o, ho, _⟩ := I.cell x c' h4
          rw [z] at ho
          exact absurd (Heap.lt_size ho) (Nat.not_lt.mpr hb3)
        · have ho := (I.pin p hp).1
          rw [z] at ho
          exact absurd (Heap.lt_size ho) (Nat.not_lt.mpr hb3)
      · obtain ⟨o, es, ep, ho, hr⟩ := hm
        refine ⟨o, es, ep, kp _ o (Ne.symm hlocL) (fun z => ?_) ho, hr⟩
        have := I.lt
        rw [z] at this
        exact absurd this (Nat.not_lt.mpr hks)
      · by_cases hbL : b = L
        · subst hbL
          rw [upd_same] at h4
          cases h4
          exact ⟨hbl, out, c, vO, n3⟩
        · rw [upd_ne hbL] at h4
          have h5 : b ≠ kS := fun z => by
            have : (if b = kS then none else H' b) = some u := h4
            rw [if_pos z] at this
            cases this
          have h6 : H' b = some u := by
            have : (if b = kS then none else H' b) = some u := h4
            rw [if_neg h5] at this
            exact this
          refine (Ip.hok b u h6).stay (fun c' v hc' q' => ?_) (fun c' q' => hf c' _ (nL _ _ q') (nK _ _ q' fun _ z => nomatch z) q') fun c' xs' q' => hf c' _ (nL _ _ q') (nK _ _ q' fun _ z => nomatch z) q'
          rcases hc' with z | z
          · subst z
            exact kp _ v hbL h5 q'
          · exact kp _ v (nL _ _ z) (nK _ _ z fun _ z => nomatch z) q'
    refine ⟨.ref L, _, fin, rfl, q L _ hHL (fun b o h4 => ?_) upd_same⟩
    have h5 := e _ _ h4
    rw [upd_ne (ne_of_none h4 hHL)]
    show (if b = kS then none else H' b) = some o
    rw [if_neg (ne_of_none h4 hHk)]
    exact h5
theorem dpAll_get {K : PySem.W.Frag} {H : Hp} : ∀ {xs : List V} {ds : List PyData}, DpAll K H xs ds → ∀ {i : Nat} {x : V} {d : PyData}, xs[i]? = some x → ds[i]? = some d → Dp K H x d
  | _, _, .cons h t, 0, x, d, h1, h2 => by
    cases Option.some.inj h1
    cases Option.some.inj h2
    exact h
  | _, _, .cons h t, i + 1, x, d, h1, h2 => dpAll_get t (i := i) h1 h2
  | _, _, .nil, i, x, d, h1, _ => by simp at h1
/-- what sorted(xs) asks of alike data -/
def rSortedD (K : PySem.W.Frag) : List V → Hp → VK → Prop := fun vs H Q => ∃ (a : Addr) (xs : List V) (ks : List PyData), vs = [V.ref a] ∧ SqL K H a xs ∧ ks.length = xs.length ∧ AllAlike ks ∧ Sortable ks ∧ (∀ d ∈ ks, d.depth ≤ 8) ∧ DpAll K H xs ks ∧
  ∀ p, H p = none → Q (.ref p) (upd H p (.lst (byKey xs ks)))
theorem cr_sortedD (hu : X.A.units + 64 < cLine) : CallR X (.builtin "sorted") (rSortedD X.K) := by
  intro pins s σ H vs us Q I r h
  obtain ⟨a, xs, ks, rfl, hs, hlen, hal, hsk, hdp, hdat, q⟩ := h
  obtain rfl := Vals.ref1 r
  obtain ⟨its, rv, hl, hz⟩ := I.list hs
  have hil : its.length = xs.length := rv.length.symm
  have eR : EachIs (fun (v : Value) (b : V × PyData) => RelV b.1 v) its (xs.zip ks) := eachIs_get (by rw [List.length_zip]; omega) fun i v b hv hb' => by
    obtain ⟨h4, h5⟩ := List.getElem?_zip_eq_some.mp (show (xs.zip ks)[i]? = some (b.1, b.2) from hb')
    obtain ⟨u, hu, ru⟩ := rv.get h4
    rw [hv] at hu
    cases hu
    exact ru
  have eD : EachIs (fun (v : Value) (b : V × PyData) => ∃ as, Reads s.heap v b.2 as) its (xs.zip ks) := eachIs_get (by rw [List.length_zip]; omega) fun i v b hv hb' => by
    obtain ⟨h4, h5⟩ := List.getElem?_zip_eq_some.mp (show (xs.zip ks)[i]? = some (b.1, b.2) from hb')
    obtain ⟨u, hu, ru⟩ := rv.get h4
    rw [hv] at hu
    cases hu
    exact Dp.reads I _ _ _ (dpAll_get hdat h4 h5) ru
  have hmz : (xs.zip ks).map Prod.snd = ks := by rw [List.map_snd_zip (by omega)]
  refine PySem.W.sorted_data (enc := Prod.snd) hl.isList eR eD (by rw [hmz]; exact hal) (by rw [hmz]; exact hsk) (by rw [List.length_zip]; omega) (fun b hb' => ?_) fun out ho eO => ?_
  · have h1 : b.2 ∈ ks := by rw [← hmz]; exact List.mem_map.mpr ⟨b, hb', rfl⟩
    have h2 := hdp _ h1
    omega
  · have vO : Vals (byKey xs ks) out := vals_byFst eO
    have hbl : (byKey xs ks).length ≤ sizeLine := by
      unfold byKey
      rw [List.length_map, (List.mergeSort_perm _ _).length_eq, List.length_zip]
      omega
    obtain ⟨ep2, he'⟩ := PyProof.Rows.sortedAll_at s.heap its (List.toArray out)
    exact ⟨.ref _, upd H (s.heap.objs.size + 1) (.lst (byKey xs ks)), I.laid (t' := s.toks) (fun _ _ => PyProof.Rows.sortedAll_old) (Nat.le_succ _) ⟨hbl, out, ep2, vO, he'⟩, rfl, q _ (I.hok.fresh (Nat.le_succ _))⟩
/-- x (not) in a list of data, whatever its texts -/
def rInP (K : PySem.W.Frag) (neg : Bool) : R2 := fun x y H Q => ∃ d ds, Dp K H x d ∧ Dp K H y (.list ds) ∧ d.plain = true ∧ PyData.plainAll ds = true ∧ d.depth ≤ 60 ∧ Q (.bl (if neg = true then !ds.any fun z => PyData.eqv z d else ds.any fun z => PyData.eqv z d)) H
theorem op_inP (hu : X.A.units + 65 < cLine) : OpR X (compareOp .In) (rInP X.K false) := by
  intro pins s σ H x y v u Q I rx ry h
  obtain ⟨d, ds, hd, he, sd, se, hz, q⟩ := h
  obtain ⟨as, r1⟩ := Dp.reads I d x v hd rx
  obtain ⟨bs, r2⟩ := Dp.reads I (.list ds) y u he ry
  rw [if_neg Bool.false_ne_true] at q
  exact SeqAt.in_list_data r2 r1 se sd (by omega) ⟨.bl _, H, I, rfl, q⟩
theorem op_notInP (hu : X.A.units + 65 < cLine) : OpR X (compareOp .NotIn) (rInP X.K true) := by
  intro pins s σ H x y v u Q I rx ry h
  obtain ⟨d, ds, hd, he, sd, se, hz, q⟩ := h
  obtain ⟨as, r1⟩ := Dp.reads I d x v hd rx
  obtain ⟨bs, r2⟩ := Dp.reads I (.list ds) y u he ry
  rw [if_pos rfl] at q
  exact SeqAt.notIn_list_data r2 r1 se sd (by omega) ⟨.bl _, H, I, rfl, q⟩
end
end Fp

namespace Fp
open PySem L2
section
variable {P : Program} {w : World} {K : PySem.W.Frag} {mg : Str → Option Value} {base : Heap} {C_Bag : Addr} {Cs : Addr → Prop}
local macro_rules | `(tactic| walk_at "hp") => `(tactic| first | assumption | rfl)
local macro_rules | `(tactic| walk_at "cond") => `(tactic| first | assumption | decide | omega | (unfold CMul; omega) | (refine ⟨?_, ?_⟩ <;> omega) | (unfold CDiv; omega) | (unfold CPow; omega))
local macro_rules | `(tactic| walk_at "g1") => `(tactic| first
  | with_reducible first
    | refine g_seq ?_ | refine g_asg ?_ | refine g_name ?_ | refine g_ret ?_ | refine g_retN ?_ | refine g_drop ?_ | refine g_ifs ?_
    | refine g_c ?_ | refine g_op ?_ | refine g_un ?_ | refine g_I0 ?_ | refine g_U ?_
    | refine g_test ?_ | refine g_tB ?_ | refine g_bl ?_ | refine g_and ?_ | refine g_or ?_ | refine g_not ?_
    | refine g_andV ?_ | refine g_orV ?_ | refine g_notV ?_ | refine g_if ?_ | refine g_nil ?_ | refine g_cons ?_ | refine g_cb ?_ | refine g_call ?_
    | refine g_lst ?_ | refine g_tup ?_ | refine g_itT ?_ | refine g_itF ?_ | refine g_itNT ?_ | refine g_itNF ?_ | refine g_lc ?_ | refine g_iStr ?_ | refine g_yes ?_ | refine g_exs ?_
    | refine g_chain ?_ | refine g_dget ?_ | refine g_dput ?_ | refine g_dget2 ?_ | refine g_dpop2 ?_ | refine g_fld ?_ | refine g_sfld ?_ | refine g_make ?_ | refine g_meth ?_
    | refine g_bm ?_ | refine g_kw ?_ | refine g_callS ?_ | refine g_revL ?_ | refine g_m1 ?_ | refine g_gsub ?_ | refine g_for ?_ | refine g_iList ?_ | refine g_iTup ?_ | refine g_iRng1 ?_ | refine g_iRng2 ?_ | refine g_sl ?_ | refine g_part ?_ | refine g_noPart ?_
    | refine g_exi ?_ | refine g_exr ?_ | refine g_dnew ?_ | refine g_disp ?_ | refine g_prs0 ?_ | refine g_prs ?_ | refine g_nxt ?_
  | ((with_reducible refine g_var (v := ?vv) ?gv ?_); (case gv => exact rfl))
  | ((with_reducible refine g_I ?gc ?_); (case gc => walk_at "cond"))
  | ((with_reducible refine g_eq ?ge ?_); (case ge => exact rfl))
  | ((with_reducible refine g_ne ?ge ?_); (case ge => exact rfl))
  | (refine g_ixl (SqL.of (by first | assumption | exact upd_same)) rfl ?_)
  | (refine g_setl (by first | assumption | exact upd_same) rfl ?_)
  | ((with_reducible show (∃ i, [V.int _] = [V.int i] ∧ _) ∨ _); refine Or.inl ⟨_, rfl, ?_⟩)
  | ((with_reducible show ∃ i, [V.int _] = [V.int i] ∧ _); refine ⟨_, rfl, ?_⟩)
  | dsimp only)
local macro_rules | `(tactic| walk_at "go") => `(tactic| repeat (walk_at "g1"))

local macro_rules | `(tactic| walk_at "ex") => `(tactic| first
  | assumption
  | exact Ex.refl _
  | (refine Ex.trans ?_ (by assumption); walk_at "ex")
  | (refine BagAt.ex' (by assumption) ?_; walk_at "ex")
  | (refine TapeAt.ex' (by assumption) ?_; walk_at "ex")
  | (refine Ex.at' (by assumption) ?_; walk_at "ex")
  | (refine SqL.of ?_; walk_at "ex")
  | (refine SqT.of ?_; walk_at "ex")
  | (refine Or.inl ?_; walk_at "ex")
  | (refine tape_dk (by assumption) (by assumption) ?_; walk_at "ex"))

/-! ### alphabets and things that are drawn -/
theorem kit_notT {K : PySem.W.Frag} {C : Addr} {T : String} (hm : PySem.W.kitMeta T = true) (hs : PySem.W.subIn K (.ref C) (.type T) = some false) : PySem.W.kitOne K (.ref C) (.type T) = some false := by
  unfold PySem.W.kitOne PySem.W.kitCls
  have e : ((Value.ref C) == (Value.type T)) = false := rfl
  rw [e, if_neg Bool.false_ne_true]
  dsimp only
  rw [hm, hs]
  rfl
def AlV (K : PySem.W.Frag) (h : Addr) (H : Hp) (v : V) : Prop := (∃ z : Str, v = .str z ∧ z.length ≤ 100) ∨ ∀ H', ExB h H H' → NoStrG K H' v
theorem AlV.exb {h : Addr} {H H' : Hp} {v : V} (e : ExB h H H') (a : AlV K h H v) : AlV K h H' v := a.imp id fun q H2 e2 => q H2 (e.trans e2)
def alA (p1 p2 p3 p4 : Addr) : List V := [.str "", .str "x", .str "yx", .str "xz", .str "xyzz", .str "abc", .str "XY", .non, .bl true, .int 2, .ref p1, .ref p2, .ref p3, .ref p4]
def sp_al (K : PySem.W.Frag) : Sp := fun vs H Q _ => ∃ (h c : Addr), vs = [.ref h] ∧ TapeAt H h c ∧ ∀ v H', ExB h H H' → TapeAt H' h c → AlV K h H' v → Q v H'
theorem ok_law_alphabet {C_BagError C_NoAlphabet C_NoLetters C_NoNumber C_BadBag : Addr} {f : Addr} {fd : FuncData} (F : Fun K "_law_alphabet" "_law_alphabet" s_law_alphabet f fd) (T : Txt K mg C_Bag Cs) (D_law_draw : DefOk P w K mg base CX0 1 "_law_draw" ["_law_tape_here", "_law_many"] sp_tp_draw) (D_mk_Bag : MkOk P w K mg base CX0 6 "Bag" C_Bag ["self", "clock", "words"] (sp_bag_init C_Bag Cs)) (X_BadBag : ErrF P w K mg base 1 "BadBag" C_BadBag "part") (K7 : K72 K C_Bag C_BagError C_NoAlphabet C_NoLetters C_NoNumber C_BadBag) (NS_str : ∀ C, Cs C → PySem.W.subIn K (.ref C) (.type "str") = some false) : FnOk P w K mg base CX0 8 f fd ["_law_tape_here"] (sp_al K) := by
  refine F.ok sc_law_alphabet (fun vs H Q E h => ?_) (fun cdv A outer s H vs Q E hr h => ?_)
  · obtain ⟨h, c, rfl, _⟩ := h
    rfl
  · obtain ⟨h, c, rfl, hh, k⟩ := h
    have hu := hu_of hr; have hu64 := L2.Room.units hr; refine ⟨_, (pss_cons (ps_if (pt_cmpR op_gt (pe_callD D_law_draw (hr.mono (by decide)) rfl pass0 (pa_cons (pv 0) (pa_cons pe_int pa_nil))) pe_int (nomark _)) (pss_one (ps_ret (pe_ix (r := rIxL K) ix_list (pe_lst (pa_cons pe_str (pa_cons pe_str pa_nil))) (pe_callD D_law_draw (hr.mono (by decide)) rfl pass0 (pa_cons (pv 0) (pa_cons pe_int pa_nil))) (fun _ _ => rfl)))) pss_nil) (pss_cons (ps_set (i := 1) sc_law_alphabet.nd rfl (by first | exact Or.inl rfl | exact Or.inr rfl) (pe_lst (pa_cons pe_str (pa_cons pe_str (pa_cons pe_str (pa_cons pe_str (pa_cons pe_str (pa_cons pe_str (pa_cons pe_str (pa_cons pe_non (pa_cons pe_bl (pa_cons pe_int (pa_cons (pe_lst (pa_cons pe_str (pa_cons pe_str pa_nil))) (pa_cons (pe_tup (pa_cons pe_str (pa_cons pe_str pa_nil))) (pa_cons (pe_disp (pps_cons pe_str pe_int (pps_cons pe_str pe_int pps_nil)) rfl rfl (List.cons_ne_nil _ _) (Nat.le_of_ble_eq_true rfl)) (pa_cons pe_dnewK pa_nil)))))))))))))))) (pss_one (ps_ret (pe_ix (r := rIxL K) ix_list (pe_op op_cat (pv 1) (pe_lst (pa_cons (pe_mkD D_mk_Bag (hr.mono (by decide)) rfl pass0 (pa_cons pe_int (pa_cons pe_dnewK pa_nil))) (pa_cons (pe_errV X_BadBag (hr.mono (by decide)) rfl pe_str) (pa_cons (pe_op op_pow pe_int pe_int) pa_nil))))) (pe_callD D_law_draw (hr.mono (by decide)) rfl pass0 (pa_cons (pv 0) (pa_cons pe_int pa_nil))) (fun _ _ => rfl)))))), ?_⟩; rw [st_law_alphabet]; (try dsimp only [cxOf]); walk_at "go"
    refine ⟨h, c, 3, rfl, hh, by decide, by decide, fun v H1 hv0 hv1 e1 hh1 => ?_⟩
    walk_at "go"
    by_cases h0 : 0 < v
    · rw [decide_eq_true h0]
      walk_at "go"
      refine ⟨Nat.le_of_ble_eq_true rfl, fun l hl => ?_⟩
      walk_at "go"
      have e2 := Ex.new (o := .lst [.str "xy", .str "xyz"]) hl
      refine ⟨h, c, 2, rfl, hh1.ex' e2, by decide, by decide, fun q H2 hq0 hq1 e3 hh2 => ?_⟩
      have hlh := (hh1.new hl).1
      have hl2 := e3 _ _ hlh (upd_same (H := H1) (a := l) (o := .lst [.str "xy", .str "xyz"]))
      have e13 := (e1.trans e2.exb).trans e3
      obtain ⟨i, hi, rfl⟩ : ∃ i : Nat, i < 2 ∧ q = i := ⟨q.toNat, by omega, by omega⟩
      match i, hi with
      | 0, _ => exact g_ixl (SqL.of hl2) rfl (k _ H2 e13 hh2 (.inl ⟨"xy", rfl, by decide +kernel⟩))
      | 1, _ => exact g_ixl (SqL.of hl2) rfl (k _ H2 e13 hh2 (.inl ⟨"xyz", rfl, by decide +kernel⟩))
    · rw [decide_eq_false h0]
      walk_at "go"
      refine ⟨Nat.le_of_ble_eq_true rfl, fun p1 hp1 => ?_⟩
      have a1 := upd_same (H := H1) (a := p1) (o := .lst [V.str "x", V.str "y"])
      have e2 : Ex H1 _ := Ex.new (o := .lst [V.str "x", V.str "y"]) hp1
      generalize upd H1 p1 (.lst [V.str "x", V.str "y"]) = H2 at a1 e2 ⊢
      walk_at "go"
      refine ⟨Nat.le_of_ble_eq_true rfl, fun p2 hp2 => ?_⟩
      have a2 := upd_same (H := H2) (a := p2) (o := .tup [V.str "x", V.str "y"])
      have e3 : Ex H2 _ := Ex.new (o := .tup [V.str "x", V.str "y"]) hp2
      generalize upd H2 p2 (.tup [V.str "x", V.str "y"]) = H3 at a2 e3 ⊢
      walk_at "go"
      intro p3 hp3
      refine pairs_ok (s := [("x", 1), ("y", 1)]) ⟨pure_c, pure_c, pure_c, pure_c, trivial⟩ ⟨upd_same, toK [("x", 1), ("y", 1)], rfl, Nat.le_of_ble_eq_true rfl, ?_⟩
      have e4 : Ex H3 (upd (upd H3 p3 (.dK [])) p3 (.dK (mergeK [] (toK [("x", 1), ("y", 1)])))) := Ex.mut (Ex.new hp3) hp3
      have a3 := upd_same (H := upd H3 p3 (.dK [])) (a := p3) (o := .dK (mergeK [] (toK [("x", 1), ("y", 1)])))
      generalize upd (upd H3 p3 (.dK [])) p3 (.dK (mergeK [] (toK [("x", 1), ("y", 1)]))) = H4 at a3 e4 ⊢
      walk_at "go"
      intro p4 hp4
      have e5 : Ex H4 _ := Ex.new (o := .dK []) hp4
      have a4 := upd_same (H := H4) (a := p4) (o := .dK [])
      generalize upd H4 p4 (.dK []) = H5 at a4 e5 ⊢
      walk_at "go"
      refine ⟨Nat.le_of_ble_eq_true rfl, fun l5 hl5 => ?_⟩
      have e6 : Ex H5 _ := Ex.new (o := .lst (alA p1 p2 p3 p4)) hl5
      have a5 := upd_same (H := H5) (a := l5) (o := .lst (alA p1 p2 p3 p4))
      walk_at "go"
      intro d6 hd6
      have e7 : Ex (upd H5 l5 (.lst (alA p1 p2 p3 p4))) _ := Ex.new (o := .dK (toK [])) hd6
      have a6 := upd_same (H := upd H5 l5 (.lst (alA p1 p2 p3 p4))) (a := d6) (o := .dK (toK []))
      have a5' := e7 _ _ a5
      have e57 := e6.trans e7
      show tNil _ (upd (upd H5 l5 (.lst (alA p1 p2 p3 p4))) d6 (.dK (toK []))) _
      clear e6 e7 a5 hd6 hl5
      generalize upd (upd H5 l5 (.lst (alA p1 p2 p3 p4))) d6 (.dK (toK [])) = H6 at e57 a6 a5' ⊢
      walk_at "go"
      refine g_mkBag (.inl rfl) a6 Lot.nil fun x7 H7 e8 hx7 b7 => ?_
      walk_at "go"
      refine g_errV ?_
      walk_at "go"
      intro x8 d8 hx8 hd8 hne
      have e9 : Ex H7 (upd (upd (upd H7 x8 (exo x8 C_BadBag none)) d8 (exd d8 [("part", .str "clock")])) x8 (exo x8 C_BadBag (some d8))) := fun a' o' q => by
        rw [upd_ne (ne_of_none q hx8), upd_ne (ne_of_none q hd8), upd_ne (ne_of_none q hx8)]
        exact q
      have a8 := upd_same (H := upd (upd H7 x8 (exo x8 C_BadBag none)) d8 (exd d8 [("part", .str "clock")])) (a := x8) (o := exo x8 C_BadBag (some d8))
      have a9 : upd (upd (upd H7 x8 (exo x8 C_BadBag none)) d8 (exd d8 [("part", .str "clock")])) x8 (exo x8 C_BadBag (some d8)) d8 = some (exd d8 [("part", .str "clock")]) := by
        rw [upd_ne hne]
        exact upd_same
      generalize upd (upd (upd H7 x8 (exo x8 C_BadBag none)) d8 (exd d8 [("part", .str "clock")])) x8 (exo x8 C_BadBag (some d8)) = H8 at e9 a8 a9 ⊢
      walk_at "go"
      refine ⟨Nat.le_of_ble_eq_true rfl, fun l9 hl9 => ?_⟩
      have e10 : Ex H8 _ := Ex.new (o := .lst [.ref x7, .ref x8, .int (10 ^ Int.toNat 30)]) hl9
      have a10 := upd_same (H := H8) (a := l9) (o := .lst [.ref x7, .ref x8, .int (10 ^ Int.toNat 30)])
      generalize upd H8 l9 (.lst [.ref x7, .ref x8, .int (10 ^ Int.toNat 30)]) = H9 at e10 a10 ⊢
      refine ⟨l5, l9, _, _, rfl, rfl, e10 _ _ (e9 _ _ (e8 _ _ a5')), a10, Nat.le_of_ble_eq_true rfl, fun l10 hl10 => ?_⟩
      have e11 : Ex H9 _ := Ex.new (o := .lst (alA p1 p2 p3 p4 ++ [.ref x7, .ref x8, .int (10 ^ Int.toNat 30)])) hl10
      have a11 := upd_same (H := H9) (a := l10) (o := .lst (alA p1 p2 p3 p4 ++ [.ref x7, .ref x8, .int (10 ^ Int.toNat 30)]))
      generalize upd H9 l10 (.lst (alA p1 p2 p3 p4 ++ [.ref x7, .ref x8, .int (10 ^ Int.toNat 30)])) = H10 at e11 a11 ⊢
      have e15 : Ex H1 H5 := ((e2.trans e3).trans e4).trans e5
      have e810 : Ex H8 H10 := e10.trans e11
      have e710 : Ex H7 H10 := e9.trans e810
      have e510 : Ex H5 H10 := (e57.trans e8).trans e710
      have e110 : Ex H1 H10 := e15.trans e510
      have hh10 := hh1.ex' e110
      have nh : ∀ {a : Addr}, H1 a = none → a ≠ h := fun {a} q => (hh1.new q).1
      walk_at "go"
      refine ⟨h, c, 17, rfl, hh10, by decide, by decide, fun q H11 hq0 hq1 e12 hh11 => ?_⟩
      have e1x : ∀ {a : Addr}, H9 a = none → a ≠ h := fun {a} q => nh (e15.free ((e57.trans e8).free (e9.free (e10.free q))))
      have hl11 := e12 _ _ (e1x hl10) a11
      obtain ⟨v', hv'⟩ : ∃ v', (alA p1 p2 p3 p4 ++ [.ref x7, .ref x8, .int (10 ^ Int.toNat 30)])[q.toNat]? = some v' := ⟨_, List.getElem?_eq_getElem (by show q.toNat < 17; omega)⟩
      refine g_ixl (SqL.of hl11) (atI_get hq0 hv') (k v' H11 ((e1.trans e110.exb).trans e12) hh11 (AlV.exb e12 ?_))
      have hm := List.mem_of_getElem? hv'
      clear hv' hl11
      have n1 := nh hp1
      have n2 := nh (e2.free hp2)
      have n3 := nh (e2.free (e3.free hp3))
      have n4 := nh (e2.free (e3.free (e4.free hp4)))
      have n7 := nh (e15.free (e57.free hx7))
      have n8 := nh (e15.free ((e57.trans e8).free hx8))
      have n9 := nh (e15.free ((e57.trans e8).free hd8))
      obtain ⟨C7, dx7, db7, k7, t7, hc7, g7, _⟩ := b7.ex
      simp only [alA, List.cons_append, List.nil_append, List.mem_cons, List.not_mem_nil, or_false] at hm
      rcases hm with rfl | rfl | rfl | rfl | rfl | rfl | rfl | rfl | rfl | rfl | rfl | rfl | rfl | rfl | rfl | rfl | rfl
      · exact .inl ⟨_, rfl, by decide +kernel⟩
      · exact .inl ⟨_, rfl, by decide +kernel⟩
      · exact .inl ⟨_, rfl, by decide +kernel⟩
      · exact .inl ⟨_, rfl, by decide +kernel⟩
      · exact .inl ⟨_, rfl, by decide +kernel⟩
      · exact .inl ⟨_, rfl, by decide +kernel⟩
      · exact .inl ⟨_, rfl, by decide +kernel⟩
      · exact .inr fun H' _ => ⟨_, .inl (.base .non), kit_ty (by decide +kernel)⟩
      · exact .inr fun H' _ => ⟨_, .inl (.base (.bl true)), kit_ty (by decide +kernel)⟩
      · exact .inr fun H' _ => ⟨_, .inl (.base (.int 2)), kit_ty (by decide +kernel)⟩
      · exact .inr fun H' e => ⟨_, .inl (.base (.lst (e _ _ n1 (e510 _ _ (e5 _ _ (e4 _ _ (e3 _ _ a1))))))), kit_ty (by decide +kernel)⟩
      · exact .inr fun H' e => ⟨_, .inl (.base (.tup (e _ _ n2 (e510 _ _ (e5 _ _ (e4 _ _ a2)))))), kit_ty (by decide +kernel)⟩
      · exact .inr fun H' e => ⟨_, .inl (.base (.dK (e _ _ n3 (e510 _ _ (e5 _ _ a3))))), kit_ty (by decide +kernel)⟩
      · exact .inr fun H' e => ⟨_, .inl (.base (.dK (e _ _ n4 (e510 _ _ a4)))), kit_ty (by decide +kernel)⟩
      · exact .inr fun H' e => ⟨_, .inl (bag_ty T hc7 (e _ _ n7 (e710 _ _ g7))), kit_notT (by decide +kernel) (NS_str C7 hc7)⟩
      · exact .inr fun H' e => ⟨_, .inr ⟨x8, C_BadBag, d8, _, rfl, e _ _ n8 (e810 _ _ a8), e _ _ n9 (e810 _ _ a9), K7.xB, rfl⟩, K7.s⟩
      · exact .inr fun H' _ => ⟨_, .inl (.base (.int _)), kit_ty (by decide +kernel)⟩

end
end Fp

namespace Fp
open PySem L2
section
variable {P : Program} {w : World} {K : PySem.W.Frag} {mg : Str → Option Value} {base : Heap} {C_Bag : Addr} {Cs : Addr → Prop}
local macro_rules | `(tactic| walk_at "hp") => `(tactic| first | assumption | rfl)
local macro_rules | `(tactic| walk_at "cond") => `(tactic| first | assumption | decide | omega | (unfold CMul; omega) | (refine ⟨?_, ?_⟩ <;> omega) | (unfold CDiv; omega) | (unfold CPow; omega))
local macro_rules | `(tactic| walk_at "g1") => `(tactic| first
  | with_reducible first
    | refine g_seq ?_ | refine g_asg ?_ | refine g_name ?_ | refine g_ret ?_ | refine g_retN ?_ | refine g_drop ?_ | refine g_ifs ?_
    | refine g_c ?_ | refine g_op ?_ | refine g_un ?_ | refine g_I0 ?_ | refine g_U ?_
    | refine g_test ?_ | refine g_tB ?_ | refine g_bl ?_ | refine g_and ?_ | refine g_or ?_ | refine g_not ?_
    | refine g_andV ?_ | refine g_orV ?_ | refine g_notV ?_ | refine g_if ?_ | refine g_nil ?_ | refine g_cons ?_ | refine g_cb ?_ | refine g_call ?_
    | refine g_lst ?_ | refine g_tup ?_ | refine g_itT ?_ | refine g_itF ?_ | refine g_itNT ?_ | refine g_itNF ?_ | refine g_lc ?_ | refine g_iStr ?_ | refine g_yes ?_ | refine g_exs ?_
    | refine g_chain ?_ | refine g_dget ?_ | refine g_dput ?_ | refine g_dget2 ?_ | refine g_dpop2 ?_ | refine g_fld ?_ | refine g_sfld ?_ | refine g_make ?_ | refine g_meth ?_
    | refine g_bm ?_ | refine g_kw ?_ | refine g_callS ?_ | refine g_revL ?_ | refine g_m1 ?_ | refine g_gsub ?_ | refine g_for ?_ | refine g_iList ?_ | refine g_iTup ?_ | refine g_iRng1 ?_ | refine g_iRng2 ?_ | refine g_sl ?_ | refine g_part ?_ | refine g_noPart ?_
    | refine g_exi ?_ | refine g_exr ?_ | refine g_dnew ?_ | refine g_disp ?_ | refine g_prs0 ?_ | refine g_prs ?_ | refine g_nxt ?_
  | ((with_reducible refine g_var (v := ?vv) ?gv ?_); (case gv => exact rfl))
  | ((with_reducible refine g_I ?gc ?_); (case gc => walk_at "cond"))
  | ((with_reducible refine g_eq ?ge ?_); (case ge => exact rfl))
  | ((with_reducible refine g_ne ?ge ?_); (case ge => exact rfl))
  | (refine g_ixl (SqL.of (by first | assumption | exact upd_same)) rfl ?_)
  | (refine g_setl (by first | assumption | exact upd_same) rfl ?_)
  | ((with_reducible show (∃ i, [V.int _] = [V.int i] ∧ _) ∨ _); refine Or.inl ⟨_, rfl, ?_⟩)
  | ((with_reducible show ∃ i, [V.int _] = [V.int i] ∧ _); refine ⟨_, rfl, ?_⟩)
  | dsimp only)
local macro_rules | `(tactic| walk_at "go") => `(tactic| repeat (walk_at "g1"))

local macro_rules | `(tactic| walk_at "ex") => `(tactic| first
  | assumption
  | exact Ex.refl _
  | (refine Ex.trans ?_ (by assumption); walk_at "ex")
  | (refine BagAt.ex' (by assumption) ?_; walk_at "ex")
  | (refine TapeAt.ex' (by assumption) ?_; walk_at "ex")
  | (refine Ex.at' (by assumption) ?_; walk_at "ex")
  | (refine SqL.of ?_; walk_at "ex")
  | (refine SqT.of ?_; walk_at "ex")
  | (refine Or.inl ?_; walk_at "ex")
  | (refine tape_dk (by assumption) (by assumption) ?_; walk_at "ex"))

/-! ### things that are no bags -/
def NoBagG (K : PySem.W.Frag) (C_Bag : Addr) (H : Hp) (x : V) : Prop := ∃ t, TyG K H x t ∧ PySem.W.kitOne K t (.ref C_Bag) = some false
def thA (p p1 p2 p3 p4 x8 q3 : Addr) : List V := [.non, .bl true, .int 1, .str "", .str "xy", .ref p1, .ref p2, .ref p3, .ref p4, .ref p, .ref x8, .ref q3]
def sp_thing (K : PySem.W.Frag) (C_Bag : Addr) : Sp := fun vs H Q _ => ∃ (h c : Addr), vs = [.ref h] ∧ TapeAt H h c ∧ ∀ v H', ExB h H H' → TapeAt H' h c → (∀ H2, ExB h H' H2 → NoBagG K C_Bag H2 v) → Q v H'
theorem ok_law_thing {C_BagError C_NoAlphabet C_NoLetters C_NoNumber C_BadBag : Addr} {f : Addr} {fd : FuncData} (F : Fun K "_law_thing" "_law_thing" s_law_thing f fd) (T : Txt K mg C_Bag Cs) (D_law_draw : DefOk P w K mg base CX0 1 "_law_draw" ["_law_tape_here", "_law_many"] sp_tp_draw) (X_BadBag : ErrF P w K mg base 1 "BadBag" C_BadBag "part") (K7 : K72 K C_Bag C_BagError C_NoAlphabet C_NoLetters C_NoNumber C_BadBag) : FnOk P w K mg base CX0 3 f fd ["_law_tape_here"] (sp_thing K C_Bag) := by
  refine F.ok sc_law_thing (fun vs H Q E h => ?_) (fun cdv A outer s H vs Q E hr h => ?_)
  · obtain ⟨h, c, rfl, _⟩ := h
    rfl
  · obtain ⟨h, c, rfl, hh, k⟩ := h
    have hu := hu_of hr; have hu64 := L2.Room.units hr; refine ⟨_, (pss_cons (ps_set (i := 1) sc_law_thing.nd rfl (by first | exact Or.inl rfl | exact Or.inr rfl) (pe_tup pa_nil)) (pss_cons (ps_for PassesOwn.never rfl (pi_range1 rfl T.b_range (pa_cons pe_int pa_nil)) (pg_name (i := 2) sc_law_thing.nd rfl (by first | exact Or.inl rfl | exact Or.inr rfl)) (pss_one (ps_set (i := 1) sc_law_thing.nd rfl (by first | exact Or.inl rfl | exact Or.inr rfl) (pe_tup (pa_cons (pv 1) pa_nil))))) (pss_cons (ps_set (i := 3) sc_law_thing.nd rfl (by first | exact Or.inl rfl | exact Or.inr rfl) (pe_lst (pa_cons pe_non (pa_cons pe_bl (pa_cons pe_int (pa_cons pe_str (pa_cons pe_str (pa_cons pe_dnewK (pa_cons (pe_disp (pps_cons pe_str pe_int pps_nil) rfl rfl (List.cons_ne_nil _ _) (Nat.le_of_ble_eq_true rfl)) (pa_cons (pe_lst pa_nil) (pa_cons (pe_tup (pa_cons pe_str pa_nil)) (pa_cons (pv 1) (pa_cons (pe_errV X_BadBag (hr.mono (by decide)) rfl pe_str) (pa_cons (pe_tup (pa_cons (pe_tup (pa_cons (pe_tup (pa_cons pe_str (pa_cons pe_int pa_nil))) pa_nil)) pa_nil)) pa_nil)))))))))))))) (pss_one (ps_ret (pe_ix (r := rIxL K) ix_list (pv 3) (pe_callD D_law_draw (hr.mono (by decide)) rfl pass0 (pa_cons (pv 0) (pa_cons (pe_callB call_len_seq (by rfl) T.b_len (by decide +kernel) (pa_cons (pv 3) pa_nil)) pa_nil))) (fun _ _ => rfl))))))), ?_⟩; rw [st_law_thing]; (try dsimp only [cxOf]); walk_at "go"
    refine ⟨Nat.le_of_ble_eq_true rfl, fun p0 hp0 => ?_⟩
    have e1 : Ex H _ := Ex.new (o := .tup []) hp0
    have a0 := upd_same (H := H) (a := p0) (o := .tup [])
    generalize upd H p0 (.tup []) = H1 at a0 e1 ⊢
    have n0 := (hh.new hp0).1
    walk_at "go"
    refine ⟨by decide, by decide, ?_⟩
    refine forG walk_range (fun i σ' H' => ∃ p xs y, σ' = [some (.ref h), some (.ref p), y, none] ∧ Ex H H' ∧ H' p = some (.tup xs) ∧ p ≠ h) ⟨p0, [], none, rfl, e1, a0, n0⟩ (fun _ _ _ _ _ => trivial) ?_ ?_
    · rintro i x σ' H2 H3 hi ⟨p, xs, y, rfl, e2, hp, hne⟩ ⟨rfl, rfl⟩
      walk_at "go"
      refine ⟨Nat.le_of_ble_eq_true rfl, fun q hq => ?_⟩
      exact ⟨q, _, _, rfl, e2.trans (Ex.new hq), upd_same, (hh.new (e2.free hq)).1⟩
    · rintro σ' H2 ⟨p, xs, y, rfl, e2, hp, hne⟩
      walk_at "go"
      intro p1 hp1
      have a1 := upd_same (H := H2) (a := p1) (o := .dK [])
      have e3 : Ex H2 _ := Ex.new (o := .dK []) hp1
      generalize upd H2 p1 (.dK []) = H3 at a1 e3 ⊢
      walk_at "go"
      intro p2 hp2
      refine pairs_ok (s := [("x", 1)]) ⟨pure_c, pure_c, trivial⟩ ⟨upd_same, toK [("x", 1)], rfl, Nat.le_of_ble_eq_true rfl, ?_⟩
      have e4 : Ex H3 (upd (upd H3 p2 (.dK [])) p2 (.dK (mergeK [] (toK [("x", 1)])))) := Ex.mut (Ex.new hp2) hp2
      have a2 := upd_same (H := upd H3 p2 (.dK [])) (a := p2) (o := .dK (mergeK [] (toK [("x", 1)])))
      generalize upd (upd H3 p2 (.dK [])) p2 (.dK (mergeK [] (toK [("x", 1)]))) = H4 at a2 e4 ⊢
      walk_at "go"
      refine ⟨Nat.le_of_ble_eq_true rfl, fun p3 hp3 => ?_⟩
      have a3 := upd_same (H := H4) (a := p3) (o := .lst [])
      have e5 : Ex H4 _ := Ex.new (o := .lst []) hp3
      generalize upd H4 p3 (.lst []) = H5 at a3 e5 ⊢
      walk_at "go"
      refine ⟨Nat.le_of_ble_eq_true rfl, fun p4 hp4 => ?_⟩
      have a4 := upd_same (H := H5) (a := p4) (o := .tup [.str "x"])
      have e6 : Ex H5 _ := Ex.new (o := .tup [.str "x"]) hp4
      generalize upd H5 p4 (.tup [.str "x"]) = H6 at a4 e6 ⊢
      walk_at "go"
      refine g_errV ?_
      walk_at "go"
      intro x8 d8 hx8 hd8 hdx
      have e9 : Ex H6 (upd (upd (upd H6 x8 (exo x8 C_BadBag none)) d8 (exd d8 [("part", .str "words")])) x8 (exo x8 C_BadBag (some d8))) := fun a' o' q => by
        rw [upd_ne (ne_of_none q hx8), upd_ne (ne_of_none q hd8), upd_ne (ne_of_none q hx8)]
        exact q
      have a8 := upd_same (H := upd (upd H6 x8 (exo x8 C_BadBag none)) d8 (exd d8 [("part", .str "words")])) (a := x8) (o := exo x8 C_BadBag (some d8))
      have a9 : upd (upd (upd H6 x8 (exo x8 C_BadBag none)) d8 (exd d8 [("part", .str "words")])) x8 (exo x8 C_BadBag (some d8)) d8 = some (exd d8 [("part", .str "words")]) := by
        rw [upd_ne hdx]
        exact upd_same
      generalize upd (upd (upd H6 x8 (exo x8 C_BadBag none)) d8 (exd d8 [("part", .str "words")])) x8 (exo x8 C_BadBag (some d8)) = H8 at e9 a8 a9 ⊢
      walk_at "go"
      refine ⟨Nat.le_of_ble_eq_true rfl, fun q1 hq1 => ?_⟩
      have e10 : Ex H8 _ := Ex.new (o := .tup [.str "x", .int 1]) hq1
      generalize upd H8 q1 (.tup [.str "x", .int 1]) = H9 at e10 ⊢
      walk_at "go"
      refine ⟨Nat.le_of_ble_eq_true rfl, fun q2 hq2 => ?_⟩
      have e11 : Ex H9 _ := Ex.new (o := .tup [.ref q1]) hq2
      generalize upd H9 q2 (.tup [.ref q1]) = H10 at e11 ⊢
      walk_at "go"
      refine ⟨Nat.le_of_ble_eq_true rfl, fun q3 hq3 => ?_⟩
      have a10 := upd_same (H := H10) (a := q3) (o := .tup [.ref q2])
      have e12 : Ex H10 _ := Ex.new (o := .tup [.ref q2]) hq3
      generalize upd H10 q3 (.tup [.ref q2]) = H11 at a10 e12 ⊢
      walk_at "go"
      refine ⟨Nat.le_of_ble_eq_true rfl, fun l5 hl5 => ?_⟩
      have a11 := upd_same (H := H11) (a := l5) (o := .lst (thA p p1 p2 p3 p4 x8 q3))
      have e13 : Ex H11 _ := Ex.new (o := .lst (thA p p1 p2 p3 p4 x8 q3)) hl5
      change gName 3 (V.ref l5) _ (upd H11 l5 (.lst (thA p p1 p2 p3 p4 x8 q3))) _
      generalize upd H11 l5 (.lst (thA p p1 p2 p3 p4 x8 q3)) = H12 at a11 e13 ⊢
      have e1112 := e12.trans e13
      have e812 := (e10.trans e11).trans e1112
      have e612 := e9.trans e812
      have e26 := ((e3.trans e4).trans e5).trans e6
      have e212 := e26.trans e612
      have eH12 := e2.trans e212
      have hh12 := hh.ex' eH12
      have nh : ∀ {a : Addr}, H a = none → a ≠ h := fun {a} q => (hh.new q).1
      walk_at "go"
      refine ⟨l5, _, rfl, .inl (SqL.of a11), ?_⟩
      walk_at "go"
      refine ⟨h, c, ((thA p p1 p2 p3 p4 x8 q3).length : Nat), rfl, hh12, by show (0 : Int) < 12; decide, by show (12 : Int) ≤ 1000000; decide, fun q H13 hq0 hq1 e14 hh13 => ?_⟩
      have nl : l5 ≠ h := nh (e2.free (e26.free (e9.free (e10.free (e11.free (e12.free hl5))))))
      obtain ⟨v', hv'⟩ : ∃ v', (thA p p1 p2 p3 p4 x8 q3)[q.toNat]? = some v' := ⟨_, List.getElem?_eq_getElem (by show q.toNat < 12; have : q < 12 := hq1; omega)⟩
      refine g_ixl (SqL.of (e14 _ _ nl a11)) (atI_get hq0 hv') (k v' H13 (eH12.exb.trans e14) hh13 fun HZ eZ => ?_)
      have e := e14.trans eZ
      have hm := List.mem_of_getElem? hv'
      clear hv' eZ
      have n1 := nh (e2.free hp1)
      have n2 := nh (e2.free (e3.free hp2))
      have n3 := nh (e2.free (e3.free (e4.free hp3)))
      have n4 := nh (e2.free (e3.free (e4.free (e5.free hp4))))
      have n8 := nh (e2.free (e26.free hx8))
      have n9 := nh (e2.free (e26.free hd8))
      have n10 := nh (e2.free (e26.free (e9.free (e10.free (e11.free hq3)))))
      simp only [thA, List.mem_cons, List.not_mem_nil, or_false] at hm
      rcases hm with rfl | rfl | rfl | rfl | rfl | rfl | rfl | rfl | rfl | rfl | rfl | rfl
      · exact ⟨_, .inl (.base .non), T.c_nb _ (by decide +kernel)⟩
      · exact ⟨_, .inl (.base (.bl true)), T.c_nb _ (by decide +kernel)⟩
      · exact ⟨_, .inl (.base (.int 1)), T.c_nb _ (by decide +kernel)⟩
      · exact ⟨_, .inl (.base (.str _)), T.c_nb _ (by decide +kernel)⟩
      · exact ⟨_, .inl (.base (.str _)), T.c_nb _ (by decide +kernel)⟩
      · exact ⟨_, .inl (.base (.dK (e _ _ n1 (e612 _ _ (e6 _ _ (e5 _ _ (e4 _ _ a1))))))), T.c_nb _ (by decide +kernel)⟩
      · exact ⟨_, .inl (.base (.dK (e _ _ n2 (e612 _ _ (e6 _ _ (e5 _ _ a2)))))), T.c_nb _ (by decide +kernel)⟩
      · exact ⟨_, .inl (.base (.lst (e _ _ n3 (e612 _ _ (e6 _ _ a3))))), T.c_nb _ (by decide +kernel)⟩
      · exact ⟨_, .inl (.base (.tup (e _ _ n4 (e612 _ _ a4)))), T.c_nb _ (by decide +kernel)⟩
      · exact ⟨_, .inl (.base (.tup (e _ _ hne (e212 _ _ hp)))), T.c_nb _ (by decide +kernel)⟩
      · exact ⟨_, .inr ⟨x8, C_BadBag, d8, _, rfl, e _ _ n8 (e812 _ _ a8), e _ _ n9 (e812 _ _ a9), K7.xB, rfl⟩, K7.b⟩
      · exact ⟨_, .inl (.base (.tup (e _ _ n10 (e13 _ _ a10)))), T.c_nb _ (by decide +kernel)⟩

end
end Fp

namespace Fp
open PySem L2
section
variable {P : Program} {w : World} {K : PySem.W.Frag} {mg : Str → Option Value} {base : Heap} {C_Bag : Addr} {Cs : Addr → Prop}
local macro_rules | `(tactic| walk_at "hp") => `(tactic| first | assumption | rfl)
local macro_rules | `(tactic| walk_at "cond") => `(tactic| first | assumption | decide | omega | (unfold CMul; omega) | (refine ⟨?_, ?_⟩ <;> omega) | (unfold CDiv; omega) | (unfold CPow; omega))
local macro_rules | `(tactic| walk_at "g1") => `(tactic| first
  | with_reducible first
    | refine g_seq ?_ | refine g_asg ?_ | refine g_name ?_ | refine g_ret ?_ | refine g_retN ?_ | refine g_drop ?_ | refine g_ifs ?_
    | refine g_c ?_ | refine g_op ?_ | refine g_un ?_ | refine g_I0 ?_ | refine g_U ?_
    | refine g_test ?_ | refine g_tB ?_ | refine g_bl ?_ | refine g_and ?_ | refine g_or ?_ | refine g_not ?_
    | refine g_andV ?_ | refine g_orV ?_ | refine g_notV ?_ | refine g_if ?_ | refine g_nil ?_ | refine g_cons ?_ | refine g_cb ?_ | refine g_call ?_
    | refine g_lst ?_ | refine g_tup ?_ | refine g_itT ?_ | refine g_itF ?_ | refine g_itNT ?_ | refine g_itNF ?_ | refine g_lc ?_ | refine g_iStr ?_ | refine g_yes ?_ | refine g_exs ?_
    | refine g_chain ?_ | refine g_dget ?_ | refine g_dput ?_ | refine g_dget2 ?_ | refine g_dpop2 ?_ | refine g_fld ?_ | refine g_sfld ?_ | refine g_make ?_ | refine g_meth ?_
    | refine g_bm ?_ | refine g_kw ?_ | refine g_callS ?_ | refine g_revL ?_ | refine g_m1 ?_ | refine g_gsub ?_ | refine g_for ?_ | refine g_iList ?_ | refine g_iTup ?_ | refine g_iRng1 ?_ | refine g_iRng2 ?_ | refine g_sl ?_ | refine g_part ?_ | refine g_noPart ?_
    | refine g_exi ?_ | refine g_exr ?_ | refine g_dnew ?_ | refine g_disp ?_ | refine g_prs0 ?_ | refine g_prs ?_ | refine g_nxt ?_
  | ((with_reducible refine g_var (v := ?vv) ?gv ?_); (case gv => exact rfl))
  | ((with_reducible refine g_I ?gc ?_); (case gc => walk_at "cond"))
  | ((with_reducible refine g_eq ?ge ?_); (case ge => exact rfl))
  | ((with_reducible refine g_ne ?ge ?_); (case ge => exact rfl))
  | (refine g_ixl (SqL.of (by first | assumption | exact upd_same)) rfl ?_)
  | (refine g_setl (by first | assumption | exact upd_same) rfl ?_)
  | ((with_reducible show (∃ i, [V.int _] = [V.int i] ∧ _) ∨ _); refine Or.inl ⟨_, rfl, ?_⟩)
  | ((with_reducible show ∃ i, [V.int _] = [V.int i] ∧ _); refine ⟨_, rfl, ?_⟩)
  | dsimp only)
local macro_rules | `(tactic| walk_at "go") => `(tactic| repeat (walk_at "g1"))

local macro_rules | `(tactic| walk_at "ex") => `(tactic| first
  | assumption
  | exact Ex.refl _
  | (refine Ex.trans ?_ (by assumption); walk_at "ex")
  | (refine BagAt.ex' (by assumption) ?_; walk_at "ex")
  | (refine TapeAt.ex' (by assumption) ?_; walk_at "ex")
  | (refine Ex.at' (by assumption) ?_; walk_at "ex")
  | (refine SqL.of ?_; walk_at "ex")
  | (refine SqT.of ?_; walk_at "ex")
  | (refine Or.inl ?_; walk_at "ex")
  | (refine tape_dk (by assumption) (by assumption) ?_; walk_at "ex"))

/-! ### letters of a bag -/
theorem paired_at {α β : Type} {F : α → β → Prop} {a : List α} {b : List β} (h : Paired F a b) {i : Nat} {y : β} (hy : b[i]? = some y) : ∃ x, a[i]? = some x ∧ F x y := by
  induction h generalizing i with
  | nil => cases hy
  | cons h1 _ ih =>
    cases i with
    | zero => cases Option.some.inj hy; exact ⟨_, rfl, h1⟩
    | succ i => exact ih hy
theorem join_chars (ch : Nat) : ∀ ys : List Str, ch ∈ (Str.join ("" : Str) ys).cps.toList ↔ ∃ u ∈ ys, ch ∈ u.cps.toList
  | [] => ⟨fun h => (nomatch h), fun ⟨_, h, _⟩ => (nomatch h)⟩
  | [x] => ⟨fun h => ⟨x, List.mem_cons_self, h⟩, fun ⟨u, hu, h⟩ => by rw [List.mem_singleton.mp hu] at h; exact h⟩
  | x :: y :: r => by
    have ih := join_chars ch (y :: r)
    show ch ∈ (x ++ ("" : Str) ++ Str.join ("" : Str) (y :: r)).cps.toList ↔ _
    rw [app_toList, app_toList, List.mem_append, List.mem_append, ih]
    constructor
    · rintro ((h | h) | ⟨u, hu, h⟩)
      · exact ⟨x, List.mem_cons_self, h⟩
      · cases h
      · exact ⟨u, List.mem_cons_of_mem _ hu, h⟩
    · rintro ⟨u, hu, h⟩
      rcases List.mem_cons.mp hu with rfl | hu
      · exact .inl (.inl h)
      · exact .inr ⟨u, hu, h⟩
theorem join_len : ∀ ys : List Str, (Str.join ("" : Str) ys).length = (ys.map (·.length)).sum
  | [] => rfl
  | [x] => by simp [Str.join]
  | x :: y :: r => by
    have ih := join_len (y :: r)
    show (x ++ ("" : Str) ++ Str.join ("" : Str) (y :: r)).length = _
    have e0 : ("" : Str).length = 0 := rfl
    rw [len_app, len_app, ih, e0, List.map_cons (a := x), List.sum_cons, Nat.add_zero]
theorem sum_le_mul {n : Nat} : ∀ {l : List Nat}, (∀ x ∈ l, x ≤ n) → l.sum ≤ l.length * n
  | [], _ => Nat.zero_le _
  | x :: r, h => by
    have ih := sum_le_mul fun y hy => h y (List.mem_cons_of_mem _ hy)
    have := h x List.mem_cons_self
    rw [List.sum_cons, List.length_cons, Nat.add_mul, Nat.one_mul]
    omega
def sp_letters (Cs : Addr → Prop) : Sp := fun vs H Q _ => ∃ (a : Addr) (p : Int) (s : Bg), vs = [.ref a] ∧ BagAt Cs H a p s ∧ s.length ≤ 6 ∧ (∀ u ∈ keys s, u.length ≤ 10) ∧
  ∀ l (ss : List Str) H', Ex H H' → H' l = some (.lst (ss.map V.str)) → ss.length ≤ 63 → (∀ y, y ∈ ss ↔ ∃ u ∈ keys s, ∃ ch ∈ u.cps.toList, y = ⟨#[ch]⟩) → Q (.ref l) H'
theorem ok_law_letters_of {f : Addr} {fd : FuncData} (F : Fun K "_law_letters_of" "_law_letters_of" s_law_letters_of f fd) (T : Txt K mg C_Bag Cs) : FnOk P w K mg base CX0 2 f fd ["_law_bag"] (sp_letters Cs) := by
  refine F.ok sc_law_letters_of (fun vs H Q E h => ?_) (fun cdv A outer s H vs Q E hr h => ?_)
  · obtain ⟨a, p, s, rfl, _⟩ := h
    rfl
  · obtain ⟨a, p, s, rfl, ha, hn, hl, k⟩ := h
    obtain ⟨C, dx, d, k1, t1, hc, h1, h2, h3⟩ := ha.ex
    obtain ⟨qs, o9, w1, w2, w3⟩ := id h3
    have hu := hu_of hr; have hu64 := L2.Room.units hr; refine ⟨_, (pss_one (ps_ret (pe_callB (r := rSortT w) (cr_sortT rfl) (by rfl) T.b_sorted (by decide +kernel) (pa_cons (pe_callTy (r := rSetS w) (cr_setS rfl) (by rfl) T.b_set (by decide +kernel) (pa_cons (pe_join pe_str (pe_lc (own := [("_law_pair", 1)]) (g := (gName 1)) (tt := tYes) rfl sc_law_letters_of.nd (pi_tup (pe_fldK (K := K) rfl (pv 0) rfl)) (blkOk_by (N := N_law_letters_of) (sc := defScope s_law_letters_of) (by decide +kernel)) (fun _ _ _ _ _ => (pg_name (i := 1) sc_law_letters_of.nd rfl (by first | exact Or.inl rfl | exact Or.inr rfl))) (fun _ _ _ _ _ => pts_nil) (fun _ _ _ _ _ => (pe_ix (r := rIxT K) ix_tup (pv 1) pe_int (fun _ _ => rfl))))) pa_nil)) pa_nil)))), ?_⟩; rw [st_law_letters_of]; (try dsimp only [cxOf]); walk_at "go"
    refine ⟨⟨_, rfl⟩, ?_⟩
    walk_at "go"
    refine ⟨a, C, dx, _, _, rfl, h1, T.cls C hc, T.n_words C hc, bagF_words _ _ _ _, ?_⟩
    walk_at "go"
    have hwl : (wordsS s).length = s.length := wordsS_len s
    refine ⟨⟨_, .inl (.inr ⟨o9, w1⟩)⟩, ?_⟩
    refine lc_rel walk_tup (wordsS s) (by rw [List.length_map, w3.length]) (by rw [List.length_map, w3.length, hwl]; exact line5 (by omega)) (fun H' e => .inl (.inr ⟨o9, e _ _ w1⟩)) (fun kv y _ => y = V.str kv.1) (fun _ _ _ _ _ h => h) (fun _ => rfl) ?_ ?_
    · rintro i x' kv H6 H6' Kc hi e6 ⟨rfl, hx'⟩ hkv hk
      obtain ⟨q, hq, hq2⟩ := paired_at w3 hkv
      rw [List.getElem?_map, hq] at hx'
      obtain rfl := (Option.some.inj hx').symm
      walk_at "go"
      refine g_ixt (SqT.of (e6 _ _ hq2)) (v := .str kv.1) rfl ?_
      exact hk _ _ (Ex.refl _) rfl
    · intro D H6 ys hD e6 hl6 hp6
      obtain rfl : ys = ((wordsS s).map (·.1)).map V.str := by
        clear hl6
        generalize wordsS s = es at hp6
        induction hp6 with
        | nil => rfl
        | cons h _ ih => rw [h, List.map_cons, List.map_cons, ih]
      have hks : ∀ u, u ∈ (wordsS s).map (·.1) ↔ u ∈ keys s := fun u => by
        constructor
        · intro hu
          obtain ⟨kv, hkv, rfl⟩ := List.mem_map.mp hu
          exact ((mem_wordsS (w := kv.1) (n := kv.2)).mp hkv).1
        · intro hu
          exact List.mem_map.mpr ⟨(u, cf s u), (mem_wordsS (w := u) (n := cf s u)).mpr ⟨hu, rfl⟩, rfl⟩
      have hsum : (((wordsS s).map (·.1)).map (·.length)).sum ≤ 60 := by
        refine Nat.le_trans (sum_le_mul (n := 10) fun x hx => ?_) ?_
        · obtain ⟨u, hu, rfl⟩ := List.mem_map.mp hx
          exact hl u ((hks u).mp hu)
        · rw [List.length_map, List.length_map, hwl]
          omega
      have e0 : ("" : Str).length = 0 := rfl
      refine ⟨_, D, (wordsS s).map (·.1), rfl, rfl, .inl (SqL.of hl6), by rw [show (Str.ofString "").length = 0 from rfl]; omega, ?_⟩
      have e3 : Txt.join (Str.ofString "") ((wordsS s).map (·.1)) = Str.join ("" : Str) ((wordsS s).map (·.1)) := TL.join_eq _ _
      rw [e3]
      have hjl : (Str.join ("" : Str) ((wordsS s).map (·.1))).length ≤ 60 := by rw [join_len]; exact hsum
      walk_at "go"
      refine ⟨_, rfl, by omega, fun p8 hp8 => ?_⟩
      walk_at "go"
      have e8 : Ex H6 _ := Ex.new (o := SetTO w p8 (ofListT (signs (Str.join ("" : Str) ((wordsS s).map (·.1)))))) hp8
      have hsl := ofSigns_len (Str.join ("" : Str) ((wordsS s).map (·.1)))
      refine ⟨p8, _, rfl, upd_same, by omega, fun ss p9 hperm _ hp9 => ?_⟩
      refine k p9 ss _ ((e6.trans e8).trans (Ex.new hp9)) upd_same (by rw [hperm.length_eq]; omega) fun y => ?_
      rw [hperm.mem_iff, ofListT_mem]
      unfold signs
      rw [List.mem_map]
      constructor
      · rintro ⟨ch, hch, rfl⟩
        obtain ⟨u, hu, h⟩ := (join_chars ch _).mp hch
        exact ⟨u, (hks u).mp hu, ch, h, rfl⟩
      · rintro ⟨u, hu, ch, h, rfl⟩
        exact ⟨ch, (join_chars ch _).mpr ⟨u, (hks u).mpr hu, h⟩, rfl⟩

end
end Fp

namespace Fp
open PySem L2
section
variable {P : Program} {w : World} {K : PySem.W.Frag} {mg : Str → Option Value} {base : Heap} {C_Bag : Addr} {Cs : Addr → Prop}
local macro_rules | `(tactic| walk_at "hp") => `(tactic| first | assumption | rfl)
local macro_rules | `(tactic| walk_at "cond") => `(tactic| first | assumption | decide | omega | (unfold CMul; omega) | (refine ⟨?_, ?_⟩ <;> omega) | (unfold CDiv; omega) | (unfold CPow; omega))
local macro_rules | `(tactic| walk_at "g1") => `(tactic| first
  | with_reducible first
    | refine g_seq ?_ | refine g_asg ?_ | refine g_name ?_ | refine g_ret ?_ | refine g_retN ?_ | refine g_drop ?_ | refine g_ifs ?_
    | refine g_c ?_ | refine g_op ?_ | refine g_un ?_ | refine g_I0 ?_ | refine g_U ?_
    | refine g_test ?_ | refine g_tB ?_ | refine g_bl ?_ | refine g_and ?_ | refine g_or ?_ | refine g_not ?_
    | refine g_andV ?_ | refine g_orV ?_ | refine g_notV ?_ | refine g_if ?_ | refine g_nil ?_ | refine g_cons ?_ | refine g_cb ?_ | refine g_call ?_
    | refine g_lst ?_ | refine g_tup ?_ | refine g_itT ?_ | refine g_itF ?_ | refine g_itNT ?_ | refine g_itNF ?_ | refine g_lc ?_ | refine g_iStr ?_ | refine g_yes ?_ | refine g_exs ?_
    | refine g_chain ?_ | refine g_dget ?_ | refine g_dput ?_ | refine g_dget2 ?_ | refine g_dpop2 ?_ | refine g_fld ?_ | refine g_sfld ?_ | refine g_make ?_ | refine g_meth ?_
    | refine g_bm ?_ | refine g_kw ?_ | refine g_callS ?_ | refine g_revL ?_ | refine g_m1 ?_ | refine g_gsub ?_ | refine g_for ?_ | refine g_iList ?_ | refine g_iTup ?_ | refine g_iRng1 ?_ | refine g_iRng2 ?_ | refine g_sl ?_ | refine g_part ?_ | refine g_noPart ?_
    | refine g_exi ?_ | refine g_exr ?_ | refine g_dnew ?_ | refine g_disp ?_ | refine g_prs0 ?_ | refine g_prs ?_ | refine g_nxt ?_
  | ((with_reducible refine g_var (v := ?vv) ?gv ?_); (case gv => exact rfl))
  | ((with_reducible refine g_I ?gc ?_); (case gc => walk_at "cond"))
  | ((with_reducible refine g_eq ?ge ?_); (case ge => exact rfl))
  | ((with_reducible refine g_ne ?ge ?_); (case ge => exact rfl))
  | (refine g_ixl (SqL.of (by first | assumption | exact upd_same)) rfl ?_)
  | (refine g_setl (by first | assumption | exact upd_same) rfl ?_)
  | ((with_reducible show (∃ i, [V.int _] = [V.int i] ∧ _) ∨ _); refine Or.inl ⟨_, rfl, ?_⟩)
  | ((with_reducible show ∃ i, [V.int _] = [V.int i] ∧ _); refine ⟨_, rfl, ?_⟩)
  | dsimp only)
local macro_rules | `(tactic| walk_at "go") => `(tactic| repeat (walk_at "g1"))

local macro_rules | `(tactic| walk_at "ex") => `(tactic| first
  | assumption
  | exact Ex.refl _
  | (refine Ex.trans ?_ (by assumption); walk_at "ex")
  | (refine BagAt.ex' (by assumption) ?_; walk_at "ex")
  | (refine TapeAt.ex' (by assumption) ?_; walk_at "ex")
  | (refine Ex.at' (by assumption) ?_; walk_at "ex")
  | (refine SqL.of ?_; walk_at "ex")
  | (refine SqT.of ?_; walk_at "ex")
  | (refine Or.inl ?_; walk_at "ex")
  | (refine tape_dk (by assumption) (by assumption) ?_; walk_at "ex"))

/-! ### asked -/
theorem sp_fullX_mono {K : PySem.W.Frag} {C_NoAlphabet : Addr} {vs : List V} {H : Hp} {Q Q' : VK} {E E' : XK} (hq : ∀ v H, Q v H → Q' v H) (he : ∀ c d H, E c d H → E' c d H) (h : sp_is_fullX K C_Bag Cs C_NoAlphabet vs H Q E) : sp_is_fullX K C_Bag Cs C_NoAlphabet vs H Q' E' := by
  obtain ⟨x, y, rfl, ⟨h1, h2⟩ | ⟨z, rfl, hz, ⟨t, h1, h2, h3⟩ | ⟨a, p, s, rfl, h1, h2, h3, h4, h5, h6⟩⟩⟩ := h
  · exact ⟨x, y, rfl, .inl ⟨h1, he _ _ _ h2⟩⟩
  · exact ⟨_, y, rfl, .inr ⟨z, rfl, hz, .inl ⟨t, h1, h2, hq _ _ h3⟩⟩⟩
  · exact ⟨_, _, rfl, .inr ⟨z, rfl, hz, .inr ⟨a, p, s, rfl, h1, h2, h3, h4, h5, fun b H' e q => hq _ _ (h6 b H' e q)⟩⟩⟩
theorem sp_beginX_mono {K : PySem.W.Frag} {C_NoAlphabet C_NoLetters : Addr} {vs : List V} {H : Hp} {Q Q' : VK} {E E' : XK} (hq : ∀ v H, Q v H → Q' v H) (he : ∀ c d H, E c d H → E' c d H) (h : sp_beginX K Cs C_NoAlphabet C_NoLetters vs H Q E) : sp_beginX K Cs C_NoAlphabet C_NoLetters vs H Q' E' := by
  obtain ⟨x, y, rfl, ⟨h1, h2⟩ | ⟨z, a, p, s, rfl, hz, rfl, h1, h2, h3, h4, h5, h6, h7⟩⟩ := h
  · exact ⟨x, y, rfl, .inl ⟨h1, he _ _ _ h2⟩⟩
  · exact ⟨_, _, rfl, .inr ⟨z, a, p, s, rfl, hz, rfl, h1, h2, h3, h4, h5, fun q H' e => he _ _ _ (h6 q H' e), fun q v H' e r => hq _ _ (h7 q v H' e r)⟩⟩
theorem sp_unmetX_mono {K : PySem.W.Frag} {C_NoAlphabet C_NoLetters C_NoNumber : Addr} {vs : List V} {H : Hp} {Q Q' : VK} {E E' : XK} (hq : ∀ v H, Q v H → Q' v H) (he : ∀ c d H, E c d H → E' c d H) (h : sp_unmetX K Cs C_NoAlphabet C_NoLetters C_NoNumber vs H Q E) : sp_unmetX K Cs C_NoAlphabet C_NoLetters C_NoNumber vs H Q' E' := by
  obtain ⟨x, y, m, rfl, ⟨h1, h2⟩ | ⟨z, a, p, s, rfl, hz, rfl, h1, h2, h3, h4, h5, h6, h7⟩⟩ := h
  · exact ⟨x, y, m, rfl, .inl ⟨h1, he _ _ _ h2⟩⟩
  · refine ⟨_, _, m, rfl, .inr ⟨z, a, p, s, rfl, hz, rfl, h1, h2, h3, h4, h5, fun q H' e => he _ _ _ (h6 q H' e), fun q => ?_⟩⟩
    obtain ⟨b, k1, k2, k3⟩ := h7 q
    refine ⟨b, k1, fun r H' e => he _ _ _ (k2 r H' e), fun r => ?_⟩
    obtain ⟨n, q1, q2, q3⟩ := k3 r
    exact ⟨n, q1, q2, fun v H' e u => hq _ _ (q3 v H' e u)⟩
/-- the tuple of flags of an error: which one it is -/
def flagsV (i : Nat) : List V := [.bl (decide (i = 0)), .bl (decide (i = 1)), .bl (decide (i = 2)), .bl true]
def AskT (Q : VK) : VK := fun v H => ∀ r H', Ex H H' → H' r = some (.tup [.non, v]) → Q (.ref r) H'
def AskE (C0 C1 C2 : Addr) (Q : VK) : XK := fun cls d H => d = none ∧ ∃ i, ((i = 0 ∧ cls = .ref C0) ∨ (i = 1 ∧ cls = .ref C1) ∨ (i = 2 ∧ cls = .ref C2)) ∧ ∀ r f H', Ex H H' → H' f = some (.tup (flagsV i)) → H' r = some (.tup [.ref f, .non]) → Q (.ref r) H'
def sp_ask (K : PySem.W.Frag) (C_Bag : Addr) (Cs : Addr → Prop) (C0 C1 C2 : Addr) : Sp := fun vs H Q _ => ∃ (wh : Int) (al th sz : V), vs = [.int wh, al, th, sz] ∧
  ∀ H1, Ex H H1 → (wh = 0 ∧ sp_is_fullX K C_Bag Cs C0 [al, th] H1 (AskT Q) (AskE C0 C1 C2 Q)) ∨ (wh = 1 ∧ sp_beginX K Cs C0 C1 [al, th] H1 (AskT Q) (AskE C0 C1 C2 Q)) ∨ (wh = 2 ∧ sp_unmetX K Cs C0 C1 C2 [al, th, sz] H1 (AskT Q) (AskE C0 C1 C2 Q))
theorem ok_law_ask {C_BagError C_NoAlphabet C_NoLetters C_NoNumber C_BadBag : Addr} {f : Addr} {fd : FuncData} (F : Fun K "_law_ask" "_law_ask" s_law_ask f fd) (T : Txt K mg C_Bag Cs) (D_is_fullX : DefOk P w K mg base (L2.CX P w) 5 "is_full" ["alphabet", "thing"] (sp_is_fullX K C_Bag Cs C_NoAlphabet)) (D_beginningsX : DefOk P w K mg base (L2.CX P w) 9 "beginnings" ["alphabet", "bag"] (sp_beginX K Cs C_NoAlphabet C_NoLetters)) (D_unmetX : DefOk P w K mg base (L2.CX P w) 15 "unmet" ["alphabet", "bag", "most"] (sp_unmetX K Cs C_NoAlphabet C_NoLetters C_NoNumber))
    (E_BagError : ErrC K mg "BagError" C_BagError) (BV_ValueError : mg "ValueError" = none) (K7 : K72 K C_Bag C_BagError C_NoAlphabet C_NoLetters C_NoNumber C_BadBag) (E_NoAlphabet : ErrC K mg "NoAlphabet" C_NoAlphabet) (E_NoLetters : ErrC K mg "NoLetters" C_NoLetters) (E_NoNumber : ErrC K mg "NoNumber" C_NoNumber) : FnOk P w K mg base CX0 16 f fd ["_law_which", "_law_alphabet_here", "_law_thing_here", "_law_size"] (sp_ask K C_Bag Cs C_NoAlphabet C_NoLetters C_NoNumber) := by
  refine F.ok sc_law_ask (fun vs H Q E h => ?_) (fun cdv A outer s H vs Q E hr h => ?_)
  · obtain ⟨wh, al, th, sz, rfl, _⟩ := h
    rfl
  · obtain ⟨wh, al, th, sz, rfl, h⟩ := h
    have gB := E_BagError.g
    have hu := hu_of hr; have hu64 := L2.Room.units hr; refine ⟨_, (pss_cons (ps_set (i := 4) sc_law_ask.nd rfl (by first | exact Or.inl rfl | exact Or.inr rfl) pe_non) (pss_cons (ps_set (i := 5) sc_law_ask.nd rfl (by first | exact Or.inl rfl | exact Or.inr rfl) pe_non) (pss_cons (L2.ps_try_as (i := 6) (c := .ref C_BagError) rfl rfl sc_law_ask.nd rfl rfl ⟨rfl, by decide, .inl gB⟩ takes0 (fun W pn xe tk _ => (pss_one (ps_if (pt_cmpR op_eq (pv 0) pe_int (nomark _)) (pss_one (ps_set (i := 5) sc_law_ask.nd rfl (by first | exact Or.inl rfl | exact Or.inr rfl) (pe_callDX D_is_fullX (hr.mono (by decide)) rfl tk (pa_cons (pv 1) (pa_cons (pv 2) pa_nil))))) (pss_one (ps_if (pt_cmpR op_eq (pv 0) pe_int (nomark _)) (pss_one (ps_set (i := 5) sc_law_ask.nd rfl (by first | exact Or.inl rfl | exact Or.inr rfl) (pe_callDX D_beginningsX (hr.mono (by decide)) rfl tk (pa_cons (pv 1) (pa_cons (pv 2) pa_nil))))) (pss_one (ps_set (i := 5) sc_law_ask.nd rfl (by first | exact Or.inl rfl | exact Or.inr rfl) (pe_callDX D_unmetX (hr.mono (by decide)) rfl tk (pa_cons (pv 1) (pa_cons (pv 2) (pa_cons (pv 3) pa_nil))))))))))) (fun a oe cls d pn hz hf => (pss_cons (ps_set (i := 4) sc_law_ask.nd rfl (by first | exact Or.inl rfl | exact Or.inr rfl) (pe_tup (pa_cons (pe_callB (r := rIsEx K cls d a) (call_isEx hz hf) (by rfl) T.b_isinstance (by decide +kernel) (pa_cons (pv 6) (pa_cons (pe_glob (v := .ref C_NoAlphabet) rfl E_NoAlphabet.g rfl) pa_nil))) (pa_cons (pe_callB (r := rIsEx K cls d a) (call_isEx hz hf) (by rfl) T.b_isinstance (by decide +kernel) (pa_cons (pv 6) (pa_cons (pe_glob (v := .ref C_NoLetters) rfl E_NoLetters.g rfl) pa_nil))) (pa_cons (pe_callB (r := rIsEx K cls d a) (call_isEx hz hf) (by rfl) T.b_isinstance (by decide +kernel) (pa_cons (pv 6) (pa_cons (pe_glob (v := .ref C_NoNumber) rfl E_NoNumber.g rfl) pa_nil))) pa_nil))))) (pss_one (ps_set (i := 4) sc_law_ask.nd rfl (by first | exact Or.inl rfl | exact Or.inr rfl) (pe_op (r := rCatA K) op_catA (pv 4) (pe_tup (pa_cons (pe_callB (r := rIsEx K cls d a) (call_isEx hz hf) (by rfl) T.b_isinstance (by decide +kernel) (pa_cons (pv 6) (pa_cons (pe_bltn (v := .ty "ValueError") rfl BV_ValueError (by decide +kernel) rfl) pa_nil))) pa_nil)))))))) (pss_one (ps_ret (pe_tup (pa_cons (pv 4) (pa_cons (pv 5) pa_nil)))))))), ?_⟩; rw [st_law_ask]; (try dsimp only [cxOf]); walk_at "go"
    have two : ∀ {v : V} {H2 : Hp}, AskT Q v H2 → ∀ r, H2 r = none → Q (.ref r) (upd H2 r (.tup [.non, v])) := fun {v} {H2} q r hr => q r _ (Ex.new hr) upd_same
    rcases h H (Ex.refl _) with ⟨rfl, h'⟩ | ⟨rfl, h'⟩ | ⟨rfl, h'⟩
    · rw [decide_eq_true (rfl : V.int 0 = V.int 0), if_pos rfl]
      walk_at "go"
      refine sp_fullX_mono (fun v H2 q => ?_) (fun cls d H2 q => ?_) h'
      · walk_at "go"
        exact ⟨Nat.le_of_ble_eq_true rfl, two q⟩
      · obtain ⟨rfl, i, hi, kk⟩ := q
        rcases hi with ⟨rfl, rfl⟩ | ⟨rfl, rfl⟩ | ⟨rfl, rfl⟩
        · refine ⟨true, K7.m0, fun _ ax hax => ?_, fun z => nomatch z⟩
          walk_at "go"
          refine g_isEx K7.x0 K7.k00 ?_
          walk_at "go"
          refine g_isEx K7.x0 K7.k01 ?_
          walk_at "go"
          refine g_isEx K7.x0 K7.k02 ?_
          walk_at "go"
          refine ⟨Nat.le_of_ble_eq_true rfl, fun p1 hp1 => ?_⟩
          have a1 := upd_same (H := H2) (a := p1) (o := .tup [.bl (decide (0 = 0)), .bl (decide (0 = 1)), .bl (decide (0 = 2))])
          have e1 : Ex H2 _ := Ex.new (o := .tup [.bl (decide (0 = 0)), .bl (decide (0 = 1)), .bl (decide (0 = 2))]) hp1
          change gName 4 (V.ref p1) _ (upd H2 p1 (.tup [.bl (decide (0 = 0)), .bl (decide (0 = 1)), .bl (decide (0 = 2))])) _
          generalize upd H2 p1 (.tup [.bl (decide (0 = 0)), .bl (decide (0 = 1)), .bl (decide (0 = 2))]) = H3 at a1 e1 ⊢
          walk_at "go"
          refine ⟨_, _, .type "ValueError", true, rfl, rfl, K7.x0, rfl, fun u r => (ClsV.ty "ValueError").eq r, K7.v0, ?_⟩
          walk_at "go"
          refine ⟨Nat.le_of_ble_eq_true rfl, fun p2 hp2 => ?_⟩
          have e2 : Ex H3 _ := Ex.new (o := .tup [.bl true]) hp2
          have a2 := upd_same (H := H3) (a := p2) (o := .tup [.bl true])
          generalize upd H3 p2 (.tup [.bl true]) = H4 at a2 e2 ⊢
          refine ⟨p1, p2, _, _, rfl, rfl, SqT.of (e2 _ _ a1), SqT.of a2, Nat.le_of_ble_eq_true rfl, ?_⟩
          refine ⟨fun z => (nomatch z), fun _ z => (nomatch z), fun _ _ p3 hp3 => ?_⟩
          walk_at "go"
          refine ⟨Nat.le_of_ble_eq_true rfl, fun p4 hp4 => ?_⟩
          exact kk p4 p3 _ ((e1.trans e2).trans ((Ex.new hp3).trans (Ex.new hp4))) (Ex.new hp4 _ _ upd_same) upd_same
        · refine ⟨true, K7.m1, fun _ ax hax => ?_, fun z => nomatch z⟩
          walk_at "go"
          refine g_isEx K7.x1 K7.k10 ?_
          walk_at "go"
          refine g_isEx K7.x1 K7.k11 ?_
          walk_at "go"
          refine g_isEx K7.x1 K7.k12 ?_
          walk_at "go"
          refine ⟨Nat.le_of_ble_eq_true rfl, fun p1 hp1 => ?_⟩
          have a1 := upd_same (H := H2) (a := p1) (o := .tup [.bl (decide (1 = 0)), .bl (decide (1 = 1)), .bl (decide (1 = 2))])
          have e1 : Ex H2 _ := Ex.new (o := .tup [.bl (decide (1 = 0)), .bl (decide (1 = 1)), .bl (decide (1 = 2))]) hp1
          change gName 4 (V.ref p1) _ (upd H2 p1 (.tup [.bl (decide (1 = 0)), .bl (decide (1 = 1)), .bl (decide (1 = 2))])) _
          generalize upd H2 p1 (.tup [.bl (decide (1 = 0)), .bl (decide (1 = 1)), .bl (decide (1 = 2))]) = H3 at a1 e1 ⊢
          walk_at "go"
          refine ⟨_, _, .type "ValueError", true, rfl, rfl, K7.x1, rfl, fun u r => (ClsV.ty "ValueError").eq r, K7.v1, ?_⟩
          walk_at "go"
          refine ⟨Nat.le_of_ble_eq_true rfl, fun p2 hp2 => ?_⟩
          have e2 : Ex H3 _ := Ex.new (o := .tup [.bl true]) hp2
          have a2 := upd_same (H := H3) (a := p2) (o := .tup [.bl true])
          generalize upd H3 p2 (.tup [.bl true]) = H4 at a2 e2 ⊢
          refine ⟨p1, p2, _, _, rfl, rfl, SqT.of (e2 _ _ a1), SqT.of a2, Nat.le_of_ble_eq_true rfl, ?_⟩
          refine ⟨fun z => (nomatch z), fun _ z => (nomatch z), fun _ _ p3 hp3 => ?_⟩
          walk_at "go"
          refine ⟨Nat.le_of_ble_eq_true rfl, fun p4 hp4 => ?_⟩
          exact kk p4 p3 _ ((e1.trans e2).trans ((Ex.new hp3).trans (Ex.new hp4))) (Ex.new hp4 _ _ upd_same) upd_same
        · refine ⟨true, K7.m2, fun _ ax hax => ?_, fun z => nomatch z⟩
          walk_at "go"
          refine g_isEx K7.x2 K7.k20 ?_
          walk_at "go"
          refine g_isEx K7.x2 K7.k21 ?_
          walk_at "go"
          refine g_isEx K7.x2 K7.k22 ?_
          walk_at "go"
          refine ⟨Nat.le_of_ble_eq_true rfl, fun p1 hp1 => ?_⟩
          have a1 := upd_same (H := H2) (a := p1) (o := .tup [.bl (decide (2 = 0)), .bl (decide (2 = 1)), .bl (decide (2 = 2))])
          have e1 : Ex H2 _ := Ex.new (o := .tup [.bl (decide (2 = 0)), .bl (decide (2 = 1)), .bl (decide (2 = 2))]) hp1
          change gName 4 (V.ref p1) _ (upd H2 p1 (.tup [.bl (decide (2 = 0)), .bl (decide (2 = 1)), .bl (decide (2 = 2))])) _
          generalize upd H2 p1 (.tup [.bl (decide (2 = 0)), .bl (decide (2 = 1)), .bl (decide (2 = 2))]) = H3 at a1 e1 ⊢
          walk_at "go"
          refine ⟨_, _, .type "ValueError", true, rfl, rfl, K7.x2, rfl, fun u r => (ClsV.ty "ValueError").eq r, K7.v2, ?_⟩
          walk_at "go"
          refine ⟨Nat.le_of_ble_eq_true rfl, fun p2 hp2 => ?_⟩
          have e2 : Ex H3 _ := Ex.new (o := .tup [.bl true]) hp2
          have a2 := upd_same (H := H3) (a := p2) (o := .tup [.bl true])
          generalize upd H3 p2 (.tup [.bl true]) = H4 at a2 e2 ⊢
          refine ⟨p1, p2, _, _, rfl, rfl, SqT.of (e2 _ _ a1), SqT.of a2, Nat.le_of_ble_eq_true rfl, ?_⟩
          refine ⟨fun z => (nomatch z), fun _ z => (nomatch z), fun _ _ p3 hp3 => ?_⟩
          walk_at "go"
          refine ⟨Nat.le_of_ble_eq_true rfl, fun p4 hp4 => ?_⟩
          exact kk p4 p3 _ ((e1.trans e2).trans ((Ex.new hp3).trans (Ex.new hp4))) (Ex.new hp4 _ _ upd_same) upd_same
    · rw [decide_eq_false (fun e => by cases V.int.inj e), if_neg Bool.false_ne_true]
      walk_at "go"
      rw [decide_eq_true (rfl : V.int 1 = V.int 1)]
      walk_at "go"
      refine sp_beginX_mono (fun v H2 q => ?_) (fun cls d H2 q => ?_) h'
      · walk_at "go"
        exact ⟨Nat.le_of_ble_eq_true rfl, two q⟩
      · obtain ⟨rfl, i, hi, kk⟩ := q
        rcases hi with ⟨rfl, rfl⟩ | ⟨rfl, rfl⟩ | ⟨rfl, rfl⟩
        · refine ⟨true, K7.m0, fun _ ax hax => ?_, fun z => nomatch z⟩
          walk_at "go"
          refine g_isEx K7.x0 K7.k00 ?_
          walk_at "go"
          refine g_isEx K7.x0 K7.k01 ?_
          walk_at "go"
          refine g_isEx K7.x0 K7.k02 ?_
          walk_at "go"
          refine ⟨Nat.le_of_ble_eq_true rfl, fun p1 hp1 => ?_⟩
          have a1 := upd_same (H := H2) (a := p1) (o := .tup [.bl (decide (0 = 0)), .bl (decide (0 = 1)), .bl (decide (0 = 2))])
          have e1 : Ex H2 _ := Ex.new (o := .tup [.bl (decide (0 = 0)), .bl (decide (0 = 1)), .bl (decide (0 = 2))]) hp1
          change gName 4 (V.ref p1) _ (upd H2 p1 (.tup [.bl (decide (0 = 0)), .bl (decide (0 = 1)), .bl (decide (0 = 2))])) _
          generalize upd H2 p1 (.tup [.bl (decide (0 = 0)), .bl (decide (0 = 1)), .bl (decide (0 = 2))]) = H3 at a1 e1 ⊢
          walk_at "go"
          refine ⟨_, _, .type "ValueError", true, rfl, rfl, K7.x0, rfl, fun u r => (ClsV.ty "ValueError").eq r, K7.v0, ?_⟩
          walk_at "go"
          refine ⟨Nat.le_of_ble_eq_true rfl, fun p2 hp2 => ?_⟩
          have e2 : Ex H3 _ := Ex.new (o := .tup [.bl true]) hp2
          have a2 := upd_same (H := H3) (a := p2) (o := .tup [.bl true])
          generalize upd H3 p2 (.tup [.bl true]) = H4 at a2 e2 ⊢
          refine ⟨p1, p2, _, _, rfl, rfl, SqT.of (e2 _ _ a1), SqT.of a2, Nat.le_of_ble_eq_true rfl, ?_⟩
          refine ⟨fun z => (nomatch z), fun _ z => (nomatch z), fun _ _ p3 hp3 => ?_⟩
          walk_at "go"
          refine ⟨Nat.le_of_ble_eq_true rfl, fun p4 hp4 => ?_⟩
          exact kk p4 p3 _ ((e1.trans e2).trans ((Ex.new hp3).trans (Ex.new hp4))) (Ex.new hp4 _ _ upd_same) upd_same
        · refine ⟨true, K7.m1, fun _ ax hax => ?_, fun z => nomatch z⟩
          walk_at "go"
          refine g_isEx K7.x1 K7.k10 ?_
          walk_at "go"
          refine g_isEx K7.x1 K7.k11 ?_
          walk_at "go"
          refine g_isEx K7.x1 K7.k12 ?_
          walk_at "go"
          refine ⟨Nat.le_of_ble_eq_true rfl, fun p1 hp1 => ?_⟩
          have a1 := upd_same (H := H2) (a := p1) (o := .tup [.bl (decide (1 = 0)), .bl (decide (1 = 1)), .bl (decide (1 = 2))])
          have e1 : Ex H2 _ := Ex.new (o := .tup [.bl (decide (1 = 0)), .bl (decide (1 = 1)), .bl (decide (1 = 2))]) hp1
          change gName 4 (V.ref p1) _ (upd H2 p1 (.tup [.bl (decide (1 = 0)), .bl (decide (1 = 1)), .bl (decide (1 = 2))])) _
          generalize upd H2 p1 (.tup [.bl (decide (1 = 0)), .bl (decide (1 = 1)), .bl (decide (1 = 2))]) = H3 at a1 e1 ⊢
          walk_at "go"
          refine ⟨_, _, .type "ValueError", true, rfl, rfl, K7.x1, rfl, fun u r => (ClsV.ty "ValueError").eq r, K7.v1, ?_⟩
          walk_at "go"
          refine ⟨Nat.le_of_ble_eq_true rfl, fun p2 hp2 => ?_⟩
          have e2 : Ex H3 _ := Ex.new (o := .tup [.bl true]) hp2
          have a2 := upd_same (H := H3) (a := p2) (o := .tup [.bl true])
          generalize upd H3 p2 (.tup [.bl true]) = H4 at a2 e2 ⊢
          refine ⟨p1, p2, _, _, rfl, rfl, SqT.of (e2 _ _ a1), SqT.of a2, Nat.le_of_ble_eq_true rfl, ?_⟩
          refine ⟨fun z => (nomatch z), fun _ z => (nomatch z), fun _ _ p3 hp3 => ?_⟩
          walk_at "go"
          refine ⟨Nat.le_of_ble_eq_true rfl, fun p4 hp4 => ?_⟩
          exact kk p4 p3 _ ((e1.trans e2).trans ((Ex.new hp3).trans (Ex.new hp4))) (Ex.new hp4 _ _ upd_same) upd_same
        · refine ⟨true, K7.m2, fun _ ax hax => ?_, fun z => nomatch z⟩
          walk_at "go"
          refine g_isEx K7.x2 K7.k20 ?_
          walk_at "go"
          refine g_isEx K7.x2 K7.k21 ?_
          walk_at "go"
          refine g_isEx K7.x2 K7.k22 ?_
          walk_at "go"
          refine ⟨Nat.le_of_ble_eq_true rfl, fun p1 hp1 => ?_⟩
          have a1 := upd_same (H := H2) (a := p1) (o := .tup [.bl (decide (2 = 0)), .bl (decide (2 = 1)), .bl (decide (2 = 2))])
          have e1 : Ex H2 _ := Ex.new (o := .tup [.bl (decide (2 = 0)), .bl (decide (2 = 1)), .bl (decide (2 = 2))]) hp1
          change gName 4 (V.ref p1) _ (upd H2 p1 (.tup [.bl (decide (2 = 0)), .bl (decide (2 = 1)), .bl (decide (2 = 2))])) _
          generalize upd H2 p1 (.tup [.bl (decide (2 = 0)), .bl (decide (2 = 1)), .bl (decide (2 = 2))]) = H3 at a1 e1 ⊢
          walk_at "go"
          refine ⟨_, _, .type "ValueError", true, rfl, rfl, K7.x2, rfl, fun u r => (ClsV.ty "ValueError").eq r, K7.v2, ?_⟩
          walk_at "go"
          refine ⟨Nat.le_of_ble_eq_true rfl, fun p2 hp2 => ?_⟩
          have e2 : Ex H3 _ := Ex.new (o := .tup [.bl true]) hp2
          have a2 := upd_same (H := H3) (a := p2) (o := .tup [.bl true])
          generalize upd H3 p2 (.tup [.bl true]) = H4 at a2 e2 ⊢
          refine ⟨p1, p2, _, _, rfl, rfl, SqT.of (e2 _ _ a1), SqT.of a2, Nat.le_of_ble_eq_true rfl, ?_⟩
          refine ⟨fun z => (nomatch z), fun _ z => (nomatch z), fun _ _ p3 hp3 => ?_⟩
          walk_at "go"
          refine ⟨Nat.le_of_ble_eq_true rfl, fun p4 hp4 => ?_⟩
          exact kk p4 p3 _ ((e1.trans e2).trans ((Ex.new hp3).trans (Ex.new hp4))) (Ex.new hp4 _ _ upd_same) upd_same
    · rw [decide_eq_false (fun e => by cases V.int.inj e), if_neg Bool.false_ne_true]
      walk_at "go"
      rw [decide_eq_false (fun e => by cases V.int.inj e)]
      walk_at "go"
      refine sp_unmetX_mono (fun v H2 q => ?_) (fun cls d H2 q => ?_) h'
      · walk_at "go"
        exact ⟨Nat.le_of_ble_eq_true rfl, two q⟩
      · obtain ⟨rfl, i, hi, kk⟩ := q
        rcases hi with ⟨rfl, rfl⟩ | ⟨rfl, rfl⟩ | ⟨rfl, rfl⟩
        · refine ⟨true, K7.m0, fun _ ax hax => ?_, fun z => nomatch z⟩
          walk_at "go"
          refine g_isEx K7.x0 K7.k00 ?_
          walk_at "go"
          refine g_isEx K7.x0 K7.k01 ?_
          walk_at "go"
          refine g_isEx K7.x0 K7.k02 ?_
          walk_at "go"
          refine ⟨Nat.le_of_ble_eq_true rfl, fun p1 hp1 => ?_⟩
          have a1 := upd_same (H := H2) (a := p1) (o := .tup [.bl (decide (0 = 0)), .bl (decide (0 = 1)), .bl (decide (0 = 2))])
          have e1 : Ex H2 _ := Ex.new (o := .tup [.bl (decide (0 = 0)), .bl (decide (0 = 1)), .bl (decide (0 = 2))]) hp1
          change gName 4 (V.ref p1) _ (upd H2 p1 (.tup [.bl (decide (0 = 0)), .bl (decide (0 = 1)), .bl (decide (0 = 2))])) _
          generalize upd H2 p1 (.tup [.bl (decide (0 = 0)), .bl (decide (0 = 1)), .bl (decide (0 = 2))]) = H3 at a1 e1 ⊢
          walk_at "go"
          refine ⟨_, _, .type "ValueError", true, rfl, rfl, K7.x0, rfl, fun u r => (ClsV.ty "ValueError").eq r, K7.v0, ?_⟩
          walk_at "go"
          refine ⟨Nat.le_of_ble_eq_true rfl, fun p2 hp2 => ?_⟩
          have e2 : Ex H3 _ := Ex.new (o := .tup [.bl true]) hp2
          have a2 := upd_same (H := H3) (a := p2) (o := .tup [.bl true])
          generalize upd H3 p2 (.tup [.bl true]) = H4 at a2 e2 ⊢
          refine ⟨p1, p2, _, _, rfl, rfl, SqT.of (e2 _ _ a1), SqT.of a2, Nat.le_of_ble_eq_true rfl, ?_⟩
          refine ⟨fun z => (nomatch z), fun _ z => (nomatch z), fun _ _ p3 hp3 => ?_⟩
          walk_at "go"
          refine ⟨Nat.le_of_ble_eq_true rfl, fun p4 hp4 => ?_⟩
          exact kk p4 p3 _ ((e1.trans e2).trans ((Ex.new hp3).trans (Ex.new hp4))) (Ex.new hp4 _ _ upd_same) upd_same
        · refine ⟨true, K7.m1, fun _ ax hax => ?_, fun z => nomatch z⟩
          walk_at "go"
          refine g_isEx K7.x1 K7.k10 ?_
          walk_at "go"
          refine g_isEx K7.x1 K7.k11 ?_
          walk_at "go"
          refine g_isEx K7.x1 K7.k12 ?_
          walk_at "go"
          refine ⟨Nat.le_of_ble_eq_true rfl, fun p1 hp1 => ?_⟩
          have a1 := upd_same (H := H2) (a := p1) (o := .tup [.bl (decide (1 = 0)), .bl (decide (1 = 1)), .bl (decide (1 = 2))])
          have e1 : Ex H2 _ := Ex.new (o := .tup [.bl (decide (1 = 0)), .bl (decide (1 = 1)), .bl (decide (1 = 2))]) hp1
          change gName 4 (V.ref p1) _ (upd H2 p1 (.tup [.bl (decide (1 = 0)), .bl (decide (1 = 1)), .bl (decide (1 = 2))])) _
          generalize upd H2 p1 (.tup [.bl (decide (1 = 0)), .bl (decide (1 = 1)), .bl (decide (1 = 2))]) = H3 at a1 e1 ⊢
          walk_at "go"
          refine ⟨_, _, .type "ValueError", true, rfl, rfl, K7.x1, rfl, fun u r => (ClsV.ty "ValueError").eq r, K7.v1, ?_⟩
          walk_at "go"
          refine ⟨Nat.le_of_ble_eq_true rfl, fun p2 hp2 => ?_⟩
          have e2 : Ex H3 _ := Ex.new (o := .tup [.bl true]) hp2
          have a2 := upd_same (H := H3) (a := p2) (o := .tup [.bl true])
          generalize upd H3 p2 (.tup [.bl true]) = H4 at a2 e2 ⊢
          refine ⟨p1, p2, _, _, rfl, rfl, SqT.of (e2 _ _ a1), SqT.of a2, Nat.le_of_ble_eq_true rfl, ?_⟩
          refine ⟨fun z => (nomatch z), fun _ z => (nomatch z), fun _ _ p3 hp3 => ?_⟩
          walk_at "go"
          refine ⟨Nat.le_of_ble_eq_true rfl, fun p4 hp4 => ?_⟩
          exact kk p4 p3 _ ((e1.trans e2).trans ((Ex.new hp3).trans (Ex.new hp4))) (Ex.new hp4 _ _ upd_same) upd_same
        · refine ⟨true, K7.m2, fun _ ax hax => ?_, fun z => nomatch z⟩
          walk_at "go"
          refine g_isEx K7.x2 K7.k20 ?_
          walk_at "go"
          refine g_isEx K7.x2 K7.k21 ?_
          walk_at "go"
          refine g_isEx K7.x2 K7.k22 ?_
          walk_at "go"
          refine ⟨Nat.le_of_ble_eq_true rfl, fun p1 hp1 => ?_⟩
          have a1 := upd_same (H := H2) (a := p1) (o := .tup [.bl (decide (2 = 0)), .bl (decide (2 = 1)), .bl (decide (2 = 2))])
          have e1 : Ex H2 _ := Ex.new (o := .tup [.bl (decide (2 = 0)), .bl (decide (2 = 1)), .bl (decide (2 = 2))]) hp1
          change gName 4 (V.ref p1) _ (upd H2 p1 (.tup [.bl (decide (2 = 0)), .bl (decide (2 = 1)), .bl (decide (2 = 2))])) _
          generalize upd H2 p1 (.tup [.bl (decide (2 = 0)), .bl (decide (2 = 1)), .bl (decide (2 = 2))]) = H3 at a1 e1 ⊢
          walk_at "go"
          refine ⟨_, _, .type "ValueError", true, rfl, rfl, K7.x2, rfl, fun u r => (ClsV.ty "ValueError").eq r, K7.v2, ?_⟩
          walk_at "go"
          refine ⟨Nat.le_of_ble_eq_true rfl, fun p2 hp2 => ?_⟩
          have e2 : Ex H3 _ := Ex.new (o := .tup [.bl true]) hp2
          have a2 := upd_same (H := H3) (a := p2) (o := .tup [.bl true])
          generalize upd H3 p2 (.tup [.bl true]) = H4 at a2 e2 ⊢
          refine ⟨p1, p2, _, _, rfl, rfl, SqT.of (e2 _ _ a1), SqT.of a2, Nat.le_of_ble_eq_true rfl, ?_⟩
          refine ⟨fun z => (nomatch z), fun _ z => (nomatch z), fun _ _ p3 hp3 => ?_⟩
          walk_at "go"
          refine ⟨Nat.le_of_ble_eq_true rfl, fun p4 hp4 => ?_⟩
          exact kk p4 p3 _ ((e1.trans e2).trans ((Ex.new hp3).trans (Ex.new hp4))) (Ex.new hp4 _ _ upd_same) upd_same

end
end Fp

namespace Fp
open PySem L2
section
variable {P : Program} {w : World} {K : PySem.W.Frag} {mg : Str → Option Value} {base : Heap} {C_Bag : Addr} {Cs : Addr → Prop}
local macro_rules | `(tactic| walk_at "hp") => `(tactic| first | assumption | rfl)
local macro_rules | `(tactic| walk_at "cond") => `(tactic| first | assumption | decide | omega | (unfold CMul; omega) | (refine ⟨?_, ?_⟩ <;> omega) | (unfold CDiv; omega) | (unfold CPow; omega))
local macro_rules | `(tactic| walk_at "g1") => `(tactic| first
  | with_reducible first
    | refine g_seq ?_ | refine g_asg ?_ | refine g_name ?_ | refine g_ret ?_ | refine g_retN ?_ | refine g_drop ?_ | refine g_ifs ?_
    | refine g_c ?_ | refine g_op ?_ | refine g_un ?_ | refine g_I0 ?_ | refine g_U ?_
    | refine g_test ?_ | refine g_tB ?_ | refine g_bl ?_ | refine g_and ?_ | refine g_or ?_ | refine g_not ?_
    | refine g_andV ?_ | refine g_orV ?_ | refine g_notV ?_ | refine g_if ?_ | refine g_nil ?_ | refine g_cons ?_ | refine g_cb ?_ | refine g_call ?_
    | refine g_lst ?_ | refine g_tup ?_ | refine g_itT ?_ | refine g_itF ?_ | refine g_itNT ?_ | refine g_itNF ?_ | refine g_lc ?_ | refine g_iStr ?_ | refine g_yes ?_ | refine g_exs ?_
    | refine g_chain ?_ | refine g_dget ?_ | refine g_dput ?_ | refine g_dget2 ?_ | refine g_dpop2 ?_ | refine g_fld ?_ | refine g_sfld ?_ | refine g_make ?_ | refine g_meth ?_
    | refine g_bm ?_ | refine g_kw ?_ | refine g_callS ?_ | refine g_revL ?_ | refine g_m1 ?_ | refine g_gsub ?_ | refine g_for ?_ | refine g_iList ?_ | refine g_iTup ?_ | refine g_iRng1 ?_ | refine g_iRng2 ?_ | refine g_sl ?_ | refine g_part ?_ | refine g_noPart ?_
    | refine g_exi ?_ | refine g_exr ?_ | refine g_dnew ?_ | refine g_disp ?_ | refine g_prs0 ?_ | refine g_prs ?_ | refine g_nxt ?_
  | ((with_reducible refine g_var (v := ?vv) ?gv ?_); (case gv => exact rfl))
  | ((with_reducible refine g_I ?gc ?_); (case gc => walk_at "cond"))
  | ((with_reducible refine g_eq ?ge ?_); (case ge => exact rfl))
  | ((with_reducible refine g_ne ?ge ?_); (case ge => exact rfl))
  | (refine g_ixl (SqL.of (by first | assumption | exact upd_same)) rfl ?_)
  | (refine g_setl (by first | assumption | exact upd_same) rfl ?_)
  | ((with_reducible show (∃ i, [V.int _] = [V.int i] ∧ _) ∨ _); refine Or.inl ⟨_, rfl, ?_⟩)
  | ((with_reducible show ∃ i, [V.int _] = [V.int i] ∧ _); refine ⟨_, rfl, ?_⟩)
  | dsimp only)
local macro_rules | `(tactic| walk_at "go") => `(tactic| repeat (walk_at "g1"))

local macro_rules | `(tactic| walk_at "ex") => `(tactic| first
  | assumption
  | exact Ex.refl _
  | (refine Ex.trans ?_ (by assumption); walk_at "ex")
  | (refine BagAt.ex' (by assumption) ?_; walk_at "ex")
  | (refine TapeAt.ex' (by assumption) ?_; walk_at "ex")
  | (refine Ex.at' (by assumption) ?_; walk_at "ex")
  | (refine SqL.of ?_; walk_at "ex")
  | (refine SqT.of ?_; walk_at "ex")
  | (refine Or.inl ?_; walk_at "ex")
  | (refine tape_dk (by assumption) (by assumption) ?_; walk_at "ex"))

/-! ### what is due -/
/-- a number of letters, or none -/
def SizeIs (K : PySem.W.Frag) (H : Hp) (x : V) (b : Bool) : Prop := (∃ i : Int, x = .int i ∧ b = (decide (0 ≤ i) && decide (i ≤ 12))) ∨ (∃ c, x = .bl c ∧ b = false) ∨ (b = false ∧ ∀ H', Ex H H' → ∃ t, TyX K H' x t ∧ PySem.W.kitOne K t (.type "int") = some false)
theorem SizeIs.within {H H' : Hp} {x : V} {b : Bool} (e : Ex H H') (h : SizeIs K H x b) : WithinIs K H' x 0 12 b := by
  rcases h with ⟨i, rfl, rfl⟩ | ⟨c, rfl, rfl⟩ | ⟨rfl, h⟩
  · exact .inl ⟨i, rfl, rfl⟩
  · exact .inr ⟨.inr (.inl ⟨c, rfl, rfl⟩), rfl⟩
  · obtain ⟨t, h1, h2⟩ := h H' e
    exact .inr ⟨.inr (.inr ⟨t, h1, h2, rfl⟩), rfl⟩
def sp_due72 (K : PySem.W.Frag) (Cs : Addr → Prop) : Sp := fun vs H Q _ => ∃ (wh : Int) (al th sz : V), vs = [.int wh, al, th, sz] ∧
  ((NoAl K H al ∧ ∀ r H', Ex H H' → H' r = some (.tup (flagsV 0)) → Q (.ref r) H') ∨ ∃ z : Str, al = .str z ∧ inAlph z ∧ ((wh = 0 ∧ ∀ H', Ex H H' → Q .non H') ∨ ∃ (a : Addr) (p : Int) (s : Bg), (wh = 1 ∨ wh = 2) ∧ th = .ref a ∧ BagAt Cs H a p s ∧ s.length ≤ 6 ∧ (∀ u ∈ keys s, u.length ≤ 10) ∧
    ((¬ ∀ u ∈ keys s, OverS z u) → ∀ r H', Ex H H' → H' r = some (.tup (flagsV 1)) → Q (.ref r) H') ∧ ((∀ u ∈ keys s, OverS z u) → (wh = 1 → ∀ H', Ex H H' → Q .non H') ∧ (wh = 2 → ∃ b, SizeIs K H sz b ∧ (b = false → ∀ r H', Ex H H' → H' r = some (.tup (flagsV 2)) → Q (.ref r) H') ∧ (b = true → ∀ H', Ex H H' → Q .non H')))))
def outZ (z y : Str) : Bool := decide (¬ ∀ c ∈ y.cps.toList, c ∈ z.cps.toList)
/-- the letters of a bag that an alphabet has not -/
theorem out_letters {z : Str} {s : Bg} {ss : List Str} (h : ∀ y, y ∈ ss ↔ ∃ u ∈ keys s, ∃ ch ∈ u.cps.toList, y = ⟨#[ch]⟩) : (ss.filter (outZ z)).length = 0 ↔ ∀ u ∈ keys s, OverS z u := by
  rw [List.length_eq_zero_iff, List.filter_eq_nil_iff]
  constructor
  · intro q u hu c hc
    have h1 := q _ ((h ⟨#[c]⟩).mpr ⟨u, hu, c, hc, rfl⟩)
    unfold outZ at h1
    have h2 := Classical.not_not.mp (fun w => h1 (decide_eq_true w))
    exact h2 c List.mem_cons_self
  · intro q y hy w
    obtain ⟨u, hu, ch, hch, rfl⟩ := (h y).mp hy
    refine of_decide_eq_true w fun c hc => ?_
    rw [List.mem_singleton.mp hc]
    exact q u hu ch hch
theorem ok_law_due {f : Addr} {fd : FuncData} (F : Fun K "_law_due" "_law_due" s_law_due f fd) (T : Txt K mg C_Bag Cs) (D_law_letters_of : DefOk P w K mg base CX0 2 "_law_letters_of" ["_law_bag"] (sp_letters Cs)) : FnOk P w K mg base CX0 4 f fd ["_law_which", "_law_alphabet_here", "_law_thing_here", "_law_size"] (sp_due72 K Cs) := by
  refine F.ok sc_law_due (fun vs H Q E h => ?_) (fun cdv A outer s H vs Q E hr h => ?_)
  · obtain ⟨wh, al, th, sz, rfl, _⟩ := h
    rfl
  · obtain ⟨wh, al, th, sz, rfl, h⟩ := h
    have hu := hu_of hr; have hu64 := L2.Room.units hr; refine ⟨_, (pss_cons (ps_if (PW.pt (pw_or (pt_not (pt_val (pe_callB (r := rIsiG K) call_isiG (by rfl) T.b_isinstance (by decide +kernel) (pa_cons (pv 1) (pa_cons (pe_bltn (v := .ty "str") rfl T.b_str (by decide +kernel) rfl) pa_nil))))) (pw_or1 (pt_cmpR op_notIn_seq (pv 1) (pe_lst (pa_cons pe_str (pa_cons pe_str pa_nil))) (by rfl))))) (pss_one (ps_ret (pe_tup (pa_cons pe_bl (pa_cons pe_bl (pa_cons pe_bl (pa_cons pe_bl pa_nil))))))) pss_nil) (pss_cons (ps_if (pt_cmpR op_eq (pv 0) pe_int (nomark _)) (pss_one (ps_ret pe_non)) pss_nil) (pss_cons (ps_if (pt_cmpR op_gt (pe_callB call_len_seq (by rfl) T.b_len (by decide +kernel) (pa_cons (pe_lc (own := [("_law_letter", 4)]) (g := (gName 4)) rfl sc_law_due.nd (pi_list (pe_callD D_law_letters_of (hr.mono (by decide)) rfl pass0 (pa_cons (pv 2) pa_nil))) (blkOk_by (N := N_law_due) (sc := defScope s_law_due) (by decide +kernel)) (fun _ _ _ _ _ => (pg_name (i := 4) sc_law_due.nd rfl (by first | exact Or.inl rfl | exact Or.inr rfl))) (fun _ _ _ _ _ => (pts_one (pt_cmpR op_notIn_sign (pv 4) (pv 1) (by rfl)))) (fun _ _ _ _ _ => (pv 4))) pa_nil)) pe_int (nomark _)) (pss_one (ps_ret (pe_tup (pa_cons pe_bl (pa_cons pe_bl (pa_cons pe_bl (pa_cons pe_bl pa_nil))))))) pss_nil) (pss_cons (ps_if (PW.pt (pw_and (pt_cmpR op_eq (pv 0) pe_int (nomark _)) (pw_and1 (PW.pt (pw_or (pt_not (pt_val (pe_callB (r := rIsiG K) call_isiG (by rfl) T.b_isinstance (by decide +kernel) (pa_cons (pv 3) (pa_cons (pe_bltn (v := .ty "int") rfl T.b_int (by decide +kernel) rfl) pa_nil))))) (pw_or (pt_val (pe_callB (r := rIsiG K) call_isiG (by rfl) T.b_isinstance (by decide +kernel) (pa_cons (pv 3) (pa_cons (pe_bltn (v := .ty "bool") rfl T.b_bool (by decide +kernel) rfl) pa_nil)))) (pw_or (pt_cmpR op_lt (pv 3) pe_int (nomark _)) (pw_or1 (pt_cmpR op_gt (pv 3) pe_int (nomark _)))))))))) (pss_one (ps_ret (pe_tup (pa_cons pe_bl (pa_cons pe_bl (pa_cons pe_bl (pa_cons pe_bl pa_nil))))))) pss_nil) (pss_one (ps_ret pe_non)))))), ?_⟩; rw [st_law_due]; (try dsimp only [cxOf]); walk_at "go"
    rcases h with ⟨⟨z, rfl, hzl, hz⟩ | ⟨t, ht, hk⟩, k⟩ | ⟨z, rfl, hz, h⟩
    · refine g_isG (b := true) (.ty "str") (.inl (.base (.str z))) (kit_ty (by decide +kernel)) ?_
      walk_at "go"
      refine ⟨Nat.le_of_ble_eq_true rfl, fun l hl => ?_⟩
      refine ⟨l, _, rfl, .inl (SqL.of upd_same), rfl, rfl, ?_⟩
      rw [if_pos rfl, inV_two, decide_eq_false (show ¬ (z = Str.ofString "xy" ∨ z = Str.ofString "xyz") from hz)]
      walk_at "go"
      exact ⟨Nat.le_of_ble_eq_true rfl, fun r hr => k r _ ((Ex.new hl).trans (Ex.new hr)) upd_same⟩
    · refine g_isG (.ty "str") ht hk ?_
      walk_at "go"
      exact ⟨Nat.le_of_ble_eq_true rfl, fun r hr => k r _ (Ex.new hr) upd_same⟩
    · refine g_isG (b := true) (.ty "str") (.inl (.base (.str z))) (kit_ty (by decide +kernel)) ?_
      walk_at "go"
      refine ⟨Nat.le_of_ble_eq_true rfl, fun l hl => ?_⟩
      refine ⟨l, _, rfl, .inl (SqL.of upd_same), rfl, rfl, ?_⟩
      rw [if_pos rfl, inV_two, decide_eq_true (show z = Str.ofString "xy" ∨ z = Str.ofString "xyz" from hz)]
      have e1 : Ex H _ := Ex.new (o := .lst [.str "xy", .str "xyz"]) hl
      change _ ∧ _ ∨ _ at h
      generalize upd H l (.lst [.str "xy", .str "xyz"]) = H1 at e1 ⊢
      walk_at "go"
      rcases h with ⟨rfl, k⟩ | ⟨a, p, t, hwh, rfl, ha, hn, hl', k1, k2⟩
      · rw [decide_eq_true (rfl : V.int 0 = V.int 0)]
        walk_at "go"
        exact k H1 e1
      have hw0 : ¬ V.int wh = V.int 0 := fun q => by
        have := V.int.inj q
        omega
      rw [decide_eq_false hw0]
      walk_at "go"
      refine ⟨a, p, t, rfl, ha.ex' e1, hn, hl', fun r ss H2 e2 hrl hss hm => ?_⟩
      walk_at "go"
      refine ⟨⟨_, SqL.of hrl⟩, ?_⟩
      refine lc_relF walk_list ss (outZ z) (by rw [List.length_map]) (by rw [List.length_map]; exact line5 (by omega)) (fun H' e => SqL.of (e _ _ hrl)) (fun _ _ _ => True) (fun _ _ _ _ _ _ => trivial) (fun _ => rfl) ?_ ?_
      · rintro i x' y H3 H3' Kc N hi e3 ⟨rfl, hx'⟩ hy hk hN
        rw [List.getElem?_map, hy] at hx'
        obtain rfl := (Option.some.inj hx').symm
        obtain ⟨u, hu9, ch, hch, rfl⟩ := (hm y).mp (List.mem_of_getElem? hy)
        walk_at "go"
        refine ⟨ch, z, rfl, rfl, ?_⟩
        by_cases hc : ch ∈ z.cps.toList
        · rw [decide_eq_true hc]
          walk_at "go"
          refine hN ?_ _ (Ex.refl _)
          unfold outZ
          exact decide_eq_false fun q => q fun c hc' => by rw [List.mem_singleton.mp hc']; exact hc
        · rw [decide_eq_false hc]
          walk_at "go"
          refine hk ?_ _ _ (Ex.refl _) trivial
          unfold outZ
          exact decide_eq_true fun q => hc (q ch List.mem_cons_self)
      · intro D H3 ys hD e3 hl3 hp3
        walk_at "go"
        refine ⟨D, ys, rfl, .inl (SqL.of hl3), ?_⟩
        walk_at "go"
        have hlen := hp3.length
        have e13 := (e1.trans e2).trans e3
        by_cases ho : ∀ u ∈ keys t, OverS z u
        · have h0 : ys.length = 0 := hlen.trans ((out_letters hm).mpr ho)
          rw [h0, decide_eq_false (by decide)]
          walk_at "go"
          obtain ⟨k3, k4⟩ := k2 ho
          rcases hwh with rfl | rfl
          · rw [decide_eq_false (fun e => by cases V.int.inj e)]
            walk_at "go"
            exact k3 rfl H3 e13
          · rw [decide_eq_true (rfl : V.int 2 = V.int 2)]
            walk_at "go"
            obtain ⟨b, hb, k5, k6⟩ := k4 rfl
            have fin : b = false → ∀ q, H3 q = none → Q (.ref q) (upd H3 q (.tup [.bl false, .bl false, .bl true, .bl true])) := fun hf q hq => k5 hf q _ (e13.trans (Ex.new hq)) upd_same
            rcases hb with ⟨i, rfl, rfl⟩ | ⟨c, rfl, rfl⟩ | ⟨rfl, hb⟩
            · refine g_isG (b := true) (.ty "int") (.inl (.base (.int i))) (kit_ty (by decide +kernel)) ?_
              walk_at "go"
              refine g_isG (b := false) (.ty "bool") (.inl (.base (.int i))) (kit_ty (by decide +kernel)) ?_
              walk_at "go"
              by_cases i0 : i < 0
              · rw [decide_eq_true i0]
                walk_at "go"
                exact ⟨Nat.le_of_ble_eq_true rfl, fin (by rw [decide_eq_false (by omega)]; rfl)⟩
              · rw [decide_eq_false i0]
                walk_at "go"
                by_cases i1 : 12 < i
                · rw [decide_eq_true i1]
                  walk_at "go"
                  exact ⟨Nat.le_of_ble_eq_true rfl, fin (by rw [decide_eq_false (show ¬ i ≤ 12 by omega), Bool.and_false])⟩
                · rw [decide_eq_false i1]
                  walk_at "go"
                  exact k6 (by rw [decide_eq_true (by omega), decide_eq_true (by omega)]; rfl) H3 e13
            · refine g_isG (b := true) (.ty "int") (.inl (.base (.bl c))) (kit_ty (by decide +kernel)) ?_
              walk_at "go"
              refine g_isG (b := true) (.ty "bool") (.inl (.base (.bl c))) (kit_ty (by decide +kernel)) ?_
              walk_at "go"
              exact ⟨Nat.le_of_ble_eq_true rfl, fin rfl⟩
            · obtain ⟨ty, h1, h2⟩ := hb H3 e13
              refine g_isG (.ty "int") (.inl h1) h2 ?_
              walk_at "go"
              exact ⟨Nat.le_of_ble_eq_true rfl, fin rfl⟩
        · have h0 : 0 < ys.length := by
            rcases Nat.eq_zero_or_pos ys.length with q | q
            · exact absurd ((out_letters hm).mp (hlen.symm.trans q)) ho
            · exact q
          rw [decide_eq_true (by omega)]
          walk_at "go"
          exact ⟨Nat.le_of_ble_eq_true rfl, fun q hq => k1 ho q _ (e13.trans (Ex.new hq)) upd_same⟩

end
end Fp

namespace Fp
open PySem L2
section
variable {P : Program} {w : World} {K : PySem.W.Frag} {mg : Str → Option Value} {base : Heap} {C_Bag : Addr} {Cs : Addr → Prop}
local macro_rules | `(tactic| walk_at "hp") => `(tactic| first | assumption | rfl)
local macro_rules | `(tactic| walk_at "cond") => `(tactic| first | assumption | decide | omega | (unfold CMul; omega) | (refine ⟨?_, ?_⟩ <;> omega) | (unfold CDiv; omega) | (unfold CPow; omega))
local macro_rules | `(tactic| walk_at "g1") => `(tactic| first
  | with_reducible first
    | refine g_seq ?_ | refine g_asg ?_ | refine g_name ?_ | refine g_ret ?_ | refine g_retN ?_ | refine g_drop ?_ | refine g_ifs ?_
    | refine g_c ?_ | refine g_op ?_ | refine g_un ?_ | refine g_I0 ?_ | refine g_U ?_
    | refine g_test ?_ | refine g_tB ?_ | refine g_bl ?_ | refine g_and ?_ | refine g_or ?_ | refine g_not ?_
    | refine g_andV ?_ | refine g_orV ?_ | refine g_notV ?_ | refine g_if ?_ | refine g_nil ?_ | refine g_cons ?_ | refine g_cb ?_ | refine g_call ?_
    | refine g_lst ?_ | refine g_tup ?_ | refine g_itT ?_ | refine g_itF ?_ | refine g_itNT ?_ | refine g_itNF ?_ | refine g_lc ?_ | refine g_iStr ?_ | refine g_yes ?_ | refine g_exs ?_
    | refine g_chain ?_ | refine g_dget ?_ | refine g_dput ?_ | refine g_dget2 ?_ | refine g_dpop2 ?_ | refine g_fld ?_ | refine g_sfld ?_ | refine g_make ?_ | refine g_meth ?_
    | refine g_bm ?_ | refine g_kw ?_ | refine g_callS ?_ | refine g_revL ?_ | refine g_m1 ?_ | refine g_gsub ?_ | refine g_for ?_ | refine g_iList ?_ | refine g_iTup ?_ | refine g_iRng1 ?_ | refine g_iRng2 ?_ | refine g_sl ?_ | refine g_part ?_ | refine g_noPart ?_
    | refine g_exi ?_ | refine g_exr ?_ | refine g_dnew ?_ | refine g_disp ?_ | refine g_prs0 ?_ | refine g_prs ?_ | refine g_nxt ?_
  | ((with_reducible refine g_var (v := ?vv) ?gv ?_); (case gv => exact rfl))
  | ((with_reducible refine g_I ?gc ?_); (case gc => walk_at "cond"))
  | ((with_reducible refine g_eq ?ge ?_); (case ge => exact rfl))
  | ((with_reducible refine g_ne ?ge ?_); (case ge => exact rfl))
  | (refine g_ixl (SqL.of (by first | assumption | exact upd_same)) rfl ?_)
  | (refine g_setl (by first | assumption | exact upd_same) rfl ?_)
  | ((with_reducible show (∃ i, [V.int _] = [V.int i] ∧ _) ∨ _); refine Or.inl ⟨_, rfl, ?_⟩)
  | ((with_reducible show ∃ i, [V.int _] = [V.int i] ∧ _); refine ⟨_, rfl, ?_⟩)
  | dsimp only)
local macro_rules | `(tactic| walk_at "go") => `(tactic| repeat (walk_at "g1"))

local macro_rules | `(tactic| walk_at "ex") => `(tactic| first
  | assumption
  | exact Ex.refl _
  | (refine Ex.trans ?_ (by assumption); walk_at "ex")
  | (refine BagAt.ex' (by assumption) ?_; walk_at "ex")
  | (refine TapeAt.ex' (by assumption) ?_; walk_at "ex")
  | (refine Ex.at' (by assumption) ?_; walk_at "ex")
  | (refine SqL.of ?_; walk_at "ex")
  | (refine SqT.of ?_; walk_at "ex")
  | (refine Or.inl ?_; walk_at "ex")
  | (refine tape_dk (by assumption) (by assumption) ?_; walk_at "ex"))

/-! ### one question -/
theorem SizeIs.ex' {H H' : Hp} {x : V} {b : Bool} (e : Ex H H') (h : SizeIs K H x b) : SizeIs K H' x b := h.imp id fun h => h.imp id fun ⟨h1, h2⟩ => ⟨h1, fun H2 e2 => h2 H2 (e.trans e2)⟩
/-- the thing of a question -/
def ThQ (K : PySem.W.Frag) (C_Bag : Addr) (Cs : Addr → Prop) (h : Addr) (wh : Int) (th : V) (H : Hp) : Prop := (∃ a p s, th = .ref a ∧ BagAt Cs H a p s ∧ Clk p ∧ Lot p s 5 4) ∨ (wh = 0 ∧ ∀ H', ExB h H H' → NoBagG K C_Bag H' th)
theorem BagAt.exh {H H' : Hp} {h a : Addr} {p : Int} {s : Bg} {xs : List V} (e : ExB h H H') (hh : H h = some (.lst xs)) (b : BagAt Cs H a p s) : BagAt Cs H' a p s := by
  obtain ⟨C, dx, d, k, t, h0, h1, h2, h3⟩ := b.ex
  obtain ⟨qs, o, w1, w2, w3⟩ := h3
  exact ⟨C, dx, d, k, t, h0, e _ _ (ne_of h1 hh (fun z => nomatch z)) h1, e _ _ (ne_of h2 hh (fun z => nomatch z)) h2, qs, o, e _ _ (ne_of w1 hh (fun z => nomatch z)) w1, w2, Paired.mapP w3 fun _ _ z => e _ _ (ne_of z hh (fun z => nomatch z)) z⟩
theorem ThQ.exb {C_Bag h : Addr} {wh : Int} {th : V} {H H' : Hp} {xs : List V} (hh : H h = some (.lst xs)) (e : ExB h H H') (t : ThQ K C_Bag Cs h wh th H) : ThQ K C_Bag Cs h wh th H' :=
  t.imp (fun ⟨a, p, s, h1, h2, h3⟩ => ⟨a, p, s, h1, h2.exh e hh, h3⟩) fun ⟨h1, h2⟩ => ⟨h1, fun H2 e2 => h2 H2 (e.trans e2)⟩
theorem Lot.two {p : Int} {s : Bg} {a b : Nat} (l : Lot 2 s a b) (hp : 2 ≤ p) : Lot p s a b := ⟨l.g.up hp, l.n, l.l⟩
def sp_question : Sp := fun vs H Q _ => ∃ (h c : Addr), vs = [.ref h] ∧ TapeAt H h c ∧ ∀ H', ExB h H H' → TapeAt H' h c → Q (.bl true) H'
theorem pss_imp {X : L2.Cx} {ss : List Stmt} {t t' : TS} (h : PSs X ss t) (w : ∀ D σ H, t' D σ H → t D σ H) : PSs X ss t' := ⟨fun pins s σ H D I q => h.run pins s σ H D I (w D σ H q)⟩
abbrev bodyX (P : Program) (w : World) (K : PySem.W.Frag) (mg : Str → Option Value) (base : Heap) (N : List Str) (qual : Str) (st : Stmt) (f : Addr) (cdv : Value) (A : Around) (outer : List Env) (s0 : Shared) (H0 : Hp) (E : XK) : L2.Cx := (cxOf CX0 P w K mg base N qual (defScope st) f cdv A outer s0 H0 E).nox
abbrev bodyA (qual : Str) (st : Stmt) (f : Addr) (cdv : Value) (A : Around) (s0 : Shared) : Around := A.deeper (PyProof.Rows.envOfC qual (defScope st) s0.heap.objs.size f cdv)
def RQ0 : TS := fun D σ H => ∃ (h c : Addr), σ = [some (.ref h), none, none, none, none, none, none, none, none, none, none] ∧ TapeAt H h c ∧ ∀ H', ExB h H H' → TapeAt H' h c → D.rt (.bl true) H'
def RQ1 (K : PySem.W.Frag) (C_Bag : Addr) (Cs : Addr → Prop) : TS := fun D σ H => ∃ (h c : Addr) (wh : Int) (al th : V), σ = [some (.ref h), some (.int wh), some al, some th, none, none, none, none, none, none, none] ∧ TapeAt H h c ∧ 0 ≤ wh ∧ wh < 3 ∧ AlV K h H al ∧ ThQ K C_Bag Cs h wh th H ∧ ∀ H', ExB h H H' → TapeAt H' h c → D.rt (.bl true) H'
def RQ2 (K : PySem.W.Frag) (C_Bag : Addr) (Cs : Addr → Prop) : TS := fun D σ H => ∃ (h c : Addr) (wh : Int) (al th sz : V) (b : Bool) (x4 : Option V), σ = [some (.ref h), some (.int wh), some al, some th, x4, some sz, none, none, none, none, none] ∧ TapeAt H h c ∧ 0 ≤ wh ∧ wh < 3 ∧ AlV K h H al ∧ ThQ K C_Bag Cs h wh th H ∧ SizeIs K H sz b ∧ ∀ H', ExB h H H' → TapeAt H' h c → D.rt (.bl true) H'
theorem quest_a {f : Addr} {cdv : Value} {A : Around} {outer : List Env} {s0 : Shared} {H0 : Hp} {E : XK} (hr : Room 17 (bodyA "_law_question" s_law_question f cdv A s0)) (T : Txt K mg C_Bag Cs) (D_law_draw : DefOk P w K mg base CX0 1 "_law_draw" ["_law_tape_here", "_law_many"] sp_tp_draw) (D_law_clock : DefOk P w K mg base CX0 2 "_law_clock" ["_law_tape_here"] sp_tp_clock) (D_law_some : DefOk P w K mg base CX0 3 "_law_some" ["_law_tape_here", "_law_clock_here", "_law_letters", "_law_most", "_law_many"] sp_tp_some) (D_mk_Bag : MkOk P w K mg base CX0 6 "Bag" C_Bag ["self", "clock", "words"] (sp_bag_init C_Bag Cs)) (D_law_alphabet : DefOk P w K mg base CX0 8 "_law_alphabet" ["_law_tape_here"] (sp_al K)) (D_law_thing : DefOk P w K mg base CX0 3 "_law_thing" ["_law_tape_here"] (sp_thing K C_Bag)) (next : PSs (bodyX P w K mg base N_law_question "_law_question" s_law_question f cdv A outer s0 H0 E) ((defBody s_law_question).drop 4) (RQ1 K C_Bag Cs)) : PSs (bodyX P w K mg base N_law_question "_law_question" s_law_question f cdv A outer s0 H0 E) ((defBody s_law_question).drop 0) RQ0 := by
  have hu := hu_of hr
  have hu64 := L2.Room.units hr
  refine pss_imp (pss_cons (ps_set (i := 1) sc_law_question.nd rfl (by first | exact Or.inl rfl | exact Or.inr rfl) (pe_callD D_law_draw (hr.mono (by decide)) rfl pass0 (pa_cons (pv 0) (pa_cons pe_int pa_nil)))) (pss_cons (ps_set (i := 2) sc_law_question.nd rfl (by first | exact Or.inl rfl | exact Or.inr rfl) (pe_callD D_law_alphabet (hr.mono (by decide)) rfl pass0 (pa_cons (pv 0) pa_nil))) (pss_cons (ps_set (i := 3) sc_law_question.nd rfl (by first | exact Or.inl rfl | exact Or.inr rfl) (pe_mkD D_mk_Bag (hr.mono (by decide)) rfl pass0 (pa_cons (pe_callD D_law_clock (hr.mono (by decide)) rfl pass0 (pa_cons (pv 0) pa_nil)) (pa_cons (pe_callD D_law_some (hr.mono (by decide)) rfl pass0 (pa_cons (pv 0) (pa_cons pe_int (pa_cons (pe_slice sl_str pe_str po_none (po_some (pe_op op_add pe_int (pe_callD D_law_draw (hr.mono (by decide)) rfl pass0 (pa_cons (pv 0) (pa_cons pe_int pa_nil)))))) (pa_cons pe_int (pa_cons pe_int pa_nil)))))) pa_nil)))) (pss_cons (ps_if (PW.pt (pw_and (pt_cmpR op_eq (pv 1) pe_int (nomark _)) (pw_and1 (pt_cmpR op_eq (pe_callD D_law_draw (hr.mono (by decide)) rfl pass0 (pa_cons (pv 0) (pa_cons pe_int pa_nil))) pe_int (nomark _))))) (pss_one (ps_set (i := 3) sc_law_question.nd rfl (by first | exact Or.inl rfl | exact Or.inr rfl) (pe_callD D_law_thing (hr.mono (by decide)) rfl pass0 (pa_cons (pv 0) pa_nil)))) pss_nil) next)))) ?_
  rintro D σ H ⟨h, c, rfl, hh, k⟩
  (try dsimp only [bodyX, cxOf])
  walk_at "go"
  refine ⟨h, c, 3, rfl, hh, by decide, by decide, fun wh H1 hw0 hw1 e1 hh1 => ?_⟩
  walk_at "go"
  refine ⟨h, c, rfl, hh1, fun al H2 e2 hh2 hal => ?_⟩
  walk_at "go"
  refine ⟨h, c, rfl, hh2, fun p H3 hp e3 hh3 => ?_⟩
  have hp : Clk p := hp
  have hp2 := hp.lo
  walk_at "go"
  refine ⟨h, c, 2, rfl, hh3, by decide, by decide, fun v4 H4 hv0 hv1 e4 hh4 => ?_⟩
  walk_at "go"
  obtain ⟨z', hz1, hz2, hz3, hz4⟩ : ∃ z' : Str, cutS (Str.ofString "xyz") none (some (2 + v4)) = z' ∧ 0 < z'.length ∧ z'.length ≤ 100 ∧ isW z' = true := by
    obtain ⟨i, hi, rfl⟩ : ∃ i : Nat, i < 2 ∧ v4 = i := ⟨v4.toNat, by omega, by omega⟩
    match i, hi with
    | 0, _ => exact ⟨_, rfl, by decide +kernel, by decide +kernel, by decide +kernel⟩
    | 1, _ => exact ⟨_, rfl, by decide +kernel, by decide +kernel, by decide +kernel⟩
  refine ⟨_, rfl, Nat.le_of_ble_eq_true rfl, ?_⟩
  rw [hz1]
  walk_at "go"
  refine ⟨h, c, 2, z', 4, 5, rfl, hh4, by decide, by decide, hz2, hz3, hz4, by decide, by decide, fun d s H5 e5 hd hs l hh5 => ?_⟩
  walk_at "go"
  have L := l.l.two hp2
  refine g_mkBag hp hs (L.mono (by decide) (by decide)) fun x H6 e6 hx6 b6 => ?_
  have hh6 := hh5.ex' e6
  have e26 : ExB h H2 H6 := ((e3.trans e4).trans e5).trans e6.exb
  have e06 : ExB h H H6 := (e1.trans e2).trans e26
  have hal6 := hal.exb e26
  clear hs hd hh5 e6 e5 e4 e3 hal e26 hh1 hh2 hh3 hh4
  walk_at "go"
  have out : ∀ H', ExB h H6 H' → TapeAt H' h c → D.rt (.bl true) H' := fun H' e t => k H' (e06.trans e) t
  have th6 : ThQ K C_Bag Cs h wh (.ref x) H6 := .inl ⟨x, p, s, rfl, b6, hp, L⟩
  by_cases hw : wh = 0
  · rw [decide_eq_true (by rw [hw])]
    walk_at "go"
    refine ⟨h, c, 2, rfl, hh6, by decide, by decide, fun v7 H7 hv70 hv71 e7 hh7 => ?_⟩
    walk_at "go"
    have out7 : ∀ H', ExB h H7 H' → TapeAt H' h c → D.rt (.bl true) H' := fun H' e t => out H' (e7.trans e) t
    by_cases h7 : v7 = 0
    · rw [decide_eq_true (by rw [h7])]
      walk_at "go"
      refine ⟨h, c, rfl, hh7, fun v8 H8 e8 hh8 hv8 => ?_⟩
      walk_at "go"
      exact ⟨h, c, wh, al, v8, rfl, hh8, hw0, hw1, hal6.exb (e7.trans e8), .inr ⟨hw, hv8⟩, fun H' e t => out7 H' (e8.trans e) t⟩
    · rw [decide_eq_false (fun e => h7 (V.int.inj e))]
      walk_at "go"
      exact ⟨h, c, wh, al, .ref x, rfl, hh7, hw0, hw1, hal6.exb e7, th6.exb hh6.kind.choose_spec e7, out7⟩
  · rw [decide_eq_false (fun e => hw (V.int.inj e))]
    walk_at "go"
    exact ⟨h, c, wh, al, .ref x, rfl, hh6, hw0, hw1, hal6, th6, out⟩

end
end Fp

namespace Fp
open PySem L2
section
variable {P : Program} {w : World} {K : PySem.W.Frag} {mg : Str → Option Value} {base : Heap} {C_Bag : Addr} {Cs : Addr → Prop}
local macro_rules | `(tactic| walk_at "hp") => `(tactic| first | assumption | rfl)
local macro_rules | `(tactic| walk_at "cond") => `(tactic| first | assumption | decide | omega | (unfold CMul; omega) | (refine ⟨?_, ?_⟩ <;> omega) | (unfold CDiv; omega) | (unfold CPow; omega))
local macro_rules | `(tactic| walk_at "g1") => `(tactic| first
  | with_reducible first
    | refine g_seq ?_ | refine g_asg ?_ | refine g_name ?_ | refine g_ret ?_ | refine g_retN ?_ | refine g_drop ?_ | refine g_ifs ?_
    | refine g_c ?_ | refine g_op ?_ | refine g_un ?_ | refine g_I0 ?_ | refine g_U ?_
    | refine g_test ?_ | refine g_tB ?_ | refine g_bl ?_ | refine g_and ?_ | refine g_or ?_ | refine g_not ?_
    | refine g_andV ?_ | refine g_orV ?_ | refine g_notV ?_ | refine g_if ?_ | refine g_nil ?_ | refine g_cons ?_ | refine g_cb ?_ | refine g_call ?_
    | refine g_lst ?_ | refine g_tup ?_ | refine g_itT ?_ | refine g_itF ?_ | refine g_itNT ?_ | refine g_itNF ?_ | refine g_lc ?_ | refine g_iStr ?_ | refine g_yes ?_ | refine g_exs ?_
    | refine g_chain ?_ | refine g_dget ?_ | refine g_dput ?_ | refine g_dget2 ?_ | refine g_dpop2 ?_ | refine g_fld ?_ | refine g_sfld ?_ | refine g_make ?_ | refine g_meth ?_
    | refine g_bm ?_ | refine g_kw ?_ | refine g_callS ?_ | refine g_revL ?_ | refine g_m1 ?_ | refine g_gsub ?_ | refine g_for ?_ | refine g_iList ?_ | refine g_iTup ?_ | refine g_iRng1 ?_ | refine g_iRng2 ?_ | refine g_sl ?_ | refine g_part ?_ | refine g_noPart ?_
    | refine g_exi ?_ | refine g_exr ?_ | refine g_dnew ?_ | refine g_disp ?_ | refine g_prs0 ?_ | refine g_prs ?_ | refine g_nxt ?_
  | ((with_reducible refine g_var (v := ?vv) ?gv ?_); (case gv => exact rfl))
  | ((with_reducible refine g_I ?gc ?_); (case gc => walk_at "cond"))
  | ((with_reducible refine g_eq ?ge ?_); (case ge => exact rfl))
  | ((with_reducible refine g_ne ?ge ?_); (case ge => exact rfl))
  | (refine g_ixl (SqL.of (by first | assumption | exact upd_same)) rfl ?_)
  | (refine g_setl (by first | assumption | exact upd_same) rfl ?_)
  | ((with_reducible show (∃ i, [V.int _] = [V.int i] ∧ _) ∨ _); refine Or.inl ⟨_, rfl, ?_⟩)
  | ((with_reducible show ∃ i, [V.int _] = [V.int i] ∧ _); refine ⟨_, rfl, ?_⟩)
  | dsimp only)
local macro_rules | `(tactic| walk_at "go") => `(tactic| repeat (walk_at "g1"))

local macro_rules | `(tactic| walk_at "ex") => `(tactic| first
  | assumption
  | exact Ex.refl _
  | (refine Ex.trans ?_ (by assumption); walk_at "ex")
  | (refine BagAt.ex' (by assumption) ?_; walk_at "ex")
  | (refine TapeAt.ex' (by assumption) ?_; walk_at "ex")
  | (refine Ex.at' (by assumption) ?_; walk_at "ex")
  | (refine SqL.of ?_; walk_at "ex")
  | (refine SqT.of ?_; walk_at "ex")
  | (refine Or.inl ?_; walk_at "ex")
  | (refine tape_dk (by assumption) (by assumption) ?_; walk_at "ex"))

/-! ### one question: the number of letters -/
def szA (p1 p2 : Addr) : List V := [.int (-1), .int 13, .bl true, .bl false, .non, .str "3", .ref p1, .int (10 ^ Int.toNat 30), .int (-10 ^ Int.toNat 30), .ref p2]
theorem quest_b {f : Addr} {cdv : Value} {A : Around} {outer : List Env} {s0 : Shared} {H0 : Hp} {E : XK} (hr : Room 17 (bodyA "_law_question" s_law_question f cdv A s0)) (T : Txt K mg C_Bag Cs) (D_law_draw : DefOk P w K mg base CX0 1 "_law_draw" ["_law_tape_here", "_law_many"] sp_tp_draw) (next : PSs (bodyX P w K mg base N_law_question "_law_question" s_law_question f cdv A outer s0 H0 E) ((defBody s_law_question).drop 6) (RQ2 K C_Bag Cs)) : PSs (bodyX P w K mg base N_law_question "_law_question" s_law_question f cdv A outer s0 H0 E) ((defBody s_law_question).drop 4) (RQ1 K C_Bag Cs) := by
  have hu := hu_of hr
  have hu64 := L2.Room.units hr
  refine pss_imp (pss_cons (ps_set (i := 4) sc_law_question.nd rfl (by first | exact Or.inl rfl | exact Or.inr rfl) (pe_lst (pa_cons (pe_un un_neg pe_int) (pa_cons pe_int (pa_cons pe_bl (pa_cons pe_bl (pa_cons pe_non (pa_cons pe_str (pa_cons (pe_tup (pa_cons pe_int pa_nil)) (pa_cons (pe_op op_pow pe_int pe_int) (pa_cons (pe_un un_neg (pe_op op_pow pe_int pe_int)) (pa_cons (pe_lst (pa_cons pe_int pa_nil)) pa_nil)))))))))))) (pss_cons (ps_set (i := 5) sc_law_question.nd rfl (by first | exact Or.inl rfl | exact Or.inr rfl) (pe_ifExp (pt_cmpR op_eq (pe_callD D_law_draw (hr.mono (by decide)) rfl pass0 (pa_cons (pv 0) (pa_cons pe_int pa_nil))) pe_int (nomark _)) (pe_ix (r := rIxL K) ix_list (pv 4) (pe_callD D_law_draw (hr.mono (by decide)) rfl pass0 (pa_cons (pv 0) (pa_cons pe_int pa_nil))) (fun _ _ => rfl)) (pe_callD D_law_draw (hr.mono (by decide)) rfl pass0 (pa_cons (pv 0) (pa_cons pe_int pa_nil))))) next)) ?_
  rintro D σ H ⟨h, c, wh, al, th, rfl, hh, hw0, hw1, hal, hth, k⟩
  (try dsimp only [bodyX, cxOf])
  walk_at "go"
  refine ⟨Nat.le_of_ble_eq_true rfl, fun p1 hp1 => ?_⟩
  have a1 := upd_same (H := H) (a := p1) (o := .tup [.int 3])
  have e1 : Ex H _ := Ex.new (o := .tup [.int 3]) hp1
  generalize upd H p1 (.tup [.int 3]) = H1 at a1 e1 ⊢
  walk_at "go"
  refine ⟨Nat.le_of_ble_eq_true rfl, fun p2 hp2 => ?_⟩
  have a2 := upd_same (H := H1) (a := p2) (o := .lst [.int 3])
  have e2 : Ex H1 _ := Ex.new (o := .lst [.int 3]) hp2
  generalize upd H1 p2 (.lst [.int 3]) = H2 at a2 e2 ⊢
  walk_at "go"
  refine ⟨Nat.le_of_ble_eq_true rfl, fun l3 hl3 => ?_⟩
  have a3 := upd_same (H := H2) (a := l3) (o := .lst (szA p1 p2))
  have e3 : Ex H2 _ := Ex.new (o := .lst (szA p1 p2)) hl3
  change gName 4 (V.ref l3) _ (upd H2 l3 (.lst (szA p1 p2))) _
  generalize upd H2 l3 (.lst (szA p1 p2)) = H3 at a3 e3 ⊢
  have e13 := (e1.trans e2).trans e3
  have hh3 := hh.ex' e13
  have n1 := (hh.new hp1).1
  have n2 := (hh.new (e1.free hp2)).1
  have n3 := (hh.new (e1.free (e2.free hl3))).1
  have hal3 := hal.exb e13.exb
  have hth3 : ThQ K C_Bag Cs h wh th H3 := hth.exb hh.kind.choose_spec e13.exb
  have k3 : ∀ H', ExB h H3 H' → TapeAt H' h c → D.rt (.bl true) H' := fun H' e t => k H' (e13.exb.trans e) t
  have b1 := e3 _ _ (e2 _ _ a1)
  have b2 := e3 _ _ a2
  clear hal hth k hh a1 a2 e1 e2 e3 e13
  walk_at "go"
  refine ⟨h, c, 2, rfl, hh3, by decide, by decide, fun v H4 hv0 hv1 e4 hh4 => ?_⟩
  walk_at "go"
  by_cases h0 : v = 0
  · rw [decide_eq_true (by rw [h0])]
    walk_at "go"
    refine ⟨h, c, 10, rfl, hh4, by decide, by decide, fun q H5 hq0 hq1 e5 hh5 => ?_⟩
    have e45 := e4.trans e5
    obtain ⟨v', hv'⟩ : ∃ v', (szA p1 p2)[q.toNat]? = some v' := ⟨_, List.getElem?_eq_getElem (by show q.toNat < 10; omega)⟩
    refine g_ixl (SqL.of (e45 _ _ n3 a3)) (atI_get hq0 hv') ?_
    obtain ⟨b, hb⟩ : ∃ b, SizeIs K H5 v' b := by
      have hm := List.mem_of_getElem? hv'
      simp only [szA, List.mem_cons, List.not_mem_nil, or_false] at hm
      rcases hm with rfl | rfl | rfl | rfl | rfl | rfl | rfl | rfl | rfl | rfl
      · exact ⟨_, .inl ⟨_, rfl, rfl⟩⟩
      · exact ⟨_, .inl ⟨_, rfl, rfl⟩⟩
      · exact ⟨_, .inr (.inl ⟨_, rfl, rfl⟩)⟩
      · exact ⟨_, .inr (.inl ⟨_, rfl, rfl⟩)⟩
      · exact ⟨_, .inr (.inr ⟨rfl, fun H' _ => ⟨_, .base .non, kit_ty (by decide +kernel)⟩⟩)⟩
      · exact ⟨_, .inr (.inr ⟨rfl, fun H' _ => ⟨_, .base (.str _), kit_ty (by decide +kernel)⟩⟩)⟩
      · exact ⟨_, .inr (.inr ⟨rfl, fun H' e => ⟨_, .base (.tup (e _ _ (e45 _ _ n1 b1))), kit_ty (by decide +kernel)⟩⟩)⟩
      · exact ⟨_, .inl ⟨_, rfl, rfl⟩⟩
      · exact ⟨_, .inl ⟨_, rfl, rfl⟩⟩
      · exact ⟨_, .inr (.inr ⟨rfl, fun H' e => ⟨_, .base (.lst (e _ _ (e45 _ _ n2 b2))), kit_ty (by decide +kernel)⟩⟩)⟩
    walk_at "go"
    exact ⟨h, c, wh, al, th, v', b, _, rfl, hh5, hw0, hw1, hal3.exb e45, hth3.exb hh3.kind.choose_spec e45, hb, fun H' e t => k3 H' (e45.trans e) t⟩
  · rw [decide_eq_false (fun e => h0 (V.int.inj e))]
    walk_at "go"
    refine ⟨h, c, 13, rfl, hh4, by decide, by decide, fun q H5 hq0 hq1 e5 hh5 => ?_⟩
    have e45 := e4.trans e5
    walk_at "go"
    exact ⟨h, c, wh, al, th, .int q, _, _, rfl, hh5, hw0, hw1, hal3.exb e45, hth3.exb hh3.kind.choose_spec e45, .inl ⟨q, rfl, rfl⟩, fun H' e t => k3 H' (e45.trans e) t⟩

end
end Fp

namespace Fp
open PySem L2
section
variable {P : Program} {w : World} {K : PySem.W.Frag} {mg : Str → Option Value} {base : Heap} {C_Bag : Addr} {Cs : Addr → Prop}
local macro_rules | `(tactic| walk_at "hp") => `(tactic| first | assumption | rfl)
local macro_rules | `(tactic| walk_at "cond") => `(tactic| first | assumption | decide | omega | (unfold CMul; omega) | (refine ⟨?_, ?_⟩ <;> omega) | (unfold CDiv; omega) | (unfold CPow; omega))
local macro_rules | `(tactic| walk_at "g1") => `(tactic| first
  | with_reducible first
    | refine g_seq ?_ | refine g_asg ?_ | refine g_name ?_ | refine g_ret ?_ | refine g_retN ?_ | refine g_drop ?_ | refine g_ifs ?_
    | refine g_c ?_ | refine g_op ?_ | refine g_un ?_ | refine g_I0 ?_ | refine g_U ?_
    | refine g_test ?_ | refine g_tB ?_ | refine g_bl ?_ | refine g_and ?_ | refine g_or ?_ | refine g_not ?_
    | refine g_andV ?_ | refine g_orV ?_ | refine g_notV ?_ | refine g_if ?_ | refine g_nil ?_ | refine g_cons ?_ | refine g_cb ?_ | refine g_call ?_
    | refine g_lst ?_ | refine g_tup ?_ | refine g_itT ?_ | refine g_itF ?_ | refine g_itNT ?_ | refine g_itNF ?_ | refine g_lc ?_ | refine g_iStr ?_ | refine g_yes ?_ | refine g_exs ?_
    | refine g_chain ?_ | refine g_dget ?_ | refine g_dput ?_ | refine g_dget2 ?_ | refine g_dpop2 ?_ | refine g_fld ?_ | refine g_sfld ?_ | refine g_make ?_ | refine g_meth ?_
    | refine g_bm ?_ | refine g_kw ?_ | refine g_callS ?_ | refine g_revL ?_ | refine g_m1 ?_ | refine g_gsub ?_ | refine g_for ?_ | refine g_iList ?_ | refine g_iTup ?_ | refine g_iRng1 ?_ | refine g_iRng2 ?_ | refine g_sl ?_ | refine g_part ?_ | refine g_noPart ?_
    | refine g_exi ?_ | refine g_exr ?_ | refine g_dnew ?_ | refine g_disp ?_ | refine g_prs0 ?_ | refine g_prs ?_ | refine g_nxt ?_
  | ((with_reducible refine g_var (v := ?vv) ?gv ?_); (case gv => exact rfl))
  | ((with_reducible refine g_I ?gc ?_); (case gc => walk_at "cond"))
  | ((with_reducible refine g_eq ?ge ?_); (case ge => exact rfl))
  | ((with_reducible refine g_ne ?ge ?_); (case ge => exact rfl))
  | (refine g_ixl (SqL.of (by first | assumption | exact upd_same)) rfl ?_)
  | (refine g_setl (by first | assumption | exact upd_same) rfl ?_)
  | ((with_reducible show (∃ i, [V.int _] = [V.int i] ∧ _) ∨ _); refine Or.inl ⟨_, rfl, ?_⟩)
  | ((with_reducible show ∃ i, [V.int _] = [V.int i] ∧ _); refine ⟨_, rfl, ?_⟩)
  | dsimp only)
local macro_rules | `(tactic| walk_at "go") => `(tactic| repeat (walk_at "g1"))

local macro_rules | `(tactic| walk_at "ex") => `(tactic| first
  | assumption
  | exact Ex.refl _
  | (refine Ex.trans ?_ (by assumption); walk_at "ex")
  | (refine BagAt.ex' (by assumption) ?_; walk_at "ex")
  | (refine TapeAt.ex' (by assumption) ?_; walk_at "ex")
  | (refine Ex.at' (by assumption) ?_; walk_at "ex")
  | (refine SqL.of ?_; walk_at "ex")
  | (refine SqT.of ?_; walk_at "ex")
  | (refine Or.inl ?_; walk_at "ex")
  | (refine tape_dk (by assumption) (by assumption) ?_; walk_at "ex"))

/-! ### one question: asked and due -/
section
variable {C_NoAlphabet C_NoLetters C_NoNumber : Addr} {H : Hp} {wh : Int} {al th sz : V} {b : Bool} {i : Nat} {Q : VK} {E : XK}
/-- what is refused, by which error -/
def OutE (K : PySem.W.Frag) (Cs : Addr → Prop) (H : Hp) (wh : Int) (al th : V) (b : Bool) (i : Nat) : Prop :=
  (i = 0 ∧ ∀ H', Ex H H' → NoAl K H' al) ∨ ∃ (z : Str) (a : Addr) (p : Int) (s : Bg), al = .str z ∧ inAlph z ∧ (wh = 1 ∨ wh = 2) ∧ th = .ref a ∧ BagAt Cs H a p s ∧ Clk p ∧ Lot p s 5 4 ∧ ((i = 1 ∧ ¬ ∀ u ∈ keys s, OverS z u) ∨ (i = 2 ∧ (∀ u ∈ keys s, OverS z u) ∧ wh = 2 ∧ b = false))
/-- what is let -/
def OutN (K : PySem.W.Frag) (C_Bag : Addr) (Cs : Addr → Prop) (H : Hp) (wh : Int) (al th : V) (b : Bool) : Prop := ∃ z : Str, al = .str z ∧ inAlph z ∧
  ((wh = 0 ∧ ((∀ H', Ex H H' → NoBagG K C_Bag H' th) ∨ ∃ (a : Addr) (p : Int) (s : Bg), th = .ref a ∧ BagAt Cs H a p s ∧ Clk p ∧ Lot p s 5 4)) ∨ ∃ (a : Addr) (p : Int) (s : Bg), (wh = 1 ∨ (wh = 2 ∧ b = true)) ∧ th = .ref a ∧ BagAt Cs H a p s ∧ Clk p ∧ Lot p s 5 4 ∧ ∀ u ∈ keys s, OverS z u)
theorem ask_ref (hw0 : 0 ≤ wh) (hw1 : wh < 3) (hsz : SizeIs K H sz b) (O : OutE K Cs H wh al th b i) (q : ∀ r f H', Ex H H' → H' f = some (.tup (flagsV i)) → H' r = some (.tup [.ref f, .non]) → Q (.ref r) H') : sp_ask K C_Bag Cs C_NoAlphabet C_NoLetters C_NoNumber [.int wh, al, th, sz] H Q E := by
  refine ⟨wh, al, th, sz, rfl, fun H1 e => ?_⟩
  have fin : ∀ (cls : Value) (H2 : Hp), Ex H1 H2 → ((i = 0 ∧ cls = .ref C_NoAlphabet) ∨ (i = 1 ∧ cls = .ref C_NoLetters) ∨ (i = 2 ∧ cls = .ref C_NoNumber)) → AskE C_NoAlphabet C_NoLetters C_NoNumber Q cls none H2 := fun cls H2 e2 hi => ⟨rfl, i, hi, fun r f H' e' hf hr => q r f H' ((e.trans e2).trans e') hf hr⟩
  rcases O with ⟨rfl, hn⟩ | ⟨z, a, p, s, rfl, hz, hwh, rfl, ha, hp, l, h⟩
  · have f0 := fin _ H1 (Ex.refl _) (.inl ⟨rfl, rfl⟩)
    rcases (by omega : wh = 0 ∨ wh = 1 ∨ wh = 2) with rfl | rfl | rfl
    · exact .inl ⟨rfl, al, th, rfl, .inl ⟨hn H1 e, f0⟩⟩
    · exact .inr (.inl ⟨rfl, al, th, rfl, .inl ⟨hn H1 e, f0⟩⟩)
    · exact .inr (.inr ⟨rfl, al, th, sz, rfl, .inl ⟨hn H1 e, f0⟩⟩)
  · have hp2 := hp.lo
    have ln := l.n
    have ll : ∀ u ∈ keys s, u.length ≤ 999 := fun u hu => Nat.le_trans (l.l u hu).1 (by decide)
    rcases h with ⟨rfl, ho⟩ | ⟨rfl, ho, rfl, rfl⟩
    · rcases hwh with rfl | rfl
      · exact .inr (.inl ⟨rfl, _, _, rfl, .inr ⟨z, a, p, s, rfl, hz, rfl, ha.ex' e, by omega, l.g, by omega, ll, fun _ H2 e2 => fin _ H2 e2 (.inr (.inl ⟨rfl, rfl⟩)), fun q => absurd q ho⟩⟩)
      · exact .inr (.inr ⟨rfl, _, _, _, rfl, .inr ⟨z, a, p, s, rfl, hz, rfl, ha.ex' e, by omega, l.g, by omega, ll, fun _ H2 e2 => fin _ H2 e2 (.inr (.inl ⟨rfl, rfl⟩)), fun q => absurd q ho⟩⟩)
    · exact .inr (.inr ⟨rfl, _, _, _, rfl, .inr ⟨z, a, p, s, rfl, hz, rfl, ha.ex' e, by omega, l.g, by omega, ll, fun q => absurd ho q, fun _ => ⟨false, fun H2 e2 => hsz.within (e.trans e2), fun _ H2 e2 => fin _ H2 e2 (.inr (.inr ⟨rfl, rfl⟩)), fun q => absurd q Bool.false_ne_true⟩⟩⟩)
theorem due_ref {H1 : Hp} (e : Ex H H1) (hsz : SizeIs K H sz b) (O : OutE K Cs H wh al th b i) (q : ∀ r H', Ex H1 H' → H' r = some (.tup (flagsV i)) → Q (.ref r) H') : sp_due72 K Cs [.int wh, al, th, sz] H1 Q E := by
  refine ⟨wh, al, th, sz, rfl, ?_⟩
  rcases O with ⟨rfl, hn⟩ | ⟨z, a, p, s, rfl, hz, hwh, rfl, ha, hp, l, h⟩
  · exact .inl ⟨hn H1 e, q⟩
  · have ln := l.n
    have ll : ∀ u ∈ keys s, u.length ≤ 10 := fun u hu => Nat.le_trans (l.l u hu).1 (by decide)
    rcases h with ⟨rfl, ho⟩ | ⟨rfl, ho, rfl, rfl⟩
    · exact .inr ⟨z, rfl, hz, .inr ⟨a, p, s, hwh, rfl, ha.ex' e, by omega, ll, fun _ => q, fun w => absurd w ho⟩⟩
    · exact .inr ⟨z, rfl, hz, .inr ⟨a, p, s, hwh, rfl, ha.ex' e, by omega, ll, fun w => absurd ho w, fun _ => ⟨fun w => by omega, fun _ => ⟨false, hsz.ex' e, fun _ => q, fun w => absurd w Bool.false_ne_true⟩⟩⟩⟩
theorem due_non {H1 : Hp} (e : Ex H H1) (hsz : SizeIs K H sz b) (O : OutN K C_Bag Cs H wh al th b) (q : ∀ H', Ex H1 H' → Q .non H') : sp_due72 K Cs [.int wh, al, th, sz] H1 Q E := by
  obtain ⟨z, rfl, hz, ⟨rfl, _⟩ | ⟨a, p, s, hwh, rfl, ha, hp, l, ho⟩⟩ := O
  · exact ⟨_, _, th, sz, rfl, .inr ⟨z, rfl, hz, .inl ⟨rfl, q⟩⟩⟩
  · have ln := l.n
    have ll : ∀ u ∈ keys s, u.length ≤ 10 := fun u hu => Nat.le_trans (l.l u hu).1 (by decide)
    refine ⟨wh, _, _, sz, rfl, .inr ⟨z, rfl, hz, .inr ⟨a, p, s, by omega, rfl, ha.ex' e, by omega, ll, fun w => absurd ho w, fun _ => ⟨fun _ => q, fun w => ?_⟩⟩⟩⟩
    rcases hwh with rfl | ⟨_, rfl⟩
    · omega
    · exact ⟨true, hsz.ex' e, fun w => absurd w.symm Bool.false_ne_true, fun _ => q⟩
/-- what is told when it is let -/
def TOut (K : PySem.W.Frag) (C_Bag : Addr) (Cs : Addr → Prop) (H H' : Hp) (wh : Int) (al th sz v : V) : Prop :=
  (wh = 0 ∧ ∃ t : Bool, v = .bl t ∧ ((t = false ∧ ∀ H', Ex H H' → NoBagG K C_Bag H' th) ∨ ∃ (z : Str) (a : Addr) (p : Int) (s : Bg), al = .str z ∧ th = .ref a ∧ BagAt Cs H a p s ∧ Clk p ∧ Lot p s 5 4 ∧ (t = true → ∀ u ∈ keys s, OverS z u))) ∨
  (wh = 1 ∧ (v = .non ∨ ∃ a p s, v = .ref a ∧ BagAt Cs H' a p s)) ∨ (wh = 2 ∧ (v = .non ∨ ∃ u : Str, v = .str u ∧ u.length ≤ 12 ∧ sz = .int u.length))
theorem TOut.ex' {H1 H2 : Hp} {v : V} (e : Ex H1 H2) (h : TOut K C_Bag Cs H H1 wh al th sz v) : TOut K C_Bag Cs H H2 wh al th sz v :=
  h.imp id fun h => h.imp (fun ⟨h1, h2⟩ => ⟨h1, h2.imp id fun ⟨a, p, s, q1, q2⟩ => ⟨a, p, s, q1, q2.ex' e⟩⟩) id
theorem ask_told (hsz : SizeIs K H sz b) (O : OutN K C_Bag Cs H wh al th b) (q : ∀ v r H', Ex H H' → H' r = some (.tup [.non, v]) → TOut K C_Bag Cs H H' wh al th sz v → Q (.ref r) H') : sp_ask K C_Bag Cs C_NoAlphabet C_NoLetters C_NoNumber [.int wh, al, th, sz] H Q E := by
  refine ⟨wh, al, th, sz, rfl, fun H1 e => ?_⟩
  have fin : ∀ (v : V) (H2 : Hp), Ex H1 H2 → TOut K C_Bag Cs H H2 wh al th sz v → AskT Q v H2 := fun v H2 e2 t r H' e' hr => q v r H' ((e.trans e2).trans e') hr (t.ex' e')
  obtain ⟨z, rfl, hz, ⟨rfl, h | ⟨a, p, s, rfl, ha, hp, l⟩⟩ | ⟨a, p, s, hwh, rfl, ha, hp, l, ho⟩⟩ := O
  · obtain ⟨t, h1, h2⟩ := h H1 e
    exact .inl ⟨rfl, _, _, rfl, .inr ⟨z, rfl, hz, .inl ⟨t, h1, h2, fin _ H1 (Ex.refl _) (.inl ⟨rfl, false, rfl, .inl ⟨rfl, h⟩⟩)⟩⟩⟩
  · have hp2 := hp.lo
    have ln := l.n
    have ll : ∀ u ∈ keys s, u.length ≤ 999 := fun u hu => Nat.le_trans (l.l u hu).1 (by decide)
    exact .inl ⟨rfl, _, _, rfl, .inr ⟨z, rfl, hz, .inr ⟨a, p, s, rfl, ha.ex' e, by omega, l.g, by omega, ll, fun t H2 e2 ht => fin _ H2 e2 (.inl ⟨rfl, t, rfl, .inr ⟨z, a, p, s, rfl, rfl, ha, hp, l, ht⟩⟩)⟩⟩⟩
  · have hp2 := hp.lo
    have ln := l.n
    have ll : ∀ u ∈ keys s, u.length ≤ 999 := fun u hu => Nat.le_trans (l.l u hu).1 (by decide)
    rcases hwh with rfl | ⟨rfl, rfl⟩
    · exact .inr (.inl ⟨rfl, _, _, rfl, .inr ⟨z, a, p, s, rfl, hz, rfl, ha.ex' e, by omega, l.g, by omega, ll, fun w => absurd ho w, fun _ v H2 e2 hv => fin _ H2 e2 (.inr (.inl ⟨rfl, hv⟩))⟩⟩)
    · refine .inr (.inr ⟨rfl, _, _, _, rfl, .inr ⟨z, a, p, s, rfl, hz, rfl, ha.ex' e, by omega, l.g, by omega, ll, fun w => absurd ho w, fun _ => ⟨true, fun H2 e2 => hsz.within (e.trans e2), fun w => absurd w.symm Bool.false_ne_true, fun _ => ?_⟩⟩⟩)
      rcases hsz with ⟨j, rfl, hj⟩ | ⟨_, _, w⟩ | ⟨w, _⟩
      · have hj' := hj.symm
        rw [Bool.and_eq_true, decide_eq_true_iff, decide_eq_true_iff] at hj'
        refine ⟨j.toNat, by rw [Int.toNat_of_nonneg hj'.1], by omega, fun v H2 e2 hv => fin _ H2 e2 (.inr (.inr ⟨rfl, hv.imp id fun ⟨u, h1, h2⟩ => ⟨u, h1, by omega, by rw [h2, Int.toNat_of_nonneg hj'.1]⟩⟩))⟩
      · exact absurd w.symm Bool.false_ne_true
      · exact absurd w.symm Bool.false_ne_true
theorem outcome (hw0 : 0 ≤ wh) (hw1 : wh < 3) {h : Addr} (hal : AlV K h H al) (hth : ThQ K C_Bag Cs h wh th H) : (∃ i, i < 3 ∧ OutE K Cs H wh al th b i) ∨ OutN K C_Bag Cs H wh al th b := by
  have al2 : (∀ H', Ex H H' → NoAl K H' al) ∨ ∃ z : Str, al = .str z ∧ inAlph z := by
    rcases hal with ⟨z, rfl, hz⟩ | ha
    · rcases Classical.em (inAlph z) with q | q
      · exact .inr ⟨z, rfl, q⟩
      · exact .inl fun _ _ => .inl ⟨z, rfl, hz, q⟩
    · exact .inl fun H' e => .inr (ha H' e.exb)
  rcases al2 with hn | ⟨z, rfl, hz⟩
  · exact .inl ⟨0, by decide, .inl ⟨rfl, hn⟩⟩
  rcases hth with ⟨a, p, s, rfl, ha, hp, l⟩ | ⟨rfl, hth⟩
  · rcases (by omega : wh = 0 ∨ wh = 1 ∨ wh = 2) with rfl | rfl | rfl
    · exact .inr ⟨z, rfl, hz, .inl ⟨rfl, .inr ⟨a, p, s, rfl, ha, hp, l⟩⟩⟩
    · rcases Classical.em (∀ u ∈ keys s, OverS z u) with ho | ho
      · exact .inr ⟨z, rfl, hz, .inr ⟨a, p, s, .inl rfl, rfl, ha, hp, l, ho⟩⟩
      · exact .inl ⟨1, by decide, .inr ⟨z, a, p, s, rfl, hz, .inl rfl, rfl, ha, hp, l, .inl ⟨rfl, ho⟩⟩⟩
    · rcases Classical.em (∀ u ∈ keys s, OverS z u) with ho | ho
      · cases b with
        | true => exact .inr ⟨z, rfl, hz, .inr ⟨a, p, s, .inr ⟨rfl, rfl⟩, rfl, ha, hp, l, ho⟩⟩
        | false => exact .inl ⟨2, by decide, .inr ⟨z, a, p, s, rfl, hz, .inr rfl, rfl, ha, hp, l, .inr ⟨rfl, ho, rfl, rfl⟩⟩⟩
      · exact .inl ⟨1, by decide, .inr ⟨z, a, p, s, rfl, hz, .inr rfl, rfl, ha, hp, l, .inl ⟨rfl, ho⟩⟩⟩
  · exact .inr ⟨z, rfl, hz, .inl ⟨rfl, .inl fun H' e => hth H' e.exb⟩⟩
end
def flagsD (i : Nat) : List PyData := [.bool (decide (i = 0)), .bool (decide (i = 1)), .bool (decide (i = 2)), .bool true]
theorem dp_flags {i : Nat} {H : Hp} {a : Addr} (h : H a = some (.tup (flagsV i))) : Dp K H (.ref a) (.tuple (flagsD i)) := .tup (SqT.of h) (.cons (.bl _) (.cons (.bl _) (.cons (.bl _) (.cons (.bl _) .nil))))
theorem flags_eq (i : Nat) (hi : i < 3) : (PyData.tuple (flagsD i)).plain = true ∧ (PyData.tuple (flagsD i)).depth ≤ 60 ∧ PyData.eqv (.tuple (flagsD i)) (.tuple (flagsD i)) = true := by
  match i, hi with
  | 0, _ => exact ⟨by decide +kernel, by decide +kernel, by decide +kernel⟩
  | 1, _ => exact ⟨by decide +kernel, by decide +kernel, by decide +kernel⟩
  | 2, _ => exact ⟨by decide +kernel, by decide +kernel, by decide +kernel⟩
theorem quest_c {C_NoAlphabet C_NoLetters C_NoNumber : Addr} {f : Addr} {cdv : Value} {A : Around} {outer : List Env} {s0 : Shared} {H0 : Hp} {E : XK} (hr : Room 17 (bodyA "_law_question" s_law_question f cdv A s0)) (T : Txt K mg C_Bag Cs) (D_law_ask : DefOk P w K mg base CX0 16 "_law_ask" ["_law_which", "_law_alphabet_here", "_law_thing_here", "_law_size"] (sp_ask K C_Bag Cs C_NoAlphabet C_NoLetters C_NoNumber)) (D_law_due : DefOk P w K mg base CX0 4 "_law_due" ["_law_which", "_law_alphabet_here", "_law_thing_here", "_law_size"] (sp_due72 K Cs)) (D_law_letters_of : DefOk P w K mg base CX0 2 "_law_letters_of" ["_law_bag"] (sp_letters Cs)) : PSs (bodyX P w K mg base N_law_question "_law_question" s_law_question f cdv A outer s0 H0 E) ((defBody s_law_question).drop 6) (RQ2 K C_Bag Cs) := by
  have hu := hu_of hr
  have hu64 := L2.Room.units hr
  refine pss_imp (pss_cons (ps_asg (pe_callD D_law_ask (hr.mono (by decide)) rfl pass0 (pa_cons (pv 1) (pa_cons (pv 2) (pa_cons (pv 3) (pa_cons (pv 5) pa_nil))))) (pg_tup rfl (pgs_cons (pg_name (i := 6) sc_law_question.nd rfl (by first | exact Or.inl rfl | exact Or.inr rfl)) (pgs_cons (pg_name (i := 7) sc_law_question.nd rfl (by first | exact Or.inl rfl | exact Or.inr rfl)) pgs_nil)))) (pss_cons (ps_set (i := 8) sc_law_question.nd rfl (by first | exact Or.inl rfl | exact Or.inr rfl) (pe_callD D_law_due (hr.mono (by decide)) rfl pass0 (pa_cons (pv 1) (pa_cons (pv 2) (pa_cons (pv 3) (pa_cons (pv 5) pa_nil)))))) (pss_cons (ps_if (pt_cmpR (r := rEqP K true) (op_neP hu64) (pv 6) (pv 8) (nomark _)) (pss_one (ps_ret pe_bl)) pss_nil) (pss_cons (ps_if (pt_cmpR op_notN (pv 8) pe_non (nomark _)) (pss_one (ps_ret pe_bl)) pss_nil) (pss_cons (ps_if (pt_cmpR op_eq (pv 1) pe_int (nomark _)) (pss_cons (ps_set (i := 9) sc_law_question.nd rfl (by first | exact Or.inl rfl | exact Or.inr rfl) (pe_callB (r := rIsiG K) call_isiG (by rfl) T.b_isinstance (by decide +kernel) (pa_cons (pv 3) (pa_cons (pe_glob (v := .ref C_Bag) rfl T.c_Bag rfl) pa_nil)))) (pss_cons (ps_if (pt_val (pv 9)) (pss_one (ps_set (i := 9) sc_law_question.nd rfl (by first | exact Or.inl rfl | exact Or.inr rfl) (pe_cmpR op_eq (pe_callB call_len_seq (by rfl) T.b_len (by decide +kernel) (pa_cons (pe_lc (own := [("_law_letter", 10)]) (g := (gName 10)) rfl sc_law_question.nd (pi_list (pe_callD D_law_letters_of (hr.mono (by decide)) rfl pass0 (pa_cons (pv 3) pa_nil))) (blkOk_by (N := N_law_question) (sc := defScope s_law_question) (by decide +kernel)) (fun _ _ _ _ _ => (pg_name (i := 10) sc_law_question.nd rfl (by first | exact Or.inl rfl | exact Or.inr rfl))) (fun _ _ _ _ _ => (pts_one (pt_cmpR op_notIn_sign (pv 10) (pv 2) (by rfl)))) (fun _ _ _ _ _ => (pv 10))) pa_nil)) pe_int (nomark _)))) pss_nil) (pss_one (ps_ret (pe_and (pe_callB (r := rIsiG K) call_isiG (by rfl) T.b_isinstance (by decide +kernel) (pa_cons (pv 7) (pa_cons (pe_bltn (v := .ty "bool") rfl T.b_bool (by decide +kernel) rfl) pa_nil))) (pe_one (pe_or (pv 9) (pe_one (pe_cmpR op_isBl (pv 7) pe_bl (nomark _)))))))))) pss_nil) (pss_cons (ps_if (pt_cmpR op_eq (pv 1) pe_int (nomark _)) (pss_one (ps_ret (pe_or (pe_cmpR op_isN (pv 7) pe_non (nomark _)) (pe_one (pe_callB (r := rIsiG K) call_isiG (by rfl) T.b_isinstance (by decide +kernel) (pa_cons (pv 7) (pa_cons (pe_glob (v := .ref C_Bag) rfl T.c_Bag rfl) pa_nil))))))) pss_nil) (pss_one (ps_ret (pe_or (pe_cmpR op_isN (pv 7) pe_non (nomark _)) (pe_one (pe_and (pe_callB (r := rIsiG K) call_isiG (by rfl) T.b_isinstance (by decide +kernel) (pa_cons (pv 7) (pa_cons (pe_bltn (v := .ty "str") rfl T.b_str (by decide +kernel) rfl) pa_nil))) (pe_one (pe_cmpR op_eq (pe_callB call_lenA (by rfl) T.b_len (by decide +kernel) (pa_cons (pv 7) pa_nil)) (pv 5) (nomark _)))))))))))))) ?_
  rintro D σ H ⟨h, c, wh, al, th, sz, b, x4, rfl, hh, hw0, hw1, hal, hth, hsz, k⟩
  (try dsimp only [bodyX, cxOf])
  walk_at "go"
  rcases outcome (b := b) hw0 hw1 hal hth with ⟨i, hi3, O⟩ | O
  · refine ask_ref hw0 hw1 hsz O fun r f H1 e1 hf hr1 => ?_
    refine g_gtup (SqT.of hr1) rfl (g_gcons ?_)
    (try dsimp only [gName])
    refine g_gcons ?_
    (try dsimp only [gName])
    refine g_gnil ?_
    walk_at "go"
    refine due_ref e1 hsz O fun r2 H2 e2 h2 => ?_
    walk_at "go"
    obtain ⟨q1, q2, q3⟩ := flags_eq i hi3
    refine ⟨_, _, dp_flags (e2 _ _ hf), dp_flags h2, q1, q1, q2, ?_⟩
    rw [if_pos rfl, q3]
    walk_at "go"
    rw [decide_eq_false (fun z => nomatch z)]
    refine ⟨rfl, true, rfl, ?_⟩
    walk_at "go"
    exact k H2 (e1.trans e2).exb (hh.ex' (e1.trans e2))
  · refine ask_told hsz O fun v r H1 e1 hr1 ht => ?_
    refine g_gtup (SqT.of hr1) rfl (g_gcons ?_)
    (try dsimp only [gName])
    refine g_gcons ?_
    (try dsimp only [gName])
    refine g_gnil ?_
    walk_at "go"
    refine due_non e1 hsz O fun H2 e2 => ?_
    walk_at "go"
    refine ⟨.none, .none, .non, .non, rfl, rfl, by decide, ?_⟩
    rw [if_pos rfl, show PyData.eqv .none .none = true from rfl]
    walk_at "go"
    rw [decide_eq_true (rfl : V.non = V.non)]
    refine ⟨rfl, false, rfl, ?_⟩
    walk_at "go"
    have e02 := e1.trans e2
    have ht2 := ht.ex' e2
    clear ht
    rcases ht2 with ⟨rfl, t, rfl, h⟩ | ⟨rfl, h⟩ | ⟨rfl, h⟩
    · rw [decide_eq_true (rfl : V.int 0 = V.int 0)]
      walk_at "go"
      rcases h with ⟨rfl, hn⟩ | ⟨z, a, p, s, rfl, rfl, ha, hp, l, ht⟩
      · obtain ⟨ty, h1, h2⟩ := hn H2 e02
        refine g_isG (.own C_Bag) h1 h2 ?_
        walk_at "go"
        refine g_isG (b := true) (.ty "bool") (.inl (.base (.bl false))) (kit_ty (by decide +kernel)) ?_
        walk_at "go"
        refine ⟨false, false, rfl, rfl, ?_⟩
        exact k H2 e02.exb (hh.ex' e02)
      · obtain ⟨C, dx, db, kk, t1, hc, g1, g2, g3⟩ := (ha.ex' e02).ex
        have ln := l.n
        refine g_isG (.own C_Bag) (.inl (bag_ty T hc g1)) (T.c_isB C hc) ?_
        walk_at "go"
        refine ⟨a, p, s, rfl, ha.ex' e02, by omega, fun u hu => Nat.le_trans (l.l u hu).1 (by decide), fun q ss H3 e3 hq hss hm => ?_⟩
        walk_at "go"
        refine ⟨⟨_, SqL.of hq⟩, ?_⟩
        refine lc_relF walk_list ss (outZ z) (by rw [List.length_map]) (by rw [List.length_map]; exact line5 (by omega)) (fun H' e => SqL.of (e _ _ hq)) (fun _ _ _ => True) (fun _ _ _ _ _ _ => trivial) (fun _ => rfl) ?_ ?_
        · rintro i x' y H4 H4' Kc N hi e4 ⟨rfl, hx'⟩ hy hk hN
          rw [List.getElem?_map, hy] at hx'
          obtain rfl := (Option.some.inj hx').symm
          obtain ⟨u, hu9, ch, hch, rfl⟩ := (hm y).mp (List.mem_of_getElem? hy)
          walk_at "go"
          refine ⟨ch, z, rfl, rfl, ?_⟩
          by_cases hc : ch ∈ z.cps.toList
          · rw [decide_eq_true hc]
            walk_at "go"
            refine hN ?_ _ (Ex.refl _)
            unfold outZ
            exact decide_eq_false fun q => q fun c hc' => by rw [List.mem_singleton.mp hc']; exact hc
          · rw [decide_eq_false hc]
            walk_at "go"
            refine hk ?_ _ _ (Ex.refl _) trivial
            unfold outZ
            exact decide_eq_true fun q => hc (q ch List.mem_cons_self)
        · intro D4 H4 ys hD4 e4 hl4 hp4
          walk_at "go"
          refine ⟨D4, ys, rfl, .inl (SqL.of hl4), ?_⟩
          walk_at "go"
          have hlen := hp4.length
          have e04 := (e02.trans e3).trans e4
          refine g_isG (b := true) (.ty "bool") (.inl (.base (.bl t))) (kit_ty (by decide +kernel)) ?_
          walk_at "go"
          by_cases h0 : ys.length = 0
          · rw [decide_eq_true (show V.int (ys.length : Nat) = V.int 0 by rw [h0]; rfl)]
            walk_at "go"
            exact k H4 e04.exb (hh.ex' e04)
          · have hf : t = false := by
              cases t with
              | false => rfl
              | true => exact absurd (hlen.trans ((out_letters hm).mpr (ht rfl))) h0
            subst hf
            rw [decide_eq_false (show ¬ V.int (ys.length : Nat) = V.int 0 from fun e => h0 (by have := V.int.inj e; omega))]
            walk_at "go"
            refine ⟨false, false, rfl, rfl, ?_⟩
            exact k H4 e04.exb (hh.ex' e04)
    · rw [decide_eq_false (fun e => by cases V.int.inj e)]
      walk_at "go"
      rw [decide_eq_true (rfl : V.int 1 = V.int 1)]
      walk_at "go"
      rcases h with rfl | ⟨a, p, s, rfl, ha⟩
      · rw [decide_eq_true (rfl : V.non = V.non)]
        refine ⟨rfl, true, rfl, ?_⟩
        exact k H2 e02.exb (hh.ex' e02)
      · obtain ⟨C, dx, db, kk, t1, hc, g1, g2, g3⟩ := ha.ex
        rw [decide_eq_false (fun z => nomatch z)]
        refine ⟨rfl, false, rfl, ?_⟩
        walk_at "go"
        refine g_isG (.own C_Bag) (.inl (bag_ty T hc g1)) (T.c_isB C hc) ?_
        exact k H2 e02.exb (hh.ex' e02)
    · rw [decide_eq_false (fun e => by cases V.int.inj e)]
      walk_at "go"
      rw [decide_eq_false (fun e => by cases V.int.inj e)]
      walk_at "go"
      rcases h with rfl | ⟨u, rfl, hul, rfl⟩
      · rw [decide_eq_true (rfl : V.non = V.non)]
        refine ⟨rfl, true, rfl, ?_⟩
        exact k H2 e02.exb (hh.ex' e02)
      · rw [decide_eq_false (fun z => nomatch z)]
        refine ⟨rfl, false, rfl, ?_⟩
        walk_at "go"
        refine g_isG (b := true) (.ty "str") (.inl (.base (.str u))) (kit_ty (by decide +kernel)) ?_
        walk_at "go"
        refine .inl ⟨_, u.length, rfl, ⟨line5 (by omega), rfl⟩, ?_⟩
        walk_at "go"
        rw [decide_eq_true rfl]
        exact k H2 e02.exb (hh.ex' e02)

end
end Fp

namespace Fp
open PySem L2
section
variable {P : Program} {w : World} {K : PySem.W.Frag} {mg : Str → Option Value} {base : Heap} {C_Bag : Addr} {Cs : Addr → Prop}
local macro_rules | `(tactic| walk_at "hp") => `(tactic| first | assumption | rfl)
local macro_rules | `(tactic| walk_at "cond") => `(tactic| first | assumption | decide | omega | (unfold CMul; omega) | (refine ⟨?_, ?_⟩ <;> omega) | (unfold CDiv; omega) | (unfold CPow; omega))
local macro_rules | `(tactic| walk_at "g1") => `(tactic| first
  | with_reducible first
    | refine g_seq ?_ | refine g_asg ?_ | refine g_name ?_ | refine g_ret ?_ | refine g_retN ?_ | refine g_drop ?_ | refine g_ifs ?_
    | refine g_c ?_ | refine g_op ?_ | refine g_un ?_ | refine g_I0 ?_ | refine g_U ?_
    | refine g_test ?_ | refine g_tB ?_ | refine g_bl ?_ | refine g_and ?_ | refine g_or ?_ | refine g_not ?_
    | refine g_andV ?_ | refine g_orV ?_ | refine g_notV ?_ | refine g_if ?_ | refine g_nil ?_ | refine g_cons ?_ | refine g_cb ?_ | refine g_call ?_
    | refine g_lst ?_ | refine g_tup ?_ | refine g_itT ?_ | refine g_itF ?_ | refine g_itNT ?_ | refine g_itNF ?_ | refine g_lc ?_ | refine g_iStr ?_ | refine g_yes ?_ | refine g_exs ?_
    | refine g_chain ?_ | refine g_dget ?_ | refine g_dput ?_ | refine g_dget2 ?_ | refine g_dpop2 ?_ | refine g_fld ?_ | refine g_sfld ?_ | refine g_make ?_ | refine g_meth ?_
    | refine g_bm ?_ | refine g_kw ?_ | refine g_callS ?_ | refine g_revL ?_ | refine g_m1 ?_ | refine g_gsub ?_ | refine g_for ?_ | refine g_iList ?_ | refine g_iTup ?_ | refine g_iRng1 ?_ | refine g_iRng2 ?_ | refine g_sl ?_ | refine g_part ?_ | refine g_noPart ?_
    | refine g_exi ?_ | refine g_exr ?_ | refine g_dnew ?_ | refine g_disp ?_ | refine g_prs0 ?_ | refine g_prs ?_ | refine g_nxt ?_
  | ((with_reducible refine g_var (v := ?vv) ?gv ?_); (case gv => exact rfl))
  | ((with_reducible refine g_I ?gc ?_); (case gc => walk_at "cond"))
  | ((with_reducible refine g_eq ?ge ?_); (case ge => exact rfl))
  | ((with_reducible refine g_ne ?ge ?_); (case ge => exact rfl))
  | (refine g_ixl (SqL.of (by first | assumption | exact upd_same)) rfl ?_)
  | (refine g_setl (by first | assumption | exact upd_same) rfl ?_)
  | ((with_reducible show (∃ i, [V.int _] = [V.int i] ∧ _) ∨ _); refine Or.inl ⟨_, rfl, ?_⟩)
  | ((with_reducible show ∃ i, [V.int _] = [V.int i] ∧ _); refine ⟨_, rfl, ?_⟩)
  | dsimp only)
local macro_rules | `(tactic| walk_at "go") => `(tactic| repeat (walk_at "g1"))

local macro_rules | `(tactic| walk_at "ex") => `(tactic| first
  | assumption
  | exact Ex.refl _
  | (refine Ex.trans ?_ (by assumption); walk_at "ex")
  | (refine BagAt.ex' (by assumption) ?_; walk_at "ex")
  | (refine TapeAt.ex' (by assumption) ?_; walk_at "ex")
  | (refine Ex.at' (by assumption) ?_; walk_at "ex")
  | (refine SqL.of ?_; walk_at "ex")
  | (refine SqT.of ?_; walk_at "ex")
  | (refine Or.inl ?_; walk_at "ex")
  | (refine tape_dk (by assumption) (by assumption) ?_; walk_at "ex"))

/-! ### the law -/
theorem ok_law_question {C_NoAlphabet C_NoLetters C_NoNumber : Addr} {f : Addr} {fd : FuncData} (F : Fun K "_law_question" "_law_question" s_law_question f fd) (T : Txt K mg C_Bag Cs) (D_law_draw : DefOk P w K mg base CX0 1 "_law_draw" ["_law_tape_here", "_law_many"] sp_tp_draw) (D_law_clock : DefOk P w K mg base CX0 2 "_law_clock" ["_law_tape_here"] sp_tp_clock) (D_law_some : DefOk P w K mg base CX0 3 "_law_some" ["_law_tape_here", "_law_clock_here", "_law_letters", "_law_most", "_law_many"] sp_tp_some) (D_mk_Bag : MkOk P w K mg base CX0 6 "Bag" C_Bag ["self", "clock", "words"] (sp_bag_init C_Bag Cs)) (D_law_alphabet : DefOk P w K mg base CX0 8 "_law_alphabet" ["_law_tape_here"] (sp_al K)) (D_law_thing : DefOk P w K mg base CX0 3 "_law_thing" ["_law_tape_here"] (sp_thing K C_Bag)) (D_law_ask : DefOk P w K mg base CX0 16 "_law_ask" ["_law_which", "_law_alphabet_here", "_law_thing_here", "_law_size"] (sp_ask K C_Bag Cs C_NoAlphabet C_NoLetters C_NoNumber)) (D_law_due : DefOk P w K mg base CX0 4 "_law_due" ["_law_which", "_law_alphabet_here", "_law_thing_here", "_law_size"] (sp_due72 K Cs)) (D_law_letters_of : DefOk P w K mg base CX0 2 "_law_letters_of" ["_law_bag"] (sp_letters Cs)) : FnOk P w K mg base CX0 18 f fd ["_law_tape_here"] sp_question := by
  refine F.ok sc_law_question (fun vs H Q E h => ?_) (fun cdv A outer s0 H vs Q E hr h => ?_)
  · obtain ⟨h, c, rfl, _⟩ := h
    rfl
  · obtain ⟨h, c, rfl, hh, k⟩ := h
    have q2 := quest_c (P := P) (w := w) (mg := mg) (base := base) (Cs := Cs) (outer := outer) (H0 := H) (E := E) hr T D_law_ask D_law_due D_law_letters_of
    have q1 := quest_b hr T D_law_draw q2
    have q0 := quest_a hr T D_law_draw D_law_clock D_law_some D_mk_Bag D_law_alphabet D_law_thing q1
    exact ⟨_, q0, h, c, rfl, hh, k⟩
theorem lim_num (n : Int) : ∃ m : Int, (if (if n < 16 then n else 16) > 4 then (if n < 16 then n else 16) else 4) = m ∧ 4 ≤ m ∧ m ≤ 16 := by
  by_cases h1 : n < 16
  · rw [if_pos h1]
    by_cases h2 : n > 4
    · rw [if_pos h2]; exact ⟨n, rfl, by omega, by omega⟩
    · rw [if_neg h2]; exact ⟨4, rfl, by omega, by omega⟩
  · rw [if_neg h1, if_pos (by decide)]
    exact ⟨16, rfl, by omega, by omega⟩
def sp_law (K : PySem.W.Frag) : Sp := fun vs H Q _ => ∃ (a : Addr) (ns : List Int), vs = [.ref a] ∧ SqL K H a (ns.map V.int) ∧ ∀ H', Q (.bl true) H'
theorem ok_law {f : Addr} {fd : FuncData} (F : Fun K "law" "law" s_law f fd) (T : Txt K mg C_Bag Cs) (D_law_tape : DefOk P w K mg base CX0 1 "_law_tape" ["_law_script"] (sp_tp_tape K)) (D_law_question : DefOk P w K mg base CX0 18 "_law_question" ["_law_tape_here"] sp_question) : FnOk P w K mg base CX0 19 f fd ["_law_script"] (sp_law K) := by
  refine F.ok sc_law (fun vs H Q E h => ?_) (fun cdv A outer s H vs Q E hr h => ?_)
  · obtain ⟨a, ns, rfl, _⟩ := h
    rfl
  · obtain ⟨a, ns, rfl, hs, k⟩ := h
    have hu := hu_of hr; have hu64 := L2.Room.units hr; refine ⟨_, (pss_cons (ps_set (i := 1) sc_law.nd rfl (by first | exact Or.inl rfl | exact Or.inr rfl) (pe_callD D_law_tape (hr.mono (by decide)) rfl pass0 (pa_cons (pv 0) pa_nil))) (pss_cons (ps_for PassesOwn.never rfl (pi_range1 rfl T.b_range (pa_cons (pe_callB (call_max2 rfl) (by rfl) T.b_max (by decide +kernel) (pa_cons pe_int (pa_cons (pe_callB (call_min2 rfl) (by rfl) T.b_min (by decide +kernel) (pa_cons pe_int (pa_cons (pe_callB call_len_seq (by rfl) T.b_len (by decide +kernel) (pa_cons (pv 0) pa_nil)) pa_nil))) pa_nil))) pa_nil)) (pg_name (i := 2) sc_law.nd rfl (by first | exact Or.inl rfl | exact Or.inr rfl)) (pss_one (ps_if (pt_not (pt_val (pe_callD D_law_question (hr.mono (by decide)) rfl pass0 (pa_cons (pv 1) pa_nil)))) (pss_one (ps_ret pe_bl)) pss_nil))) (pss_one (ps_ret pe_bl)))), ?_⟩; rw [st_law]; (try dsimp only [cxOf]); walk_at "go"
    refine ⟨a, ns, rfl, hs, fun h c H1 e1 hh0 hh1 => ?_⟩
    walk_at "go"
    refine ⟨a, _, rfl, .inl (e1.sql hs), ?_⟩
    walk_at "go"
    refine ⟨_, _, rfl, ?_⟩
    walk_at "go"
    refine ⟨_, _, rfl, ?_⟩
    walk_at "go"
    obtain ⟨m, hm, m0, m1⟩ := lim_num (((ns.map V.int).length : Nat) : Int)
    rw [hm]
    refine ⟨by omega, by omega, ?_⟩
    refine forG walk_range (fun i σ' H' => ∃ y, σ' = [some (.ref a), some (.ref h), y] ∧ TapeAt H' h c) ⟨none, rfl, hh1⟩ (fun _ _ _ _ _ => trivial) ?_ ?_
    · rintro i x σ' H2 H3 hi ⟨y, rfl, hh2⟩ ⟨rfl, rfl⟩
      walk_at "go"
      refine ⟨h, c, rfl, hh2, fun H3 e3 hh3 => ?_⟩
      walk_at "go"
      exact ⟨_, rfl, hh3⟩
    · rintro σ' H2 ⟨y, rfl, hh2⟩
      walk_at "go"
      exact k H2

end
end Fp

namespace Fp
open PySem L2
theorem kit_sub {K : PySem.W.Frag} {C : Addr} {t : Value} (hc : PySem.W.isClsIn K C = true) (ht : PySem.W.typeIn K (.ref C) = some (.type "type")) (hs : PySem.W.subIn K t (.ref C) = some true) : PySem.W.kitOne K t (.ref C) = some true := by
  unfold PySem.W.kitOne PySem.W.kitCls
  have hc' : (PySem.W.clsIn K C).isSome = true := hc
  split
  · rfl
  · dsimp only
    rw [hc', ht, hs]
    rfl
theorem exm_self {K : PySem.W.Frag} {C : Addr} {t : Value} (hb : PySem.W.subIn K (.ref C) (.type "BaseException") = some true) (hc : PySem.W.isClsIn K C = true) (ht : PySem.W.typeIn K (.ref C) = some (.type "type")) (hs : PySem.W.subIn K t (.ref C) = some true) : PySem.W.exmOne K t (.ref C) = some true := by
  unfold PySem.W.exmOne PySem.W.kitCls
  have hc' : (PySem.W.clsIn K C).isSome = true := hc
  rw [hb]
  dsimp only
  rw [hc', ht, hs]
  rfl
theorem kit_notR {K : PySem.W.Frag} {C D : Addr} (hne : D ≠ C) (hc : PySem.W.isClsIn K C = true) (ht : PySem.W.typeIn K (.ref C) = some (.type "type")) (hs : PySem.W.subIn K (.ref D) (.ref C) = some false) : PySem.W.kitOne K (.ref D) (.ref C) = some false := by
  unfold PySem.W.kitOne PySem.W.kitCls
  have hc' : (PySem.W.clsIn K C).isSome = true := hc
  have hbe : ((Value.ref D : Value) == .ref C) = false := by
    rw [beq_eq_false_iff_ne]
    intro e
    exact hne (by injection e)
  rw [hbe]
  dsimp only
  rw [hc', ht, hs]
  rfl
theorem kit_yesT {K : PySem.W.Frag} {C : Addr} {T : String} (hm : PySem.W.kitMeta T = true) (hs : PySem.W.subIn K (.ref C) (.type T) = some true) : PySem.W.kitOne K (.ref C) (.type T) = some true := by
  unfold PySem.W.kitOne PySem.W.kitCls
  have e : ((Value.ref C) == (Value.type T)) = false := rfl
  rw [e, if_neg Bool.false_ne_true]
  dsimp only
  rw [hm, hs]
  rfl
theorem all_mk {l : PySem.W.OpenLaw} {w : World} {K : PySem.W.Frag} {h : Heap} {mg : Str → Option Value} {fa aC C_Bag C_RawBag C_BagError C_NoAlphabet C_NoLetters C_NoNumber C_BadBag fi_BadBag ca_BadBag cc_BadBag f_ahead_key f_law_tape f_law_draw f_law_clock f_law_word f_law_some f_is_integer f_is_clock f_is_word f_is_short_word f_is_within f_are_words f_words_in_order f_Bag_keep f_Bag_init f_law_alphabet f_law_thing f_check_alphabet f_is_over f_comes_to_one f_sums_at_starts f_is_full f_check_over f_RawBag_init f_raw f_beginnings f_check_number f_least_unmet f_unmet f_law_ask f_law_letters_of f_law_due f_law_question f_law aG_ALPHABETS : Addr} (X : K.In h) (G : h.Ns mainGlobals mg) (hfa : mg "law" = some (.ref fa))
    {od_ahead_key an_ahead_key : Option Addr} {sl_ahead_key : Array (Option Value)} {oc_ahead_key kV_ahead_key dc_ahead_key pm_ahead_key cd_ahead_key ct_ahead_key : Value} {od_law_tape an_law_tape : Option Addr} {sl_law_tape : Array (Option Value)} {oc_law_tape kV_law_tape dc_law_tape pm_law_tape cd_law_tape ct_law_tape : Value} {od_law_draw an_law_draw : Option Addr} {sl_law_draw : Array (Option Value)} {oc_law_draw kV_law_draw dc_law_draw pm_law_draw cd_law_draw ct_law_draw : Value} {od_law_clock an_law_clock : Option Addr} {sl_law_clock : Array (Option Value)} {oc_law_clock kV_law_clock dc_law_clock pm_law_clock cd_law_clock ct_law_clock : Value} {od_law_word an_law_word : Option Addr} {sl_law_word : Array (Option Value)} {oc_law_word kV_law_word dc_law_word pm_law_word cd_law_word ct_law_word : Value} {od_law_some an_law_some : Option Addr} {sl_law_some : Array (Option Value)} {oc_law_some kV_law_some dc_law_some pm_law_some cd_law_some ct_law_some : Value} {od_is_integer an_is_integer : Option Addr} {sl_is_integer : Array (Option Value)} {oc_is_integer kV_is_integer dc_is_integer pm_is_integer cd_is_integer ct_is_integer : Value} {od_is_clock an_is_clock : Option Addr} {sl_is_clock : Array (Option Value)} {oc_is_clock kV_is_clock dc_is_clock pm_is_clock cd_is_clock ct_is_clock : Value} {od_is_word an_is_word : Option Addr} {sl_is_word : Array (Option Value)} {oc_is_word kV_is_word dc_is_word pm_is_word cd_is_word ct_is_word : Value} {od_is_short_word an_is_short_word : Option Addr} {sl_is_short_word : Array (Option Value)} {oc_is_short_word kV_is_short_word dc_is_short_word pm_is_short_word cd_is_short_word ct_is_short_word : Value} {od_is_within an_is_within : Option Addr} {sl_is_within : Array (Option Value)} {oc_is_within kV_is_within dc_is_within pm_is_within cd_is_within ct_is_within : Value} {od_are_words an_are_words : Option Addr} {sl_are_words : Array (Option Value)} {oc_are_words kV_are_words dc_are_words pm_are_words cd_are_words ct_are_words : Value} {od_words_in_order an_words_in_order : Option Addr} {sl_words_in_order : Array (Option Value)} {oc_words_in_order kV_words_in_order dc_words_in_order pm_words_in_order cd_words_in_order ct_words_in_order : Value} {od_Bag_keep an_Bag_keep : Option Addr} {sl_Bag_keep : Array (Option Value)} {oc_Bag_keep kV_Bag_keep dc_Bag_keep pm_Bag_keep cd_Bag_keep ct_Bag_keep : Value} {od_Bag_init an_Bag_init : Option Addr} {sl_Bag_init : Array (Option Value)} {oc_Bag_init kV_Bag_init dc_Bag_init pm_Bag_init cd_Bag_init ct_Bag_init : Value} {od_law_alphabet an_law_alphabet : Option Addr} {sl_law_alphabet : Array (Option Value)} {oc_law_alphabet kV_law_alphabet dc_law_alphabet pm_law_alphabet cd_law_alphabet ct_law_alphabet : Value} {od_law_thing an_law_thing : Option Addr} {sl_law_thing : Array (Option Value)} {oc_law_thing kV_law_thing dc_law_thing pm_law_thing cd_law_thing ct_law_thing : Value} {od_check_alphabet an_check_alphabet : Option Addr} {sl_check_alphabet : Array (Option Value)} {oc_check_alphabet kV_check_alphabet dc_check_alphabet pm_check_alphabet cd_check_alphabet ct_check_alphabet : Value} {od_is_over an_is_over : Option Addr} {sl_is_over : Array (Option Value)} {oc_is_over kV_is_over dc_is_over pm_is_over cd_is_over ct_is_over : Value} {od_comes_to_one an_comes_to_one : Option Addr} {sl_comes_to_one : Array (Option Value)} {oc_comes_to_one kV_comes_to_one dc_comes_to_one pm_comes_to_one cd_comes_to_one ct_comes_to_one : Value} {od_sums_at_starts an_sums_at_starts : Option Addr} {sl_sums_at_starts : Array (Option Value)} {oc_sums_at_starts kV_sums_at_starts dc_sums_at_starts pm_sums_at_starts cd_sums_at_starts ct_sums_at_starts : Value} {od_is_full an_is_full : Option Addr} {sl_is_full : Array (Option Value)} {oc_is_full kV_is_full dc_is_full pm_is_full cd_is_full ct_is_full : Value} {od_check_over an_check_over : Option Addr} {sl_check_over : Array (Option Value)} {oc_check_over kV_check_over dc_check_over pm_check_over cd_check_over ct_check_over : Value} {od_RawBag_init an_RawBag_init : Option Addr} {sl_RawBag_init : Array (Option Value)} {oc_RawBag_init kV_RawBag_init dc_RawBag_init pm_RawBag_init cd_RawBag_init ct_RawBag_init : Value} {od_raw an_raw : Option Addr} {sl_raw : Array (Option Value)} {oc_raw kV_raw dc_raw pm_raw cd_raw ct_raw : Value} {od_beginnings an_beginnings : Option Addr} {sl_beginnings : Array (Option Value)} {oc_beginnings kV_beginnings dc_beginnings pm_beginnings cd_beginnings ct_beginnings : Value} {od_check_number an_check_number : Option Addr} {sl_check_number : Array (Option Value)} {oc_check_number kV_check_number dc_check_number pm_check_number cd_check_number ct_check_number : Value} {od_least_unmet an_least_unmet : Option Addr} {sl_least_unmet : Array (Option Value)} {oc_least_unmet kV_least_unmet dc_least_unmet pm_least_unmet cd_least_unmet ct_least_unmet : Value} {od_unmet an_unmet : Option Addr} {sl_unmet : Array (Option Value)} {oc_unmet kV_unmet dc_unmet pm_unmet cd_unmet ct_unmet : Value} {od_law_ask an_law_ask : Option Addr} {sl_law_ask : Array (Option Value)} {oc_law_ask kV_law_ask dc_law_ask pm_law_ask cd_law_ask ct_law_ask : Value} {od_law_letters_of an_law_letters_of : Option Addr} {sl_law_letters_of : Array (Option Value)} {oc_law_letters_of kV_law_letters_of dc_law_letters_of pm_law_letters_of cd_law_letters_of ct_law_letters_of : Value} {od_law_due an_law_due : Option Addr} {sl_law_due : Array (Option Value)} {oc_law_due kV_law_due dc_law_due pm_law_due cd_law_due ct_law_due : Value} {od_law_question an_law_question : Option Addr} {sl_law_question : Array (Option Value)} {oc_law_question kV_law_question dc_law_question pm_law_question cd_law_question ct_law_question : Value} {od_law an_law : Option Addr} {sl_law : Array (Option Value)} {oc_law kV_law dc_law pm_law cd_law ct_law : Value} {nm_BadBag qn_BadBag : Str} {N_BadBag : Addr} {bs_BadBag bm_BadBag sub_BadBag : List Value} {sn_BadBag : List Str} {ab_BadBag : Bool} {col_BadBag : Option Bool} {dd_BadBag odf_BadBag anf_BadBag cdd_BadBag cld_BadBag : Option Addr} {k0_BadBag k1_BadBag k2_BadBag k3_BadBag k5_BadBag : Option Value} {ocf_BadBag kVf_BadBag dcf_BadBag pmf_BadBag ctf_BadBag ccl_BadBag cl_BadBag : Value} {osf_BadBag ccs_BadBag csl_BadBag : Array (Option Value)} {cvs_BadBag : Array Value} {fil_BadBag : Str} {tf_BadBag : Tok} {oG_ALPHABETS : Option Addr} {nG_ALPHABETS : Nat} {sG_ALPHABETS : Array (Option Value)} {t1 t2 t3 t4 t5 t6 t7 t_ALPHABETS_0 t_ALPHABETS_1 : Tok} {od4 : Option Addr} {n4' : Nat} {sl4 : Array (Option Value)}
    (nsBag : PySem.W.nsIn K mainGlobals "Bag" = some (some (.ref C_Bag)))
    (nsRawBag : PySem.W.nsIn K mainGlobals "RawBag" = some (some (.ref C_RawBag)))
    (a_ahead_key : PySem.W.nsIn K mainGlobals "ahead_key" = some (some (.ref f_ahead_key)))
    (l_ahead_key : K.lookup f_ahead_key = some ⟨oc_ahead_key, od_ahead_key, .func (PySem.W.fnOf "ahead_key" "ahead_key" (defArgs s_ahead_key) (defBody s_ahead_key) (defScope s_ahead_key) .none kV_ahead_key dc_ahead_key pm_ahead_key an_ahead_key cd_ahead_key ct_ahead_key), sl_ahead_key⟩)
    (c_ahead_key : PySem.W.codeIn K cd_ahead_key "ahead_key" = true)
    (k_ahead_key : PySem.W.keepIn K (.ref f_ahead_key) = true)
    (a_law_tape : PySem.W.nsIn K mainGlobals "_law_tape" = some (some (.ref f_law_tape)))
    (l_law_tape : K.lookup f_law_tape = some ⟨oc_law_tape, od_law_tape, .func (PySem.W.fnOf "_law_tape" "_law_tape" (defArgs s_law_tape) (defBody s_law_tape) (defScope s_law_tape) .none kV_law_tape dc_law_tape pm_law_tape an_law_tape cd_law_tape ct_law_tape), sl_law_tape⟩)
    (c_law_tape : PySem.W.codeIn K cd_law_tape "_law_tape" = true)
    (k_law_tape : PySem.W.keepIn K (.ref f_law_tape) = true)
    (a_law_draw : PySem.W.nsIn K mainGlobals "_law_draw" = some (some (.ref f_law_draw)))
    (l_law_draw : K.lookup f_law_draw = some ⟨oc_law_draw, od_law_draw, .func (PySem.W.fnOf "_law_draw" "_law_draw" (defArgs s_law_draw) (defBody s_law_draw) (defScope s_law_draw) .none kV_law_draw dc_law_draw pm_law_draw an_law_draw cd_law_draw ct_law_draw), sl_law_draw⟩)
    (c_law_draw : PySem.W.codeIn K cd_law_draw "_law_draw" = true)
    (k_law_draw : PySem.W.keepIn K (.ref f_law_draw) = true)
    (a_law_clock : PySem.W.nsIn K mainGlobals "_law_clock" = some (some (.ref f_law_clock)))
    (l_law_clock : K.lookup f_law_clock = some ⟨oc_law_clock, od_law_clock, .func (PySem.W.fnOf "_law_clock" "_law_clock" (defArgs s_law_clock) (defBody s_law_clock) (defScope s_law_clock) .none kV_law_clock dc_law_clock pm_law_clock an_law_clock cd_law_clock ct_law_clock), sl_law_clock⟩)
    (c_law_clock : PySem.W.codeIn K cd_law_clock "_law_clock" = true)
    (k_law_clock : PySem.W.keepIn K (.ref f_law_clock) = true)
    (a_law_word : PySem.W.nsIn K mainGlobals "_law_word" = some (some (.ref f_law_word)))
    (l_law_word : K.lookup f_law_word = some ⟨oc_law_word, od_law_word, .func (PySem.W.fnOf "_law_word" "_law_word" (defArgs s_law_word) (defBody s_law_word) (defScope s_law_word) .none kV_law_word dc_law_word pm_law_word an_law_word cd_law_word ct_law_word), sl_law_word⟩)
    (c_law_word : PySem.W.codeIn K cd_law_word "_law_word" = true)
    (k_law_word : PySem.W.keepIn K (.ref f_law_word) = true)
    (a_law_some : PySem.W.nsIn K mainGlobals "_law_some" = some (some (.ref f_law_some)))
    (l_law_some : K.lookup f_law_some = some ⟨oc_law_some, od_law_some, .func (PySem.W.fnOf "_law_some" "_law_some" (defArgs s_law_some) (defBody s_law_some) (defScope s_law_some) .none kV_law_some dc_law_some pm_law_some an_law_some cd_law_some ct_law_some), sl_law_some⟩)
    (c_law_some : PySem.W.codeIn K cd_law_some "_law_some" = true)
    (k_law_some : PySem.W.keepIn K (.ref f_law_some) = true)
    (a_is_integer : PySem.W.nsIn K mainGlobals "is_integer" = some (some (.ref f_is_integer)))
    (l_is_integer : K.lookup f_is_integer = some ⟨oc_is_integer, od_is_integer, .func (PySem.W.fnOf "is_integer" "is_integer" (defArgs s_is_integer) (defBody s_is_integer) (defScope s_is_integer) .none kV_is_integer dc_is_integer pm_is_integer an_is_integer cd_is_integer ct_is_integer), sl_is_integer⟩)
    (c_is_integer : PySem.W.codeIn K cd_is_integer "is_integer" = true)
    (k_is_integer : PySem.W.keepIn K (.ref f_is_integer) = true)
    (a_is_clock : PySem.W.nsIn K mainGlobals "is_clock" = some (some (.ref f_is_clock)))
    (l_is_clock : K.lookup f_is_clock = some ⟨oc_is_clock, od_is_clock, .func (PySem.W.fnOf "is_clock" "is_clock" (defArgs s_is_clock) (defBody s_is_clock) (defScope s_is_clock) .none kV_is_clock dc_is_clock pm_is_clock an_is_clock cd_is_clock ct_is_clock), sl_is_clock⟩)
    (c_is_clock : PySem.W.codeIn K cd_is_clock "is_clock" = true)
    (k_is_clock : PySem.W.keepIn K (.ref f_is_clock) = true)
    (a_is_word : PySem.W.nsIn K mainGlobals "is_word" = some (some (.ref f_is_word)))
    (l_is_word : K.lookup f_is_word = some ⟨oc_is_word, od_is_word, .func (PySem.W.fnOf "is_word" "is_word" (defArgs s_is_word) (defBody s_is_word) (defScope s_is_word) .none kV_is_word dc_is_word pm_is_word an_is_word cd_is_word ct_is_word), sl_is_word⟩)
    (c_is_word : PySem.W.codeIn K cd_is_word "is_word" = true)
    (k_is_word : PySem.W.keepIn K (.ref f_is_word) = true)
    (a_is_short_word : PySem.W.nsIn K mainGlobals "is_short_word" = some (some (.ref f_is_short_word)))
    (l_is_short_word : K.lookup f_is_short_word = some ⟨oc_is_short_word, od_is_short_word, .func (PySem.W.fnOf "is_short_word" "is_short_word" (defArgs s_is_short_word) (defBody s_is_short_word) (defScope s_is_short_word) .none kV_is_short_word dc_is_short_word pm_is_short_word an_is_short_word cd_is_short_word ct_is_short_word), sl_is_short_word⟩)
    (c_is_short_word : PySem.W.codeIn K cd_is_short_word "is_short_word" = true)
    (k_is_short_word : PySem.W.keepIn K (.ref f_is_short_word) = true)
    (a_is_within : PySem.W.nsIn K mainGlobals "is_within" = some (some (.ref f_is_within)))
    (l_is_within : K.lookup f_is_within = some ⟨oc_is_within, od_is_within, .func (PySem.W.fnOf "is_within" "is_within" (defArgs s_is_within) (defBody s_is_within) (defScope s_is_within) .none kV_is_within dc_is_within pm_is_within an_is_within cd_is_within ct_is_within), sl_is_within⟩)
    (c_is_within : PySem.W.codeIn K cd_is_within "is_within" = true)
    (k_is_within : PySem.W.keepIn K (.ref f_is_within) = true)
    (a_are_words : PySem.W.nsIn K mainGlobals "are_words" = some (some (.ref f_are_words)))
    (l_are_words : K.lookup f_are_words = some ⟨oc_are_words, od_are_words, .func (PySem.W.fnOf "are_words" "are_words" (defArgs s_are_words) (defBody s_are_words) (defScope s_are_words) .none kV_are_words dc_are_words pm_are_words an_are_words cd_are_words ct_are_words), sl_are_words⟩)
    (c_are_words : PySem.W.codeIn K cd_are_words "are_words" = true)
    (k_are_words : PySem.W.keepIn K (.ref f_are_words) = true)
    (a_words_in_order : PySem.W.nsIn K mainGlobals "words_in_order" = some (some (.ref f_words_in_order)))
    (l_words_in_order : K.lookup f_words_in_order = some ⟨oc_words_in_order, od_words_in_order, .func (PySem.W.fnOf "words_in_order" "words_in_order" (defArgs s_words_in_order) (defBody s_words_in_order) (defScope s_words_in_order) .none kV_words_in_order dc_words_in_order pm_words_in_order an_words_in_order cd_words_in_order ct_words_in_order), sl_words_in_order⟩)
    (c_words_in_order : PySem.W.codeIn K cd_words_in_order "words_in_order" = true)
    (k_words_in_order : PySem.W.keepIn K (.ref f_words_in_order) = true)
    (a_Bag_keep : PySem.W.findIn K (.ref C_Bag) "keep" = some (some (.ref f_Bag_keep)))
    (i_Bag_keep : PySem.W.isFn K (.ref f_Bag_keep) = true)
    (l_Bag_keep : K.lookup f_Bag_keep = some ⟨oc_Bag_keep, od_Bag_keep, .func (PySem.W.fnOf "keep" "Bag.keep" (defArgs s_Bag_keep) (defBody s_Bag_keep) (defScope s_Bag_keep) .none kV_Bag_keep dc_Bag_keep pm_Bag_keep an_Bag_keep cd_Bag_keep ct_Bag_keep), sl_Bag_keep⟩)
    (c_Bag_keep : PySem.W.codeIn K cd_Bag_keep "Bag.keep" = true)
    (k_Bag_keep : PySem.W.keepIn K (.ref f_Bag_keep) = true)
    (a_Bag_init : PySem.W.findIn K (.ref C_Bag) "__init__" = some (some (.ref f_Bag_init)))
    (i_Bag_init : PySem.W.isFn K (.ref f_Bag_init) = true)
    (l_Bag_init : K.lookup f_Bag_init = some ⟨oc_Bag_init, od_Bag_init, .func (PySem.W.fnOf "__init__" "Bag.__init__" (defArgs s_Bag_init) (defBody s_Bag_init) (defScope s_Bag_init) .none kV_Bag_init dc_Bag_init pm_Bag_init an_Bag_init cd_Bag_init ct_Bag_init), sl_Bag_init⟩)
    (c_Bag_init : PySem.W.codeIn K cd_Bag_init "Bag.__init__" = true)
    (k_Bag_init : PySem.W.keepIn K (.ref f_Bag_init) = true)
    (a_law_alphabet : PySem.W.nsIn K mainGlobals "_law_alphabet" = some (some (.ref f_law_alphabet)))
    (l_law_alphabet : K.lookup f_law_alphabet = some ⟨oc_law_alphabet, od_law_alphabet, .func (PySem.W.fnOf "_law_alphabet" "_law_alphabet" (defArgs s_law_alphabet) (defBody s_law_alphabet) (defScope s_law_alphabet) .none kV_law_alphabet dc_law_alphabet pm_law_alphabet an_law_alphabet cd_law_alphabet ct_law_alphabet), sl_law_alphabet⟩)
    (c_law_alphabet : PySem.W.codeIn K cd_law_alphabet "_law_alphabet" = true)
    (k_law_alphabet : PySem.W.keepIn K (.ref f_law_alphabet) = true)
    (a_law_thing : PySem.W.nsIn K mainGlobals "_law_thing" = some (some (.ref f_law_thing)))
    (l_law_thing : K.lookup f_law_thing = some ⟨oc_law_thing, od_law_thing, .func (PySem.W.fnOf "_law_thing" "_law_thing" (defArgs s_law_thing) (defBody s_law_thing) (defScope s_law_thing) .none kV_law_thing dc_law_thing pm_law_thing an_law_thing cd_law_thing ct_law_thing), sl_law_thing⟩)
    (c_law_thing : PySem.W.codeIn K cd_law_thing "_law_thing" = true)
    (k_law_thing : PySem.W.keepIn K (.ref f_law_thing) = true)
    (a_check_alphabet : PySem.W.nsIn K mainGlobals "check_alphabet" = some (some (.ref f_check_alphabet)))
    (l_check_alphabet : K.lookup f_check_alphabet = some ⟨oc_check_alphabet, od_check_alphabet, .func (PySem.W.fnOf "check_alphabet" "check_alphabet" (defArgs s_check_alphabet) (defBody s_check_alphabet) (defScope s_check_alphabet) .none kV_check_alphabet dc_check_alphabet pm_check_alphabet an_check_alphabet cd_check_alphabet ct_check_alphabet), sl_check_alphabet⟩)
    (c_check_alphabet : PySem.W.codeIn K cd_check_alphabet "check_alphabet" = true)
    (k_check_alphabet : PySem.W.keepIn K (.ref f_check_alphabet) = true)
    (a_is_over : PySem.W.nsIn K mainGlobals "is_over" = some (some (.ref f_is_over)))
    (l_is_over : K.lookup f_is_over = some ⟨oc_is_over, od_is_over, .func (PySem.W.fnOf "is_over" "is_over" (defArgs s_is_over) (defBody s_is_over) (defScope s_is_over) .none kV_is_over dc_is_over pm_is_over an_is_over cd_is_over ct_is_over), sl_is_over⟩)
    (c_is_over : PySem.W.codeIn K cd_is_over "is_over" = true)
    (k_is_over : PySem.W.keepIn K (.ref f_is_over) = true)
    (a_comes_to_one : PySem.W.nsIn K mainGlobals "comes_to_one" = some (some (.ref f_comes_to_one)))
    (l_comes_to_one : K.lookup f_comes_to_one = some ⟨oc_comes_to_one, od_comes_to_one, .func (PySem.W.fnOf "comes_to_one" "comes_to_one" (defArgs s_comes_to_one) (defBody s_comes_to_one) (defScope s_comes_to_one) .none kV_comes_to_one dc_comes_to_one pm_comes_to_one an_comes_to_one cd_comes_to_one ct_comes_to_one), sl_comes_to_one⟩)
    (c_comes_to_one : PySem.W.codeIn K cd_comes_to_one "comes_to_one" = true)
    (k_comes_to_one : PySem.W.keepIn K (.ref f_comes_to_one) = true)
    (a_sums_at_starts : PySem.W.nsIn K mainGlobals "sums_at_starts" = some (some (.ref f_sums_at_starts)))
    (l_sums_at_starts : K.lookup f_sums_at_starts = some ⟨oc_sums_at_starts, od_sums_at_starts, .func (PySem.W.fnOf "sums_at_starts" "sums_at_starts" (defArgs s_sums_at_starts) (defBody s_sums_at_starts) (defScope s_sums_at_starts) .none kV_sums_at_starts dc_sums_at_starts pm_sums_at_starts an_sums_at_starts cd_sums_at_starts ct_sums_at_starts), sl_sums_at_starts⟩)
    (c_sums_at_starts : PySem.W.codeIn K cd_sums_at_starts "sums_at_starts" = true)
    (k_sums_at_starts : PySem.W.keepIn K (.ref f_sums_at_starts) = true)
    (a_is_full : PySem.W.nsIn K mainGlobals "is_full" = some (some (.ref f_is_full)))
    (l_is_full : K.lookup f_is_full = some ⟨oc_is_full, od_is_full, .func (PySem.W.fnOf "is_full" "is_full" (defArgs s_is_full) (defBody s_is_full) (defScope s_is_full) .none kV_is_full dc_is_full pm_is_full an_is_full cd_is_full ct_is_full), sl_is_full⟩)
    (c_is_full : PySem.W.codeIn K cd_is_full "is_full" = true)
    (k_is_full : PySem.W.keepIn K (.ref f_is_full) = true)
    (a_check_over : PySem.W.nsIn K mainGlobals "check_over" = some (some (.ref f_check_over)))
    (l_check_over : K.lookup f_check_over = some ⟨oc_check_over, od_check_over, .func (PySem.W.fnOf "check_over" "check_over" (defArgs s_check_over) (defBody s_check_over) (defScope s_check_over) .none kV_check_over dc_check_over pm_check_over an_check_over cd_check_over ct_check_over), sl_check_over⟩)
    (c_check_over : PySem.W.codeIn K cd_check_over "check_over" = true)
    (k_check_over : PySem.W.keepIn K (.ref f_check_over) = true)
    (a_RawBag_init : PySem.W.findIn K (.ref C_RawBag) "__init__" = some (some (.ref f_RawBag_init)))
    (i_RawBag_init : PySem.W.isFn K (.ref f_RawBag_init) = true)
    (l_RawBag_init : K.lookup f_RawBag_init = some ⟨oc_RawBag_init, od_RawBag_init, .func (PySem.W.fnOf "__init__" "RawBag.__init__" (defArgs s_RawBag_init) (defBody s_RawBag_init) (defScope s_RawBag_init) .none kV_RawBag_init dc_RawBag_init pm_RawBag_init an_RawBag_init cd_RawBag_init ct_RawBag_init), sl_RawBag_init⟩)
    (c_RawBag_init : PySem.W.codeIn K cd_RawBag_init "RawBag.__init__" = true)
    (k_RawBag_init : PySem.W.keepIn K (.ref f_RawBag_init) = true)
    (a_raw : PySem.W.nsIn K mainGlobals "raw" = some (some (.ref f_raw)))
    (l_raw : K.lookup f_raw = some ⟨oc_raw, od_raw, .func (PySem.W.fnOf "raw" "raw" (defArgs s_raw) (defBody s_raw) (defScope s_raw) .none kV_raw dc_raw pm_raw an_raw cd_raw ct_raw), sl_raw⟩)
    (c_raw : PySem.W.codeIn K cd_raw "raw" = true)
    (k_raw : PySem.W.keepIn K (.ref f_raw) = true)
    (a_beginnings : PySem.W.nsIn K mainGlobals "beginnings" = some (some (.ref f_beginnings)))
    (l_beginnings : K.lookup f_beginnings = some ⟨oc_beginnings, od_beginnings, .func (PySem.W.fnOf "beginnings" "beginnings" (defArgs s_beginnings) (defBody s_beginnings) (defScope s_beginnings) .none kV_beginnings dc_beginnings pm_beginnings an_beginnings cd_beginnings ct_beginnings), sl_beginnings⟩)
    (c_beginnings : PySem.W.codeIn K cd_beginnings "beginnings" = true)
    (k_beginnings : PySem.W.keepIn K (.ref f_beginnings) = true)
    (a_check_number : PySem.W.nsIn K mainGlobals "check_number" = some (some (.ref f_check_number)))
    (l_check_number : K.lookup f_check_number = some ⟨oc_check_number, od_check_number, .func (PySem.W.fnOf "check_number" "check_number" (defArgs s_check_number) (defBody s_check_number) (defScope s_check_number) .none kV_check_number dc_check_number pm_check_number an_check_number cd_check_number ct_check_number), sl_check_number⟩)
    (c_check_number : PySem.W.codeIn K cd_check_number "check_number" = true)
    (k_check_number : PySem.W.keepIn K (.ref f_check_number) = true)
    (a_least_unmet : PySem.W.nsIn K mainGlobals "least_unmet" = some (some (.ref f_least_unmet)))
    (l_least_unmet : K.lookup f_least_unmet = some ⟨oc_least_unmet, od_least_unmet, .func (PySem.W.fnOf "least_unmet" "least_unmet" (defArgs s_least_unmet) (defBody s_least_unmet) (defScope s_least_unmet) .none kV_least_unmet dc_least_unmet pm_least_unmet an_least_unmet cd_least_unmet ct_least_unmet), sl_least_unmet⟩)
    (c_least_unmet : PySem.W.codeIn K cd_least_unmet "least_unmet" = true)
    (k_least_unmet : PySem.W.keepIn K (.ref f_least_unmet) = true)
    (a_unmet : PySem.W.nsIn K mainGlobals "unmet" = some (some (.ref f_unmet)))
    (l_unmet : K.lookup f_unmet = some ⟨oc_unmet, od_unmet, .func (PySem.W.fnOf "unmet" "unmet" (defArgs s_unmet) (defBody s_unmet) (defScope s_unmet) .none kV_unmet dc_unmet pm_unmet an_unmet cd_unmet ct_unmet), sl_unmet⟩)
    (c_unmet : PySem.W.codeIn K cd_unmet "unmet" = true)
    (k_unmet : PySem.W.keepIn K (.ref f_unmet) = true)
    (a_law_ask : PySem.W.nsIn K mainGlobals "_law_ask" = some (some (.ref f_law_ask)))
    (l_law_ask : K.lookup f_law_ask = some ⟨oc_law_ask, od_law_ask, .func (PySem.W.fnOf "_law_ask" "_law_ask" (defArgs s_law_ask) (defBody s_law_ask) (defScope s_law_ask) .none kV_law_ask dc_law_ask pm_law_ask an_law_ask cd_law_ask ct_law_ask), sl_law_ask⟩)
    (c_law_ask : PySem.W.codeIn K cd_law_ask "_law_ask" = true)
    (k_law_ask : PySem.W.keepIn K (.ref f_law_ask) = true)
    (a_law_letters_of : PySem.W.nsIn K mainGlobals "_law_letters_of" = some (some (.ref f_law_letters_of)))
    (l_law_letters_of : K.lookup f_law_letters_of = some ⟨oc_law_letters_of, od_law_letters_of, .func (PySem.W.fnOf "_law_letters_of" "_law_letters_of" (defArgs s_law_letters_of) (defBody s_law_letters_of) (defScope s_law_letters_of) .none kV_law_letters_of dc_law_letters_of pm_law_letters_of an_law_letters_of cd_law_letters_of ct_law_letters_of), sl_law_letters_of⟩)
    (c_law_letters_of : PySem.W.codeIn K cd_law_letters_of "_law_letters_of" = true)
    (k_law_letters_of : PySem.W.keepIn K (.ref f_law_letters_of) = true)
    (a_law_due : PySem.W.nsIn K mainGlobals "_law_due" = some (some (.ref f_law_due)))
    (l_law_due : K.lookup f_law_due = some ⟨oc_law_due, od_law_due, .func (PySem.W.fnOf "_law_due" "_law_due" (defArgs s_law_due) (defBody s_law_due) (defScope s_law_due) .none kV_law_due dc_law_due pm_law_due an_law_due cd_law_due ct_law_due), sl_law_due⟩)
    (c_law_due : PySem.W.codeIn K cd_law_due "_law_due" = true)
    (k_law_due : PySem.W.keepIn K (.ref f_law_due) = true)
    (a_law_question : PySem.W.nsIn K mainGlobals "_law_question" = some (some (.ref f_law_question)))
    (l_law_question : K.lookup f_law_question = some ⟨oc_law_question, od_law_question, .func (PySem.W.fnOf "_law_question" "_law_question" (defArgs s_law_question) (defBody s_law_question) (defScope s_law_question) .none kV_law_question dc_law_question pm_law_question an_law_question cd_law_question ct_law_question), sl_law_question⟩)
    (c_law_question : PySem.W.codeIn K cd_law_question "_law_question" = true)
    (k_law_question : PySem.W.keepIn K (.ref f_law_question) = true)
    (a_law : PySem.W.nsIn K mainGlobals "law" = some (some (.ref f_law)))
    (l_law : K.lookup f_law = some ⟨oc_law, od_law, .func (PySem.W.fnOf "law" "law" (defArgs s_law) (defBody s_law) (defScope s_law) .none kV_law dc_law pm_law an_law cd_law ct_law), sl_law⟩)
    (c_law : PySem.W.codeIn K cd_law "law" = true)
    (k_law : PySem.W.keepIn K (.ref f_law) = true)
    (nsBadBag : PySem.W.nsIn K mainGlobals "BadBag" = some (some (.ref C_BadBag)))
    (ocBadBag : K.lookup C_BadBag = some (excClassObj nm_BadBag qn_BadBag C_BadBag N_BadBag bs_BadBag bm_BadBag true sn_BadBag sub_BadBag ab_BadBag col_BadBag dd_BadBag k0_BadBag k1_BadBag k2_BadBag k3_BadBag k5_BadBag "ValueError.__new__"))
    (orBadBag : PySem.HandSPX.refsVE bm_BadBag = true)
    (osaBadBag : PySem.W.findIn K (.ref C_BadBag) "__setattr__" = some (some (.builtin "object.__setattr__")))
    (oexBadBag : PySem.W.subIn K (.ref C_BadBag) (.type "BaseException") = some true)
    (otyBadBag : PySem.W.typeIn K (.ref C_BadBag) = some (.type "type"))
    (okpBadBag : PySem.W.keepIn K (.ref C_BadBag) = true)
    (oicBadBag : PySem.W.isClsIn K C_BadBag = true)
    (xgaBadBag : PySem.W.findIn K (.ref C_BadBag) "__getattribute__" = some (some (.builtin "BaseException.__getattribute__")))
    (xggBadBag : PySem.W.findIn K (.ref C_BadBag) "__getattr__" = some none)
    (xhdBadBag : PySem.W.hasDictIn K C_BadBag = true)
    (sveBadBag : PySem.W.subIn K (.ref C_BadBag) (.type "ValueError") = some true)
    (ossBadBag : PySem.W.subIn K (.ref C_BadBag) (.ref C_BadBag) = some true)
    (omrBadBag : PySem.W.mroIn K C_BadBag (.ref C_BadBag) = some true)
    (onfBadBag : PySem.W.findIn K (.ref C_BadBag) "part" = some none)
    (oksBadBag : PySem.W.ks_superIn K C_BadBag C_BadBag "__init__" = some (some (.builtin "ValueError.__init__")))
    (oinBadBag : PySem.W.findIn K (.ref C_BadBag) "__init__" = some (some (.ref fi_BadBag)))
    (oitBadBag : PySem.W.typeIn K (.ref fi_BadBag) = some (.type "function"))
    (olfBadBag : K.lookup fi_BadBag = some ⟨ocf_BadBag, odf_BadBag, .func (PySem.W.ksFn "__init__" "BadBag.__init__" (defArgs s_BadBag_init) (defBody s_BadBag_init) (defScope s_BadBag_init) .none kVf_BadBag dcf_BadBag pmf_BadBag anf_BadBag (.ref ca_BadBag) ctf_BadBag cc_BadBag), osf_BadBag⟩)
    (ocdBadBag : PySem.W.codeIn K (.ref ca_BadBag) "BadBag.__init__" = true)
    (olcBadBag : K.lookup cc_BadBag = some ⟨cl_BadBag, cld_BadBag, .cell (some (.ref C_BadBag)), csl_BadBag⟩)
    (olkBadBag : K.lookup ca_BadBag = some ⟨ccl_BadBag, cdd_BadBag, .fields cvs_BadBag, ccs_BadBag⟩)
    (ofiBadBag : cvs_BadBag[2]? = some (.str fil_BadBag tf_BadBag))
    (ofmBadBag : ((l.prog.main.file : Str) == fil_BadBag) = true)
    (oopBadBag : PySem.W.nsIn K cStatics "thirdparty.any" = some none)
    (otpBadBag : (l.prog.main.scope.names.lookup ("super" : Str)).isSome = false)
    (osuBadBag : PySem.W.nsIn K mainGlobals "super" = some none)
    (cg : PySem.W.specialIn K (.builtin "object.__class__") "__get__" = some (some (.builtin "getset_descriptor.__get__")))
    (ct : PySem.W.takesIn K (.builtin "object.__class__") = some true)
    (pgBag : PySem.W.plainGet K C_Bag Str.empty = true)
    (hdBag : PySem.W.hasDictIn K C_Bag = true)
    (poBag : PySem.W.plainOver K C_Bag = true)
    (saBag : PySem.W.findIn K (.ref C_Bag) "__setattr__" = some (some (.builtin "object.__setattr__")))
    (mkBag : PySem.W.makesIn K C_Bag = true)
    (kBBag : PySem.W.keepIn K (.ref C_Bag) = true)
    (n1Bag : PySem.W.findIn K (.ref C_Bag) "clock" = some none)
    (n2Bag : PySem.W.findIn K (.ref C_Bag) "sparse" = some none)
    (n3Bag : PySem.W.findIn K (.ref C_Bag) "kept" = some none)
    (n4Bag : PySem.W.findIn K (.ref C_Bag) "words" = some none)
    (ccBag : PySem.W.findIn K (.ref C_Bag) "__class__" = some (some (.builtin "object.__class__")))
    (coBag : PySem.W.mroIn K C_Bag (.type "object") = some true)
    (icBag : PySem.W.isClsIn K C_Bag = true)
    (tcBag : PySem.W.typeIn K (.ref C_Bag) = some (.type "type"))
    (neBag : PySem.W.findIn K (.ref C_Bag) "__ne__" = some (some (.builtin "object.__ne__")))
    (eqBag : PySem.W.findIn K (.ref C_Bag) "__eq__" = some (some (.ref f_Bag_eq)))
    (kpBag : PySem.W.findIn K (.ref C_Bag) "keep" = some (some (.ref f_Bag_keep)))
    (u_NoneType_Bag : PySem.W.subIn K (.type "NoneType") (.ref C_Bag) = some false)
    (u_bool_Bag : PySem.W.subIn K (.type "bool") (.ref C_Bag) = some false)
    (u_int_Bag : PySem.W.subIn K (.type "int") (.ref C_Bag) = some false)
    (u_str_Bag : PySem.W.subIn K (.type "str") (.ref C_Bag) = some false)
    (u_list_Bag : PySem.W.subIn K (.type "list") (.ref C_Bag) = some false)
    (u_tuple_Bag : PySem.W.subIn K (.type "tuple") (.ref C_Bag) = some false)
    (u_dict_Bag : PySem.W.subIn K (.type "dict") (.ref C_Bag) = some false)
    (v_str_Bag : PySem.W.subIn K (.ref C_Bag) (.type "str") = some false)
    (pgRawBag : PySem.W.plainGet K C_RawBag Str.empty = true)
    (hdRawBag : PySem.W.hasDictIn K C_RawBag = true)
    (poRawBag : PySem.W.plainOver K C_RawBag = true)
    (saRawBag : PySem.W.findIn K (.ref C_RawBag) "__setattr__" = some (some (.builtin "object.__setattr__")))
    (mkRawBag : PySem.W.makesIn K C_RawBag = true)
    (kBRawBag : PySem.W.keepIn K (.ref C_RawBag) = true)
    (n1RawBag : PySem.W.findIn K (.ref C_RawBag) "clock" = some none)
    (n2RawBag : PySem.W.findIn K (.ref C_RawBag) "sparse" = some none)
    (n3RawBag : PySem.W.findIn K (.ref C_RawBag) "kept" = some none)
    (n4RawBag : PySem.W.findIn K (.ref C_RawBag) "words" = some none)
    (ccRawBag : PySem.W.findIn K (.ref C_RawBag) "__class__" = some (some (.builtin "object.__class__")))
    (coRawBag : PySem.W.mroIn K C_RawBag (.type "object") = some true)
    (icRawBag : PySem.W.isClsIn K C_RawBag = true)
    (tcRawBag : PySem.W.typeIn K (.ref C_RawBag) = some (.type "type"))
    (neRawBag : PySem.W.findIn K (.ref C_RawBag) "__ne__" = some (some (.builtin "object.__ne__")))
    (eqRawBag : PySem.W.findIn K (.ref C_RawBag) "__eq__" = some (some (.ref f_Bag_eq)))
    (kpRawBag : PySem.W.findIn K (.ref C_RawBag) "keep" = some (some (.ref f_Bag_keep)))
    (u_NoneType_RawBag : PySem.W.subIn K (.type "NoneType") (.ref C_RawBag) = some false)
    (u_bool_RawBag : PySem.W.subIn K (.type "bool") (.ref C_RawBag) = some false)
    (u_int_RawBag : PySem.W.subIn K (.type "int") (.ref C_RawBag) = some false)
    (u_str_RawBag : PySem.W.subIn K (.type "str") (.ref C_RawBag) = some false)
    (u_list_RawBag : PySem.W.subIn K (.type "list") (.ref C_RawBag) = some false)
    (u_tuple_RawBag : PySem.W.subIn K (.type "tuple") (.ref C_RawBag) = some false)
    (u_dict_RawBag : PySem.W.subIn K (.type "dict") (.ref C_RawBag) = some false)
    (v_str_RawBag : PySem.W.subIn K (.ref C_RawBag) (.type "str") = some false)
    (sRB : PySem.W.subIn K (.ref C_RawBag) (.ref C_Bag) = some true)
    (sBR : PySem.W.subIn K (.ref C_Bag) (.ref C_RawBag) = some false)
    (dRB : C_RawBag ≠ C_Bag)
    (xgBagError : PySem.W.nsIn K mainGlobals "BagError" = some (some (.ref C_BagError)))
    (xqBagError : PySem.W.excIn K C_BagError [.type "ValueError", .type "Exception", .type "BaseException", .type "object"] "ValueError.__new__" = true)
    (xkBagError : PySem.W.keepIn K (.ref C_BagError) = true)
    (xbBagError : PySem.W.subIn K (.ref C_BagError) (.type "BaseException") = some true)
    (xtBagError : PySem.W.typeIn K (.ref C_BagError) = some (.type "type"))
    (xiBagError : PySem.W.isClsIn K C_BagError = true)
    (xsBagError : PySem.W.subIn K (.ref C_BagError) (.ref C_BagError) = some true)
    (xgNoAlphabet : PySem.W.nsIn K mainGlobals "NoAlphabet" = some (some (.ref C_NoAlphabet)))
    (xqNoAlphabet : PySem.W.excIn K C_NoAlphabet [.type "ValueError", .type "Exception", .type "BaseException", .type "object"] "ValueError.__new__" = true)
    (xkNoAlphabet : PySem.W.keepIn K (.ref C_NoAlphabet) = true)
    (xbNoAlphabet : PySem.W.subIn K (.ref C_NoAlphabet) (.type "BaseException") = some true)
    (xtNoAlphabet : PySem.W.typeIn K (.ref C_NoAlphabet) = some (.type "type"))
    (xiNoAlphabet : PySem.W.isClsIn K C_NoAlphabet = true)
    (xsNoAlphabet : PySem.W.subIn K (.ref C_NoAlphabet) (.ref C_NoAlphabet) = some true)
    (xgNoLetters : PySem.W.nsIn K mainGlobals "NoLetters" = some (some (.ref C_NoLetters)))
    (xqNoLetters : PySem.W.excIn K C_NoLetters [.type "ValueError", .type "Exception", .type "BaseException", .type "object"] "ValueError.__new__" = true)
    (xkNoLetters : PySem.W.keepIn K (.ref C_NoLetters) = true)
    (xbNoLetters : PySem.W.subIn K (.ref C_NoLetters) (.type "BaseException") = some true)
    (xtNoLetters : PySem.W.typeIn K (.ref C_NoLetters) = some (.type "type"))
    (xiNoLetters : PySem.W.isClsIn K C_NoLetters = true)
    (xsNoLetters : PySem.W.subIn K (.ref C_NoLetters) (.ref C_NoLetters) = some true)
    (xgNoNumber : PySem.W.nsIn K mainGlobals "NoNumber" = some (some (.ref C_NoNumber)))
    (xqNoNumber : PySem.W.excIn K C_NoNumber [.type "ValueError", .type "Exception", .type "BaseException", .type "object"] "ValueError.__new__" = true)
    (xkNoNumber : PySem.W.keepIn K (.ref C_NoNumber) = true)
    (xbNoNumber : PySem.W.subIn K (.ref C_NoNumber) (.type "BaseException") = some true)
    (xtNoNumber : PySem.W.typeIn K (.ref C_NoNumber) = some (.type "type"))
    (xiNoNumber : PySem.W.isClsIn K C_NoNumber = true)
    (xsNoNumber : PySem.W.subIn K (.ref C_NoNumber) (.ref C_NoNumber) = some true)
    (bv_ValueError : PySem.W.nsIn K mainGlobals "ValueError" = some none)
    (y1NoAlphabet : PySem.W.findIn K (.ref C_NoAlphabet) "__getattribute__" = some (some (.builtin "BaseException.__getattribute__")))
    (y2NoAlphabet : PySem.W.findIn K (.ref C_NoAlphabet) "__getattr__" = some none)
    (y3NoAlphabet : PySem.W.hasDictIn K C_NoAlphabet = true)
    (xBNoAlphabet : PySem.W.subIn K (.ref C_NoAlphabet) (.ref C_BagError) = some true)
    (kvNoAlphabet : PySem.W.subIn K (.ref C_NoAlphabet) (.type "ValueError") = some true)
    (dn_NoAlphabet_NoLetters : C_NoAlphabet ≠ C_NoLetters)
    (kr_NoAlphabet_NoLetters : PySem.W.subIn K (.ref C_NoAlphabet) (.ref C_NoLetters) = some false)
    (dn_NoAlphabet_NoNumber : C_NoAlphabet ≠ C_NoNumber)
    (kr_NoAlphabet_NoNumber : PySem.W.subIn K (.ref C_NoAlphabet) (.ref C_NoNumber) = some false)
    (y1NoLetters : PySem.W.findIn K (.ref C_NoLetters) "__getattribute__" = some (some (.builtin "BaseException.__getattribute__")))
    (y2NoLetters : PySem.W.findIn K (.ref C_NoLetters) "__getattr__" = some none)
    (y3NoLetters : PySem.W.hasDictIn K C_NoLetters = true)
    (xBNoLetters : PySem.W.subIn K (.ref C_NoLetters) (.ref C_BagError) = some true)
    (kvNoLetters : PySem.W.subIn K (.ref C_NoLetters) (.type "ValueError") = some true)
    (dn_NoLetters_NoAlphabet : C_NoLetters ≠ C_NoAlphabet)
    (kr_NoLetters_NoAlphabet : PySem.W.subIn K (.ref C_NoLetters) (.ref C_NoAlphabet) = some false)
    (dn_NoLetters_NoNumber : C_NoLetters ≠ C_NoNumber)
    (kr_NoLetters_NoNumber : PySem.W.subIn K (.ref C_NoLetters) (.ref C_NoNumber) = some false)
    (y1NoNumber : PySem.W.findIn K (.ref C_NoNumber) "__getattribute__" = some (some (.builtin "BaseException.__getattribute__")))
    (y2NoNumber : PySem.W.findIn K (.ref C_NoNumber) "__getattr__" = some none)
    (y3NoNumber : PySem.W.hasDictIn K C_NoNumber = true)
    (xBNoNumber : PySem.W.subIn K (.ref C_NoNumber) (.ref C_BagError) = some true)
    (kvNoNumber : PySem.W.subIn K (.ref C_NoNumber) (.type "ValueError") = some true)
    (dn_NoNumber_NoAlphabet : C_NoNumber ≠ C_NoAlphabet)
    (kr_NoNumber_NoAlphabet : PySem.W.subIn K (.ref C_NoNumber) (.ref C_NoAlphabet) = some false)
    (dn_NoNumber_NoLetters : C_NoNumber ≠ C_NoLetters)
    (kr_NoNumber_NoLetters : PySem.W.subIn K (.ref C_NoNumber) (.ref C_NoLetters) = some false)
    (y4NoAlphabet : PySem.W.findIn K (.ref C_NoAlphabet) "__class__" = some (some (.builtin "object.__class__")))
    (y5NoAlphabet : PySem.W.mroIn K C_NoAlphabet (.type "object") = some true)
    (y4NoLetters : PySem.W.findIn K (.ref C_NoLetters) "__class__" = some (some (.builtin "object.__class__")))
    (y5NoLetters : PySem.W.mroIn K C_NoLetters (.type "object") = some true)
    (y4NoNumber : PySem.W.findIn K (.ref C_NoNumber) "__class__" = some (some (.builtin "object.__class__")))
    (y5NoNumber : PySem.W.mroIn K C_NoNumber (.type "object") = some true)
    (y4BadBag : PySem.W.findIn K (.ref C_BadBag) "__class__" = some (some (.builtin "object.__class__")))
    (y5BadBag : PySem.W.mroIn K C_BadBag (.type "object") = some true)
    (kbs : PySem.W.subIn K (.ref C_BadBag) (.type "str") = some false)
    (kbb : PySem.W.subIn K (.ref C_BadBag) (.ref C_Bag) = some false)
    (kbd : C_BadBag ≠ C_Bag)
    (b_isinstance : PySem.W.nsIn K mainGlobals "isinstance" = some none)
    (b_int : PySem.W.nsIn K mainGlobals "int" = some none)
    (b_bool : PySem.W.nsIn K mainGlobals "bool" = some none)
    (b_str : PySem.W.nsIn K mainGlobals "str" = some none)
    (b_dict : PySem.W.nsIn K mainGlobals "dict" = some none)
    (b_list : PySem.W.nsIn K mainGlobals "list" = some none)
    (b_tuple : PySem.W.nsIn K mainGlobals "tuple" = some none)
    (b_len : PySem.W.nsIn K mainGlobals "len" = some none)
    (b_abs : PySem.W.nsIn K mainGlobals "abs" = some none)
    (b_all : PySem.W.nsIn K mainGlobals "all" = some none)
    (b_any : PySem.W.nsIn K mainGlobals "any" = some none)
    (b_max : PySem.W.nsIn K mainGlobals "max" = some none)
    (b_min : PySem.W.nsIn K mainGlobals "min" = some none)
    (b_range : PySem.W.nsIn K mainGlobals "range" = some none)
    (b_sorted : PySem.W.nsIn K mainGlobals "sorted" = some none)
    (b_sum : PySem.W.nsIn K mainGlobals "sum" = some none)
    (b_zip : PySem.W.nsIn K mainGlobals "zip" = some none)
    (b_enumerate : PySem.W.nsIn K mainGlobals "enumerate" = some none)
    (b_repr : PySem.W.nsIn K mainGlobals "repr" = some none)
    (b_set : PySem.W.nsIn K mainGlobals "set" = some none)
    (g1 : PySem.W.nsIn K mainGlobals "LETTERS" = some (some (.str "xyz" t1)))
    (g2 : PySem.W.nsIn K mainGlobals "MOST_LETTERS" = some (some (.int 12 t2)))
    (g3 : PySem.W.nsIn K mainGlobals "MOST_WORDS" = some (some (.int 300 t3)))
    (g4 : PySem.W.nsIn K mainGlobals "CLOCKS" = some (some (.ref aC)))
    (l4 : K.lookup aC = some ⟨.type "tuple", od4, .seq #[.int 2 t4, .int 3 t5, .int 5 t6, .int 7 t7] n4', sl4⟩)
    (g_ALPHABETS : PySem.W.nsIn K mainGlobals "ALPHABETS" = some (some (.ref aG_ALPHABETS)))
    (l_ALPHABETS : K.lookup aG_ALPHABETS = some ⟨.type "tuple", oG_ALPHABETS, .seq #[.str "xy" t_ALPHABETS_0, .str "xyz" t_ALPHABETS_1] nG_ALPHABETS, sG_ALPHABETS⟩)
    : ∃ fd : FuncData, (∀ (s : Shared) (v : Value), BindsTo s fd ⟨[v], []⟩ [("_law_script", v)]) ∧ ∀ base : Heap, K.In base → base.Ns mainGlobals mg → FnOk l.prog w K mg base CX0 19 fa fd ["_law_script"] (sp_law K) := by
  have e := hfa.symm.trans (PySem.W.mg_of X G a_law)
  cases e
  have hplBag : ∀ t ∈ (["NoneType", "bool", "int", "str", "list", "tuple", "dict"] : List String), PySem.W.subIn K (.type t) (.ref C_Bag) = some false := by
    intro t ht
    simp only [List.mem_cons, List.not_mem_nil, or_false] at ht
    rcases ht with rfl | rfl | rfl | rfl | rfl | rfl | rfl
    · exact u_NoneType_Bag
    · exact u_bool_Bag
    · exact u_int_Bag
    · exact u_str_Bag
    · exact u_list_Bag
    · exact u_tuple_Bag
    · exact u_dict_Bag
  have hplRawBag : ∀ t ∈ (["NoneType", "bool", "int", "str", "list", "tuple", "dict"] : List String), PySem.W.subIn K (.type t) (.ref C_RawBag) = some false := by
    intro t ht
    simp only [List.mem_cons, List.not_mem_nil, or_false] at ht
    rcases ht with rfl | rfl | rfl | rfl | rfl | rfl | rfl
    · exact u_NoneType_RawBag
    · exact u_bool_RawBag
    · exact u_int_RawBag
    · exact u_str_RawBag
    · exact u_list_RawBag
    · exact u_tuple_RawBag
    · exact u_dict_RawBag
  have T : Txt K mg C_Bag (fun C => C = C_Bag ∨ C = C_RawBag) := {
    b_isinstance := PySem.W.mg_none_of X G b_isinstance
    b_int := PySem.W.mg_none_of X G b_int
    b_bool := PySem.W.mg_none_of X G b_bool
    b_str := PySem.W.mg_none_of X G b_str
    b_dict := PySem.W.mg_none_of X G b_dict
    b_list := PySem.W.mg_none_of X G b_list
    b_tuple := PySem.W.mg_none_of X G b_tuple
    b_len := PySem.W.mg_none_of X G b_len
    b_abs := PySem.W.mg_none_of X G b_abs
    b_all := PySem.W.mg_none_of X G b_all
    b_any := PySem.W.mg_none_of X G b_any
    b_max := PySem.W.mg_none_of X G b_max
    b_min := PySem.W.mg_none_of X G b_min
    b_range := PySem.W.mg_none_of X G b_range
    b_sorted := PySem.W.mg_none_of X G b_sorted
    b_sum := PySem.W.mg_none_of X G b_sum
    b_zip := PySem.W.mg_none_of X G b_zip
    b_enumerate := PySem.W.mg_none_of X G b_enumerate
    b_repr := PySem.W.mg_none_of X G b_repr
    b_set := PySem.W.mg_none_of X G b_set
    g_LETTERS := ⟨_, PySem.W.mg_of X G g1⟩
    g_MOST_LETTERS := ⟨_, PySem.W.mg_of X G g2⟩
    g_MOST_WORDS := ⟨_, PySem.W.mg_of X G g3⟩
    g_CLOCKS := ⟨aC, PySem.W.mg_of X G g4, .inr ⟨_, _, _, l4, rfl, rfl, Nat.le_of_ble_eq_true rfl, .cons ⟨_, rfl⟩ (.cons ⟨_, rfl⟩ (.cons ⟨_, rfl⟩ (.cons ⟨_, rfl⟩ .nil)))⟩⟩
    c_Bag := PySem.W.mg_of X G nsBag
    cls := fun C e => e.elim (fun e => by rw [e]; exact ⟨pgBag, hdBag, poBag, saBag⟩) (fun e => by rw [e]; exact ⟨pgRawBag, hdRawBag, poRawBag, saRawBag⟩)
    n_clock := fun C e => e.elim (fun e => by rw [e]; exact n1Bag) (fun e => by rw [e]; exact n1RawBag)
    n_sparse := fun C e => e.elim (fun e => by rw [e]; exact n2Bag) (fun e => by rw [e]; exact n2RawBag)
    n_kept := fun C e => e.elim (fun e => by rw [e]; exact n3Bag) (fun e => by rw [e]; exact n3RawBag)
    n_words := fun C e => e.elim (fun e => by rw [e]; exact n4Bag) (fun e => by rw [e]; exact n4RawBag)
    c_class := fun C e => e.elim (fun e => by rw [e]; exact ccBag) (fun e => by rw [e]; exact ccRawBag)
    c_get := cg
    c_takes := ct
    c_obj := fun C e => e.elim (fun e => by rw [e]; exact coBag) (fun e => by rw [e]; exact coRawBag)
    c_isB := fun C e => e.elim (fun e => by rw [e]; exact kit_self) (fun e => by rw [e]; exact kit_sub icBag tcBag sRB)
    c_base := .inl rfl
    c_pl := fun C e t ht => e.elim (fun e => by rw [e]; exact first_not (hplBag t ht)) (fun e => by rw [e]; exact first_not (hplRawBag t ht))
    c_two := fun C D e1 e2 => by
      rcases e1 with rfl | rfl <;> rcases e2 with rfl | rfl
      · exact .inl first_self
      · exact .inr ⟨dRB, sRB⟩
      · exact .inl (first_not sBR)
      · exact .inl first_self
    c_nb := fun t ht => kit_not icBag tcBag (hplBag t ht) }
  have E_BagError : ErrC K mg "BagError" C_BagError := ⟨PySem.W.mg_of X G xgBagError, xqBagError, xkBagError, xbBagError, xtBagError⟩
  have H_BagError := exm_self xbBagError xiBagError xtBagError xsBagError
  have E_NoAlphabet : ErrC K mg "NoAlphabet" C_NoAlphabet := ⟨PySem.W.mg_of X G xgNoAlphabet, xqNoAlphabet, xkNoAlphabet, xbNoAlphabet, xtNoAlphabet⟩
  have H_NoAlphabet := exm_self xbNoAlphabet xiNoAlphabet xtNoAlphabet xsNoAlphabet
  have E_NoLetters : ErrC K mg "NoLetters" C_NoLetters := ⟨PySem.W.mg_of X G xgNoLetters, xqNoLetters, xkNoLetters, xbNoLetters, xtNoLetters⟩
  have H_NoLetters := exm_self xbNoLetters xiNoLetters xtNoLetters xsNoLetters
  have E_NoNumber : ErrC K mg "NoNumber" C_NoNumber := ⟨PySem.W.mg_of X G xgNoNumber, xqNoNumber, xkNoNumber, xbNoNumber, xtNoNumber⟩
  have H_NoNumber := exm_self xbNoNumber xiNoNumber xtNoNumber xsNoNumber
  have G_ALPHABETS : ∃ a, mg "ALPHABETS" = some (.ref a) ∧ SqT K (fun _ => none) a [.str "xy", .str "xyz"] := ⟨aG_ALPHABETS, PySem.W.mg_of X G g_ALPHABETS, .inr ⟨_, _, _, l_ALPHABETS, rfl, rfl, Nat.le_of_ble_eq_true rfl, (.cons ⟨_, rfl⟩ (.cons ⟨_, rfl⟩ .nil))⟩⟩
  have F_ahead_key := fun_mk (st := s_ahead_key) l_ahead_key c_ahead_key k_ahead_key
  have B_ahead_key := F_ahead_key.binds (ps := ["word"]) fun _ _ _ _ _ _ us hl => match us, hl with | [_], _ => rfl
  have F_law_tape := fun_mk (st := s_law_tape) l_law_tape c_law_tape k_law_tape
  have B_law_tape := F_law_tape.binds (ps := ["_law_script"]) fun _ _ _ _ _ _ us hl => match us, hl with | [_], _ => rfl
  have F_law_draw := fun_mk (st := s_law_draw) l_law_draw c_law_draw k_law_draw
  have B_law_draw := F_law_draw.binds (ps := ["_law_tape_here", "_law_many"]) fun _ _ _ _ _ _ us hl => match us, hl with | [_, _], _ => rfl
  have F_law_clock := fun_mk (st := s_law_clock) l_law_clock c_law_clock k_law_clock
  have B_law_clock := F_law_clock.binds (ps := ["_law_tape_here"]) fun _ _ _ _ _ _ us hl => match us, hl with | [_], _ => rfl
  have F_law_word := fun_mk (st := s_law_word) l_law_word c_law_word k_law_word
  have B_law_word := F_law_word.binds (ps := ["_law_tape_here", "_law_letters", "_law_most"]) fun _ _ _ _ _ _ us hl => match us, hl with | [_, _, _], _ => rfl
  have F_law_some := fun_mk (st := s_law_some) l_law_some c_law_some k_law_some
  have B_law_some := F_law_some.binds (ps := ["_law_tape_here", "_law_clock_here", "_law_letters", "_law_most", "_law_many"]) fun _ _ _ _ _ _ us hl => match us, hl with | [_, _, _, _, _], _ => rfl
  have F_is_integer := fun_mk (st := s_is_integer) l_is_integer c_is_integer k_is_integer
  have B_is_integer := F_is_integer.binds (ps := ["thing"]) fun _ _ _ _ _ _ us hl => match us, hl with | [_], _ => rfl
  have F_is_clock := fun_mk (st := s_is_clock) l_is_clock c_is_clock k_is_clock
  have B_is_clock := F_is_clock.binds (ps := ["thing"]) fun _ _ _ _ _ _ us hl => match us, hl with | [_], _ => rfl
  have F_is_word := fun_mk (st := s_is_word) l_is_word c_is_word k_is_word
  have B_is_word := F_is_word.binds (ps := ["thing"]) fun _ _ _ _ _ _ us hl => match us, hl with | [_], _ => rfl
  have F_is_short_word := fun_mk (st := s_is_short_word) l_is_short_word c_is_short_word k_is_short_word
  have B_is_short_word := F_is_short_word.binds (ps := ["thing"]) fun _ _ _ _ _ _ us hl => match us, hl with | [_], _ => rfl
  have F_is_within := fun_mk (st := s_is_within) l_is_within c_is_within k_is_within
  have B_is_within := F_is_within.binds (ps := ["thing", "least", "most"]) fun _ _ _ _ _ _ us hl => match us, hl with | [_, _, _], _ => rfl
  have F_are_words := fun_mk (st := s_are_words) l_are_words c_are_words k_are_words
  have B_are_words := F_are_words.binds (ps := ["clock", "thing"]) fun _ _ _ _ _ _ us hl => match us, hl with | [_, _], _ => rfl
  have F_words_in_order := fun_mk (st := s_words_in_order) l_words_in_order c_words_in_order k_words_in_order
  have B_words_in_order := F_words_in_order.binds (ps := ["sparse"]) fun _ _ _ _ _ _ us hl => match us, hl with | [_], _ => rfl
  have F_Bag_keep := fun_mk (st := s_Bag_keep) l_Bag_keep c_Bag_keep k_Bag_keep
  have B_Bag_keep := F_Bag_keep.binds (ps := ["self", "clock", "sparse"]) fun _ _ _ _ _ _ us hl => match us, hl with | [_, _, _], _ => rfl
  have F_Bag_init := fun_mk (st := s_Bag_init) l_Bag_init c_Bag_init k_Bag_init
  have B_Bag_init := F_Bag_init.binds (ps := ["self", "clock", "words"]) fun _ _ _ _ _ _ us hl => match us, hl with | [_, _, _], _ => rfl
  have F_law_alphabet := fun_mk (st := s_law_alphabet) l_law_alphabet c_law_alphabet k_law_alphabet
  have B_law_alphabet := F_law_alphabet.binds (ps := ["_law_tape_here"]) fun _ _ _ _ _ _ us hl => match us, hl with | [_], _ => rfl
  have F_law_thing := fun_mk (st := s_law_thing) l_law_thing c_law_thing k_law_thing
  have B_law_thing := F_law_thing.binds (ps := ["_law_tape_here"]) fun _ _ _ _ _ _ us hl => match us, hl with | [_], _ => rfl
  have F_check_alphabet := fun_mk (st := s_check_alphabet) l_check_alphabet c_check_alphabet k_check_alphabet
  have B_check_alphabet := F_check_alphabet.binds (ps := ["thing"]) fun _ _ _ _ _ _ us hl => match us, hl with | [_], _ => rfl
  have F_is_over := fun_mk (st := s_is_over) l_is_over c_is_over k_is_over
  have B_is_over := F_is_over.binds (ps := ["alphabet", "bag"]) fun _ _ _ _ _ _ us hl => match us, hl with | [_, _], _ => rfl
  have F_comes_to_one := fun_mk (st := s_comes_to_one) l_comes_to_one c_comes_to_one k_comes_to_one
  have B_comes_to_one := F_comes_to_one.binds (ps := ["alphabet", "sums"]) fun _ _ _ _ _ _ us hl => match us, hl with | [_, _], _ => rfl
  have F_sums_at_starts := fun_mk (st := s_sums_at_starts) l_sums_at_starts c_sums_at_starts k_sums_at_starts
  have B_sums_at_starts := F_sums_at_starts.binds (ps := ["bag"]) fun _ _ _ _ _ _ us hl => match us, hl with | [_], _ => rfl
  have F_is_full := fun_mk (st := s_is_full) l_is_full c_is_full k_is_full
  have B_is_full := F_is_full.binds (ps := ["alphabet", "thing"]) fun _ _ _ _ _ _ us hl => match us, hl with | [_, _], _ => rfl
  have F_check_over := fun_mk (st := s_check_over) l_check_over c_check_over k_check_over
  have B_check_over := F_check_over.binds (ps := ["alphabet", "bag"]) fun _ _ _ _ _ _ us hl => match us, hl with | [_, _], _ => rfl
  have F_RawBag_init := fun_mk (st := s_RawBag_init) l_RawBag_init c_RawBag_init k_RawBag_init
  have B_RawBag_init := F_RawBag_init.binds (ps := ["self", "clock", "sparse"]) fun _ _ _ _ _ _ us hl => match us, hl with | [_, _, _], _ => rfl
  have F_raw := fun_mk (st := s_raw) l_raw c_raw k_raw
  have B_raw := F_raw.binds (ps := ["clock", "sparse"]) fun _ _ _ _ _ _ us hl => match us, hl with | [_, _], _ => rfl
  have F_beginnings := fun_mk (st := s_beginnings) l_beginnings c_beginnings k_beginnings
  have B_beginnings := F_beginnings.binds (ps := ["alphabet", "bag"]) fun _ _ _ _ _ _ us hl => match us, hl with | [_, _], _ => rfl
  have F_check_number := fun_mk (st := s_check_number) l_check_number c_check_number k_check_number
  have B_check_number := F_check_number.binds (ps := ["thing", "least", "most"]) fun _ _ _ _ _ _ us hl => match us, hl with | [_, _, _], _ => rfl
  have F_least_unmet := fun_mk (st := s_least_unmet) l_least_unmet c_least_unmet k_least_unmet
  have B_least_unmet := F_least_unmet.binds (ps := ["alphabet", "sums", "word", "most"]) fun _ _ _ _ _ _ us hl => match us, hl with | [_, _, _, _], _ => rfl
  have F_unmet := fun_mk (st := s_unmet) l_unmet c_unmet k_unmet
  have B_unmet := F_unmet.binds (ps := ["alphabet", "bag", "most"]) fun _ _ _ _ _ _ us hl => match us, hl with | [_, _, _], _ => rfl
  have F_law_ask := fun_mk (st := s_law_ask) l_law_ask c_law_ask k_law_ask
  have B_law_ask := F_law_ask.binds (ps := ["_law_which", "_law_alphabet_here", "_law_thing_here", "_law_size"]) fun _ _ _ _ _ _ us hl => match us, hl with | [_, _, _, _], _ => rfl
  have F_law_letters_of := fun_mk (st := s_law_letters_of) l_law_letters_of c_law_letters_of k_law_letters_of
  have B_law_letters_of := F_law_letters_of.binds (ps := ["_law_bag"]) fun _ _ _ _ _ _ us hl => match us, hl with | [_], _ => rfl
  have F_law_due := fun_mk (st := s_law_due) l_law_due c_law_due k_law_due
  have B_law_due := F_law_due.binds (ps := ["_law_which", "_law_alphabet_here", "_law_thing_here", "_law_size"]) fun _ _ _ _ _ _ us hl => match us, hl with | [_, _, _, _], _ => rfl
  have F_law_question := fun_mk (st := s_law_question) l_law_question c_law_question k_law_question
  have B_law_question := F_law_question.binds (ps := ["_law_tape_here"]) fun _ _ _ _ _ _ us hl => match us, hl with | [_], _ => rfl
  have F_law := fun_mk (st := s_law) l_law c_law k_law
  have B_law := F_law.binds (ps := ["_law_script"]) fun _ _ _ _ _ _ us hl => match us, hl with | [_], _ => rfl
  have OX_BadBag : OexC K C_BadBag := ⟨⟨_, _, _, _, _, _, _, _, _, _, _, _, _, _, _, ocBadBag, orBadBag⟩, osaBadBag, oexBadBag, otyBadBag, okpBadBag⟩
  have SK_BadBag : SupK l.prog K C_BadBag fi_BadBag ca_BadBag cc_BadBag "part" := ⟨OX_BadBag, onfBadBag, ⟨_, _, _, _, _, _, olkBadBag, ofiBadBag, ofmBadBag⟩, ⟨_, _, _, olcBadBag⟩, omrBadBag, oopBadBag, oksBadBag, sveBadBag, otpBadBag⟩
  have SS_BadBag : SupScope "part" (defScope s_BadBag_init) := ⟨rfl, rfl, rfl, by decide +kernel, by decide +kernel, rfl, rfl, rfl, rfl, by decide +kernel, by decide +kernel, by decide +kernel⟩
  have X_BadBag : ∀ base : Heap, ErrF l.prog w K mg base 1 "BadBag" C_BadBag "part" := fun base => ⟨OX_BadBag, PySem.W.mg_of X G nsBadBag, fi_BadBag, _, "part", oinBadBag, oitBadBag, fn_super (pl := _) olfBadBag ocdBadBag SS_BadBag SK_BadBag (PySem.W.mg_none_of X G osuBadBag) rfl rfl (fun _ => rfl) rfl, Binds.all fun us hl => match us, hl with | [_, _], _ => rfl⟩
  have NS_str : ∀ C, (fun C => C = C_Bag ∨ C = C_RawBag) C → PySem.W.subIn K (.ref C) (.type "str") = some false := fun C e => e.elim (fun e => by rw [e]; exact v_str_Bag) (fun e => by rw [e]; exact v_str_RawBag)
  have BV_ValueError := PySem.W.mg_none_of X G bv_ValueError
  have K7 : K72 K C_Bag C_BagError C_NoAlphabet C_NoLetters C_NoNumber C_BadBag := ⟨⟨y1NoAlphabet, y2NoAlphabet, xbNoAlphabet, y3NoAlphabet, y4NoAlphabet, cg, ct, y5NoAlphabet⟩, ⟨y1NoLetters, y2NoLetters, xbNoLetters, y3NoLetters, y4NoLetters, cg, ct, y5NoLetters⟩, ⟨y1NoNumber, y2NoNumber, xbNoNumber, y3NoNumber, y4NoNumber, cg, ct, y5NoNumber⟩, ⟨xgaBadBag, xggBadBag, oexBadBag, xhdBadBag, y4BadBag, cg, ct, y5BadBag⟩, exm_self xbBagError xiBagError xtBagError xBNoAlphabet, exm_self xbBagError xiBagError xtBagError xBNoLetters, exm_self xbBagError xiBagError xtBagError xBNoNumber, kit_sub xiNoAlphabet xtNoAlphabet xsNoAlphabet, kit_notR dn_NoAlphabet_NoLetters xiNoLetters xtNoLetters kr_NoAlphabet_NoLetters, kit_notR dn_NoAlphabet_NoNumber xiNoNumber xtNoNumber kr_NoAlphabet_NoNumber, kit_notR dn_NoLetters_NoAlphabet xiNoAlphabet xtNoAlphabet kr_NoLetters_NoAlphabet, kit_sub xiNoLetters xtNoLetters xsNoLetters, kit_notR dn_NoLetters_NoNumber xiNoNumber xtNoNumber kr_NoLetters_NoNumber, kit_notR dn_NoNumber_NoAlphabet xiNoAlphabet xtNoAlphabet kr_NoNumber_NoAlphabet, kit_notR dn_NoNumber_NoLetters xiNoLetters xtNoLetters kr_NoNumber_NoLetters, kit_sub xiNoNumber xtNoNumber xsNoNumber, kit_yesT (by decide +kernel) kvNoAlphabet, kit_yesT (by decide +kernel) kvNoLetters, kit_yesT (by decide +kernel) kvNoNumber, kit_notT (by decide +kernel) kbs, kit_notR kbd icBag tcBag kbb⟩
  refine ⟨PySem.W.fnOf "law" "law" (defArgs s_law) (defBody s_law) (defScope s_law) .none kV_law dc_law pm_law an_law cd_law ct_law, fun s v => .of_eq rfl, fun base _ _ => ?_⟩
  have O_law_tape := ok_law_tape (P := l.prog) (w := w) (base := base)  F_law_tape T 
  have D_law_tape : DefOk l.prog w K mg base CX0 1 "_law_tape" ["_law_script"] _ := ⟨_, _, PySem.W.mg_of X G a_law_tape, k_law_tape, B_law_tape, O_law_tape⟩
  have O_law_draw := ok_law_draw (P := l.prog) (w := w) (base := base)  F_law_draw T 
  have D_law_draw : DefOk l.prog w K mg base CX0 1 "_law_draw" ["_law_tape_here", "_law_many"] _ := ⟨_, _, PySem.W.mg_of X G a_law_draw, k_law_draw, B_law_draw, O_law_draw⟩
  have O_law_clock := ok_law_clock (P := l.prog) (w := w) (base := base)  F_law_clock T D_law_draw
  have D_law_clock : DefOk l.prog w K mg base CX0 2 "_law_clock" ["_law_tape_here"] _ := ⟨_, _, PySem.W.mg_of X G a_law_clock, k_law_clock, B_law_clock, O_law_clock⟩
  have O_law_word := ok_law_word (P := l.prog) (w := w) (base := base)  F_law_word T D_law_draw
  have D_law_word : DefOk l.prog w K mg base CX0 2 "_law_word" ["_law_tape_here", "_law_letters", "_law_most"] _ := ⟨_, _, PySem.W.mg_of X G a_law_word, k_law_word, B_law_word, O_law_word⟩
  have O_law_some := ok_law_some (P := l.prog) (w := w) (base := base)  F_law_some T D_law_draw D_law_word
  have D_law_some : DefOk l.prog w K mg base CX0 3 "_law_some" ["_law_tape_here", "_law_clock_here", "_law_letters", "_law_most", "_law_many"] _ := ⟨_, _, PySem.W.mg_of X G a_law_some, k_law_some, B_law_some, O_law_some⟩
  have O_is_integer := ok_is_integer (P := l.prog) (w := w) (base := base)  F_is_integer T 
  have D_is_integer : DefOk l.prog w K mg base CX0 1 "is_integer" ["thing"] _ := ⟨_, _, PySem.W.mg_of X G a_is_integer, k_is_integer, B_is_integer, O_is_integer⟩
  have O_is_clock := ok_is_clock (P := l.prog) (w := w) (base := base)  F_is_clock T D_is_integer
  have D_is_clock : DefOk l.prog w K mg base CX0 2 "is_clock" ["thing"] _ := ⟨_, _, PySem.W.mg_of X G a_is_clock, k_is_clock, B_is_clock, O_is_clock⟩
  have O_is_word := ok_is_word (P := l.prog) (w := w) (base := base)  F_is_word T 
  have D_is_word : DefOk l.prog w K mg base CX0 1 "is_word" ["thing"] _ := ⟨_, _, PySem.W.mg_of X G a_is_word, k_is_word, B_is_word, O_is_word⟩
  have O_is_short_word := ok_is_short_word (P := l.prog) (w := w) (base := base)  F_is_short_word T D_is_word
  have D_is_short_word : DefOk l.prog w K mg base CX0 2 "is_short_word" ["thing"] _ := ⟨_, _, PySem.W.mg_of X G a_is_short_word, k_is_short_word, B_is_short_word, O_is_short_word⟩
  have O_is_within := ok_is_within (P := l.prog) (w := w) (base := base)  F_is_within T D_is_integer
  have D_is_within : DefOk l.prog w K mg base CX0 2 "is_within" ["thing", "least", "most"] _ := ⟨_, _, PySem.W.mg_of X G a_is_within, k_is_within, B_is_within, O_is_within⟩
  have O_are_words := ok_are_words (P := l.prog) (w := w) (base := base)  F_are_words T D_is_short_word D_is_within
  have D_are_words : DefOk l.prog w K mg base CX0 3 "are_words" ["clock", "thing"] _ := ⟨_, _, PySem.W.mg_of X G a_are_words, k_are_words, B_are_words, O_are_words⟩
  have KF : KeyFn K mg := ⟨_, _, F_ahead_key, PySem.W.mg_of X G a_ahead_key, B_ahead_key⟩
  have O_words_in_order := ok_words_in_order (P := l.prog) (w := w) (base := base)  F_words_in_order T KF
  have D_words_in_order : DefOk l.prog w K mg base CX0 4 "words_in_order" ["sparse"] _ := ⟨_, _, PySem.W.mg_of X G a_words_in_order, k_words_in_order, B_words_in_order, O_words_in_order⟩
  have O_Bag_keep := ok_keep (P := l.prog) (w := w) (base := base)  F_Bag_keep T D_words_in_order
  have M_keep : MtOk l.prog w K mg base CX0 5 C_Bag "keep" ["self", "clock", "sparse"] _ := ⟨_, _, ⟨pgBag, hdBag, poBag, saBag⟩, ⟨kpBag, i_Bag_keep, k_Bag_keep⟩, B_Bag_keep, O_Bag_keep⟩
  have M_keepRawBag : MtOk l.prog w K mg base CX0 5 C_RawBag "keep" ["self", "clock", "sparse"] _ := ⟨_, _, ⟨pgRawBag, hdRawBag, poRawBag, saRawBag⟩, ⟨kpRawBag, i_Bag_keep, k_Bag_keep⟩, B_Bag_keep, O_Bag_keep⟩
  have O_Bag_init := ok_bag_init (P := l.prog) (w := w) (base := base)  F_Bag_init T D_is_clock D_are_words M_keep
  have K_Bag : MkOk l.prog w K mg base CX0 6 "Bag" C_Bag ["self", "clock", "words"] _ := ⟨_, _, ⟨mkBag, a_Bag_init, i_Bag_init, kBBag⟩, PySem.W.mg_of X G nsBag, B_Bag_init, O_Bag_init⟩
  have O_law_alphabet := ok_law_alphabet (P := l.prog) (w := w) (base := base) (C_BagError := C_BagError) (C_NoAlphabet := C_NoAlphabet) (C_NoLetters := C_NoLetters) (C_NoNumber := C_NoNumber) (C_BadBag := C_BadBag) F_law_alphabet T D_law_draw K_Bag (X_BadBag base) K7 NS_str
  have D_law_alphabet : DefOk l.prog w K mg base CX0 8 "_law_alphabet" ["_law_tape_here"] _ := ⟨_, _, PySem.W.mg_of X G a_law_alphabet, k_law_alphabet, B_law_alphabet, O_law_alphabet⟩
  have O_law_thing := ok_law_thing (P := l.prog) (w := w) (base := base) (C_BagError := C_BagError) (C_NoAlphabet := C_NoAlphabet) (C_NoLetters := C_NoLetters) (C_NoNumber := C_NoNumber) (C_BadBag := C_BadBag) F_law_thing T D_law_draw (X_BadBag base) K7
  have D_law_thing : DefOk l.prog w K mg base CX0 3 "_law_thing" ["_law_tape_here"] _ := ⟨_, _, PySem.W.mg_of X G a_law_thing, k_law_thing, B_law_thing, O_law_thing⟩
  have O_check_alphabetX := ok_check_alphabetX (P := l.prog) (w := w) (base := base) (C_NoAlphabet := C_NoAlphabet) F_check_alphabet T G_ALPHABETS E_NoAlphabet
  have D_check_alphabetX : DefOk l.prog w K mg base (L2.CX l.prog w) 1 "check_alphabet" ["thing"] _ := ⟨_, _, PySem.W.mg_of X G a_check_alphabet, k_check_alphabet, B_check_alphabet, O_check_alphabetX⟩
  have O_is_over := ok_is_over (P := l.prog) (w := w) (base := base)  F_is_over T 
  have D_is_over : DefOk l.prog w K mg base CX0 1 "is_over" ["alphabet", "bag"] _ := ⟨_, _, PySem.W.mg_of X G a_is_over, k_is_over, B_is_over, O_is_over⟩
  have O_comes_to_one := ok_comes_to_one (P := l.prog) (w := w) (base := base)  F_comes_to_one T 
  have D_comes_to_one : DefOk l.prog w K mg base CX0 1 "comes_to_one" ["alphabet", "sums"] _ := ⟨_, _, PySem.W.mg_of X G a_comes_to_one, k_comes_to_one, B_comes_to_one, O_comes_to_one⟩
  have O_sums_at_starts := ok_sums_at_starts (P := l.prog) (w := w) (base := base)  F_sums_at_starts T 
  have D_sums_at_starts : DefOk l.prog w K mg base CX0 4 "sums_at_starts" ["bag"] _ := ⟨_, _, PySem.W.mg_of X G a_sums_at_starts, k_sums_at_starts, B_sums_at_starts, O_sums_at_starts⟩
  have O_is_fullX := ok_is_fullX (P := l.prog) (w := w) (base := base) (C_NoAlphabet := C_NoAlphabet) F_is_full T D_check_alphabetX D_is_over D_comes_to_one D_sums_at_starts
  have D_is_fullX : DefOk l.prog w K mg base (L2.CX l.prog w) 5 "is_full" ["alphabet", "thing"] _ := ⟨_, _, PySem.W.mg_of X G a_is_full, k_is_full, B_is_full, O_is_fullX⟩
  have O_check_overX := ok_check_overX (P := l.prog) (w := w) (base := base) (C_NoAlphabet := C_NoAlphabet) (C_NoLetters := C_NoLetters) F_check_over T D_check_alphabetX D_is_over E_NoLetters
  have D_check_overX : DefOk l.prog w K mg base (L2.CX l.prog w) 2 "check_over" ["alphabet", "bag"] _ := ⟨_, _, PySem.W.mg_of X G a_check_over, k_check_over, B_check_over, O_check_overX⟩
  have O_RawBag_init := ok_raw_init (P := l.prog) (w := w) (base := base)  F_RawBag_init T (.inr rfl) M_keepRawBag
  have K_RawBag : MkOk l.prog w K mg base CX0 6 "RawBag" C_RawBag ["self", "clock", "sparse"] _ := ⟨_, _, ⟨mkRawBag, a_RawBag_init, i_RawBag_init, kBRawBag⟩, PySem.W.mg_of X G nsRawBag, B_RawBag_init, O_RawBag_init⟩
  have O_raw := ok_raw (P := l.prog) (w := w) (base := base) (C_RawBag := C_RawBag) F_raw T K_RawBag
  have D_raw : DefOk l.prog w K mg base CX0 8 "raw" ["clock", "sparse"] _ := ⟨_, _, PySem.W.mg_of X G a_raw, k_raw, B_raw, O_raw⟩
  have O_beginningsX := ok_beginningsX (P := l.prog) (w := w) (base := base) (C_NoAlphabet := C_NoAlphabet) (C_NoLetters := C_NoLetters) F_beginnings T D_check_overX D_sums_at_starts D_comes_to_one D_raw
  have D_beginningsX : DefOk l.prog w K mg base (L2.CX l.prog w) 9 "beginnings" ["alphabet", "bag"] _ := ⟨_, _, PySem.W.mg_of X G a_beginnings, k_beginnings, B_beginnings, O_beginningsX⟩
  have O_check_numberX := ok_check_numberX (P := l.prog) (w := w) (base := base) (C_NoNumber := C_NoNumber) F_check_number T D_is_within E_NoNumber
  have D_check_numberX : DefOk l.prog w K mg base (L2.CX l.prog w) 3 "check_number" ["thing", "least", "most"] _ := ⟨_, _, PySem.W.mg_of X G a_check_number, k_check_number, B_check_number, O_check_numberX⟩
  have O_least_unmet := ok_least_unmet (P := l.prog) (w := w) (base := base)  F_least_unmet T ⟨PySem.W.mg_of X G a_least_unmet, k_least_unmet, B_least_unmet⟩
  have D_least_unmet : DefOk l.prog w K mg base CX0 14 "least_unmet" ["alphabet", "sums", "word", "most"] _ := ⟨_, _, PySem.W.mg_of X G a_least_unmet, k_least_unmet, B_least_unmet, O_least_unmet⟩
  have O_unmetX := ok_unmetX (P := l.prog) (w := w) (base := base) (C_NoAlphabet := C_NoAlphabet) (C_NoLetters := C_NoLetters) (C_NoNumber := C_NoNumber) F_unmet T D_check_overX D_check_numberX D_sums_at_starts D_least_unmet
  have D_unmetX : DefOk l.prog w K mg base (L2.CX l.prog w) 15 "unmet" ["alphabet", "bag", "most"] _ := ⟨_, _, PySem.W.mg_of X G a_unmet, k_unmet, B_unmet, O_unmetX⟩
  have O_law_ask := ok_law_ask (P := l.prog) (w := w) (base := base) (C_BagError := C_BagError) (C_NoAlphabet := C_NoAlphabet) (C_NoLetters := C_NoLetters) (C_NoNumber := C_NoNumber) (C_BadBag := C_BadBag) F_law_ask T D_is_fullX D_beginningsX D_unmetX E_BagError BV_ValueError K7 E_NoAlphabet E_NoLetters E_NoNumber
  have D_law_ask : DefOk l.prog w K mg base CX0 16 "_law_ask" ["_law_which", "_law_alphabet_here", "_law_thing_here", "_law_size"] _ := ⟨_, _, PySem.W.mg_of X G a_law_ask, k_law_ask, B_law_ask, O_law_ask⟩
  have O_law_letters_of := ok_law_letters_of (P := l.prog) (w := w) (base := base)  F_law_letters_of T 
  have D_law_letters_of : DefOk l.prog w K mg base CX0 2 "_law_letters_of" ["_law_bag"] _ := ⟨_, _, PySem.W.mg_of X G a_law_letters_of, k_law_letters_of, B_law_letters_of, O_law_letters_of⟩
  have O_law_due := ok_law_due (P := l.prog) (w := w) (base := base)  F_law_due T D_law_letters_of
  have D_law_due : DefOk l.prog w K mg base CX0 4 "_law_due" ["_law_which", "_law_alphabet_here", "_law_thing_here", "_law_size"] _ := ⟨_, _, PySem.W.mg_of X G a_law_due, k_law_due, B_law_due, O_law_due⟩
  have O_law_question := ok_law_question (P := l.prog) (w := w) (base := base) (C_NoAlphabet := C_NoAlphabet) (C_NoLetters := C_NoLetters) (C_NoNumber := C_NoNumber) F_law_question T D_law_draw D_law_clock D_law_some K_Bag D_law_alphabet D_law_thing D_law_ask D_law_due D_law_letters_of
  have D_law_question : DefOk l.prog w K mg base CX0 18 "_law_question" ["_law_tape_here"] _ := ⟨_, _, PySem.W.mg_of X G a_law_question, k_law_question, B_law_question, O_law_question⟩
  exact ok_law F_law T  D_law_tape D_law_question
theorem walk {l : PySem.W.OpenLaw} {q : Program} {loose : List Str} {XP : (Str → Option Value) → Heap → Prop} {YP : World → Heap → Prop} {d : DefRec} {K : Params → PySem.W.Frag} (hn : l.most = some 63) (hdf : d.params.defaults = [])
    (hY : ∀ (w : World) (h : Heap), YP w h → (K w.params).In h)
    (F : ∀ (w : World) (mg : Str → Option Value) (fa : Addr) (h : Heap), (K w.params).In h → h.Ns mainGlobals mg → mg d.name = some (.ref fa) →
      ∃ fd : FuncData, (∀ (s : Shared) (u : Value), BindsTo s fd ⟨[u], []⟩ [("_law_script", u)]) ∧ ∀ base : Heap, (K w.params).In base → base.Ns mainGlobals mg → FnOk l.prog w (K w.params) mg base CX0 19 fa fd ["_law_script"] (sp_law (K w.params))) :
    PySem.W.WalkO q loose XP YP l.row.toRowW d [] (fun f vs => PySem.call f vs) :=
  L2.walk_of (n := 63) (k := 19) (x := "_law_script") (CX := fun _ => CX0) (sp := fun w => sp_law (K w.params)) hn (by decide) hdf ⟨rfl, by decide, by decide⟩ hY F (fun _ _ a ns hl _ hS => ⟨a, ns, rfl, hS, fun _ => rfl⟩) fun _ _ _ _ _ z => z
end Fp
open PySem PySem.W PyProof.Rows
set_option maxRecDepth 100000 in
set_option maxHeartbeats 0 in
theorem PySem.Challenge.cw_frontparts_k72_beginnings_refused_holds : PySem.Challenge.rw_frontparts_k72_beginnings_refused.Holds := by
  w_on; o_law; k_head; (case hw => w_witness2)
  k_fill
  refine Fp.walk (l := PySem.Challenge.rw_frontparts_k72_beginnings_refused) rfl rfl (fun w h Y => PySem.W.kIn_of Y) ?F
  case F =>
    intro w mg fa h KX G hmg
    refine' Fp.all_mk KX G hmg ?z_nsBag ?z_nsRawBag ?z_a_ahead_key ?z_l_ahead_key ?z_c_ahead_key ?z_k_ahead_key ?z_a_law_tape ?z_l_law_tape ?z_c_law_tape ?z_k_law_tape ?z_a_law_draw ?z_l_law_draw ?z_c_law_draw ?z_k_law_draw ?z_a_law_clock ?z_l_law_clock ?z_c_law_clock ?z_k_law_clock ?z_a_law_word ?z_l_law_word ?z_c_law_word ?z_k_law_word ?z_a_law_some ?z_l_law_some ?z_c_law_some ?z_k_law_some ?z_a_is_integer ?z_l_is_integer ?z_c_is_integer ?z_k_is_integer ?z_a_is_clock ?z_l_is_clock ?z_c_is_clock ?z_k_is_clock ?z_a_is_word ?z_l_is_word ?z_c_is_word ?z_k_is_word ?z_a_is_short_word ?z_l_is_short_word ?z_c_is_short_word ?z_k_is_short_word ?z_a_is_within ?z_l_is_within ?z_c_is_within ?z_k_is_within ?z_a_are_words ?z_l_are_words ?z_c_are_words ?z_k_are_words ?z_a_words_in_order ?z_l_words_in_order ?z_c_words_in_order ?z_k_words_in_order ?z_a_Bag_keep ?z_i_Bag_keep ?z_l_Bag_keep ?z_c_Bag_keep ?z_k_Bag_keep ?z_a_Bag_init ?z_i_Bag_init ?z_l_Bag_init ?z_c_Bag_init ?z_k_Bag_init ?z_a_law_alphabet ?z_l_law_alphabet ?z_c_law_alphabet ?z_k_law_alphabet ?z_a_law_thing ?z_l_law_thing ?z_c_law_thing ?z_k_law_thing ?z_a_check_alphabet ?z_l_check_alphabet ?z_c_check_alphabet ?z_k_check_alphabet ?z_a_is_over ?z_l_is_over ?z_c_is_over ?z_k_is_over ?z_a_comes_to_one ?z_l_comes_to_one ?z_c_comes_to_one ?z_k_comes_to_one ?z_a_sums_at_starts ?z_l_sums_at_starts ?z_c_sums_at_starts ?z_k_sums_at_starts ?z_a_is_full ?z_l_is_full ?z_c_is_full ?z_k_is_full ?z_a_check_over ?z_l_check_over ?z_c_check_over ?z_k_check_over ?z_a_RawBag_init ?z_i_RawBag_init ?z_l_RawBag_init ?z_c_RawBag_init ?z_k_RawBag_init ?z_a_raw ?z_l_raw ?z_c_raw ?z_k_raw ?z_a_beginnings ?z_l_beginnings ?z_c_beginnings ?z_k_beginnings ?z_a_check_number ?z_l_check_number ?z_c_check_number ?z_k_check_number ?z_a_least_unmet ?z_l_least_unmet ?z_c_least_unmet ?z_k_least_unmet ?z_a_unmet ?z_l_unmet ?z_c_unmet ?z_k_unmet ?z_a_law_ask ?z_l_law_ask ?z_c_law_ask ?z_k_law_ask ?z_a_law_letters_of ?z_l_law_letters_of ?z_c_law_letters_of ?z_k_law_letters_of ?z_a_law_due ?z_l_law_due ?z_c_law_due ?z_k_law_due ?z_a_law_question ?z_l_law_question ?z_c_law_question ?z_k_law_question ?z_a_law ?z_l_law ?z_c_law ?z_k_law ?z_nsBadBag ?z_ocBadBag ?z_orBadBag ?z_osaBadBag ?z_oexBadBag ?z_otyBadBag ?z_okpBadBag ?z_oicBadBag ?z_xgaBadBag ?z_xggBadBag ?z_xhdBadBag ?z_sveBadBag ?z_ossBadBag ?z_omrBadBag ?z_onfBadBag ?z_oksBadBag ?z_oinBadBag ?z_oitBadBag ?z_olfBadBag ?z_ocdBadBag ?z_olcBadBag ?z_olkBadBag ?z_ofiBadBag ?z_ofmBadBag ?z_oopBadBag ?z_otpBadBag ?z_osuBadBag ?z_cg ?z_ct ?z_pgBag ?z_hdBag ?z_poBag ?z_saBag ?z_mkBag ?z_kBBag ?z_n1Bag ?z_n2Bag ?z_n3Bag ?z_n4Bag ?z_ccBag ?z_coBag ?z_icBag ?z_tcBag ?z_neBag ?z_eqBag ?z_kpBag ?z_u_NoneType_Bag ?z_u_bool_Bag ?z_u_int_Bag ?z_u_str_Bag ?z_u_list_Bag ?z_u_tuple_Bag ?z_u_dict_Bag ?z_v_str_Bag ?z_pgRawBag ?z_hdRawBag ?z_poRawBag ?z_saRawBag ?z_mkRawBag ?z_kBRawBag ?z_n1RawBag ?z_n2RawBag ?z_n3RawBag ?z_n4RawBag ?z_ccRawBag ?z_coRawBag ?z_icRawBag ?z_tcRawBag ?z_neRawBag ?z_eqRawBag ?z_kpRawBag ?z_u_NoneType_RawBag ?z_u_bool_RawBag ?z_u_int_RawBag ?z_u_str_RawBag ?z_u_list_RawBag ?z_u_tuple_RawBag ?z_u_dict_RawBag ?z_v_str_RawBag ?z_sRB ?z_sBR ?z_dRB ?z_xgBagError ?z_xqBagError ?z_xkBagError ?z_xbBagError ?z_xtBagError ?z_xiBagError ?z_xsBagError ?z_xgNoAlphabet ?z_xqNoAlphabet ?z_xkNoAlphabet ?z_xbNoAlphabet ?z_xtNoAlphabet ?z_xiNoAlphabet ?z_xsNoAlphabet ?z_xgNoLetters ?z_xqNoLetters ?z_xkNoLetters ?z_xbNoLetters ?z_xtNoLetters ?z_xiNoLetters ?z_xsNoLetters ?z_xgNoNumber ?z_xqNoNumber ?z_xkNoNumber ?z_xbNoNumber ?z_xtNoNumber ?z_xiNoNumber ?z_xsNoNumber ?z_bv_ValueError ?z_y1NoAlphabet ?z_y2NoAlphabet ?z_y3NoAlphabet ?z_xBNoAlphabet ?z_kvNoAlphabet ?z_dn_NoAlphabet_NoLetters ?z_kr_NoAlphabet_NoLetters ?z_dn_NoAlphabet_NoNumber ?z_kr_NoAlphabet_NoNumber ?z_y1NoLetters ?z_y2NoLetters ?z_y3NoLetters ?z_xBNoLetters ?z_kvNoLetters ?z_dn_NoLetters_NoAlphabet ?z_kr_NoLetters_NoAlphabet ?z_dn_NoLetters_NoNumber ?z_kr_NoLetters_NoNumber ?z_y1NoNumber ?z_y2NoNumber ?z_y3NoNumber ?z_xBNoNumber ?z_kvNoNumber ?z_dn_NoNumber_NoAlphabet ?z_kr_NoNumber_NoAlphabet ?z_dn_NoNumber_NoLetters ?z_kr_NoNumber_NoLetters ?z_y4NoAlphabet ?z_y5NoAlphabet ?z_y4NoLetters ?z_y5NoLetters ?z_y4NoNumber ?z_y5NoNumber ?z_y4BadBag ?z_y5BadBag ?z_kbs ?z_kbb ?z_kbd ?z_b_isinstance ?z_b_int ?z_b_bool ?z_b_str ?z_b_dict ?z_b_list ?z_b_tuple ?z_b_len ?z_b_abs ?z_b_all ?z_b_any ?z_b_max ?z_b_min ?z_b_range ?z_b_sorted ?z_b_sum ?z_b_zip ?z_b_enumerate ?z_b_repr ?z_b_set ?z_g1 ?z_g2 ?z_g3 ?z_g4 ?z_l4 ?z_g_ALPHABETS ?z_l_ALPHABETS
    (case z_nsBag => k_is); (case z_nsRawBag => k_is); (case z_a_ahead_key => k_is); (case z_l_ahead_key => k_is); (case z_c_ahead_key => k_is); (case z_k_ahead_key => k_is); (case z_a_law_tape => k_is); (case z_l_law_tape => k_is); (case z_c_law_tape => k_is); (case z_k_law_tape => k_is); (case z_a_law_draw => k_is); (case z_l_law_draw => k_is); (case z_c_law_draw => k_is); (case z_k_law_draw => k_is); (case z_a_law_clock => k_is); (case z_l_law_clock => k_is); (case z_c_law_clock => k_is); (case z_k_law_clock => k_is); (case z_a_law_word => k_is); (case z_l_law_word => k_is); (case z_c_law_word => k_is); (case z_k_law_word => k_is); (case z_a_law_some => k_is); (case z_l_law_some => k_is); (case z_c_law_some => k_is); (case z_k_law_some => k_is); (case z_a_is_integer => k_is); (case z_l_is_integer => k_is); (case z_c_is_integer => k_is); (case z_k_is_integer => k_is); (case z_a_is_clock => k_is); (case z_l_is_clock => k_is); (case z_c_is_clock => k_is); (case z_k_is_clock => k_is); (case z_a_is_word => k_is); (case z_l_is_word => k_is); (case z_c_is_word => k_is); (case z_k_is_word => k_is); (case z_a_is_short_word => k_is); (case z_l_is_short_word => k_is); (case z_c_is_short_word => k_is); (case z_k_is_short_word => k_is); (case z_a_is_within => k_is); (case z_l_is_within => k_is); (case z_c_is_within => k_is); (case z_k_is_within => k_is); (case z_a_are_words => k_is); (case z_l_are_words => k_is); (case z_c_are_words => k_is); (case z_k_are_words => k_is); (case z_a_words_in_order => k_is); (case z_l_words_in_order => k_is); (case z_c_words_in_order => k_is); (case z_k_words_in_order => k_is); (case z_a_Bag_keep => k_is); (case z_i_Bag_keep => k_is); (case z_l_Bag_keep => k_is); (case z_c_Bag_keep => k_is); (case z_k_Bag_keep => k_is); (case z_a_Bag_init => k_is); (case z_i_Bag_init => k_is); (case z_l_Bag_init => k_is); (case z_c_Bag_init => k_is); (case z_k_Bag_init => k_is); (case z_a_law_alphabet => k_is); (case z_l_law_alphabet => k_is); (case z_c_law_alphabet => k_is); (case z_k_law_alphabet => k_is); (case z_a_law_thing => k_is); (case z_l_law_thing => k_is); (case z_c_law_thing => k_is); (case z_k_law_thing => k_is); (case z_a_check_alphabet => k_is); (case z_l_check_alphabet => k_is); (case z_c_check_alphabet => k_is); (case z_k_check_alphabet => k_is); (case z_a_is_over => k_is); (case z_l_is_over => k_is); (case z_c_is_over => k_is); (case z_k_is_over => k_is); (case z_a_comes_to_one => k_is); (case z_l_comes_to_one => k_is); (case z_c_comes_to_one => k_is); (case z_k_comes_to_one => k_is); (case z_a_sums_at_starts => k_is); (case z_l_sums_at_starts => k_is); (case z_c_sums_at_starts => k_is); (case z_k_sums_at_starts => k_is); (case z_a_is_full => k_is); (case z_l_is_full => k_is); (case z_c_is_full => k_is); (case z_k_is_full => k_is); (case z_a_check_over => k_is); (case z_l_check_over => k_is); (case z_c_check_over => k_is); (case z_k_check_over => k_is); (case z_a_RawBag_init => k_is); (case z_i_RawBag_init => k_is); (case z_l_RawBag_init => k_is); (case z_c_RawBag_init => k_is); (case z_k_RawBag_init => k_is); (case z_a_raw => k_is); (case z_l_raw => k_is); (case z_c_raw => k_is); (case z_k_raw => k_is); (case z_a_beginnings => k_is); (case z_l_beginnings => k_is); (case z_c_beginnings => k_is); (case z_k_beginnings => k_is); (case z_a_check_number => k_is); (case z_l_check_number => k_is); (case z_c_check_number => k_is); (case z_k_check_number => k_is); (case z_a_least_unmet => k_is); (case z_l_least_unmet => k_is); (case z_c_least_unmet => k_is); (case z_k_least_unmet => k_is); (case z_a_unmet => k_is); (case z_l_unmet => k_is); (case z_c_unmet => k_is); (case z_k_unmet => k_is); (case z_a_law_ask => k_is); (case z_l_law_ask => k_is); (case z_c_law_ask => k_is); (case z_k_law_ask => k_is); (case z_a_law_letters_of => k_is); (case z_l_law_letters_of => k_is); (case z_c_law_letters_of => k_is); (case z_k_law_letters_of => k_is); (case z_a_law_due => k_is); (case z_l_law_due => k_is); (case z_c_law_due => k_is); (case z_k_law_due => k_is); (case z_a_law_question => k_is); (case z_l_law_question => k_is); (case z_c_law_question => k_is); (case z_k_law_question => k_is); (case z_a_law => k_is); (case z_l_law => k_is); (case z_c_law => k_is); (case z_k_law => k_is); (case z_nsBadBag => k_is); (case z_ocBadBag => (first | k_is | exact rfl | kernel_rfl)); (case z_orBadBag => (first | exact rfl | kernel_rfl)); (case z_osaBadBag => k_is); (case z_oexBadBag => k_is); (case z_otyBadBag => k_is); (case z_okpBadBag => k_is); (case z_oicBadBag => k_is); (case z_xgaBadBag => k_is); (case z_xggBadBag => k_is); (case z_xhdBadBag => k_is); (case z_sveBadBag => k_is); (case z_ossBadBag => k_is); (case z_omrBadBag => k_is); (case z_onfBadBag => k_is); (case z_oksBadBag => (first | ks_is | k_is | exact rfl | kernel_rfl)); (case z_oinBadBag => k_is); (case z_oitBadBag => k_is); (case z_olfBadBag => k_is); (case z_ocdBadBag => k_is); (case z_olcBadBag => k_is); (case z_olkBadBag => k_is); (case z_ofiBadBag => (first | exact rfl | kernel_rfl)); (case z_ofmBadBag => (first | exact rfl | kernel_rfl | decide +kernel)); (case z_oopBadBag => k_is); (case z_otpBadBag => (first | exact rfl | kernel_rfl | decide +kernel)); (case z_osuBadBag => k_is); (case z_cg => k_is); (case z_ct => k_is); (case z_pgBag => k_is); (case z_hdBag => k_is); (case z_poBag => k_is); (case z_saBag => k_is); (case z_mkBag => k_is); (case z_kBBag => k_is); (case z_n1Bag => k_is); (case z_n2Bag => k_is); (case z_n3Bag => k_is); (case z_n4Bag => k_is); (case z_ccBag => k_is); (case z_coBag => k_is); (case z_icBag => k_is); (case z_tcBag => k_is); (case z_neBag => k_is); (case z_eqBag => k_is); (case z_kpBag => k_is); (case z_u_NoneType_Bag => k_is); (case z_u_bool_Bag => k_is); (case z_u_int_Bag => k_is); (case z_u_str_Bag => k_is); (case z_u_list_Bag => k_is); (case z_u_tuple_Bag => k_is); (case z_u_dict_Bag => k_is); (case z_v_str_Bag => k_is); (case z_pgRawBag => k_is); (case z_hdRawBag => k_is); (case z_poRawBag => k_is); (case z_saRawBag => k_is); (case z_mkRawBag => k_is); (case z_kBRawBag => k_is); (case z_n1RawBag => k_is); (case z_n2RawBag => k_is); (case z_n3RawBag => k_is); (case z_n4RawBag => k_is); (case z_ccRawBag => k_is); (case z_coRawBag => k_is); (case z_icRawBag => k_is); (case z_tcRawBag => k_is); (case z_neRawBag => k_is); (case z_eqRawBag => k_is); (case z_kpRawBag => k_is); (case z_u_NoneType_RawBag => k_is); (case z_u_bool_RawBag => k_is); (case z_u_int_RawBag => k_is); (case z_u_str_RawBag => k_is); (case z_u_list_RawBag => k_is); (case z_u_tuple_RawBag => k_is); (case z_u_dict_RawBag => k_is); (case z_v_str_RawBag => k_is); (case z_sRB => k_is); (case z_sBR => k_is); (case z_dRB => decide); (case z_xgBagError => k_is); (case z_xqBagError => k_exc); (case z_xkBagError => k_is); (case z_xbBagError => k_is); (case z_xtBagError => k_is); (case z_xiBagError => k_is); (case z_xsBagError => k_is); (case z_xgNoAlphabet => k_is); (case z_xqNoAlphabet => k_exc); (case z_xkNoAlphabet => k_is); (case z_xbNoAlphabet => k_is); (case z_xtNoAlphabet => k_is); (case z_xiNoAlphabet => k_is); (case z_xsNoAlphabet => k_is); (case z_xgNoLetters => k_is); (case z_xqNoLetters => k_exc); (case z_xkNoLetters => k_is); (case z_xbNoLetters => k_is); (case z_xtNoLetters => k_is); (case z_xiNoLetters => k_is); (case z_xsNoLetters => k_is); (case z_xgNoNumber => k_is); (case z_xqNoNumber => k_exc); (case z_xkNoNumber => k_is); (case z_xbNoNumber => k_is); (case z_xtNoNumber => k_is); (case z_xiNoNumber => k_is); (case z_xsNoNumber => k_is); (case z_bv_ValueError => k_is); (case z_y1NoAlphabet => k_is); (case z_y2NoAlphabet => k_is); (case z_y3NoAlphabet => k_is); (case z_xBNoAlphabet => k_is); (case z_kvNoAlphabet => k_is); (case z_dn_NoAlphabet_NoLetters => decide); (case z_kr_NoAlphabet_NoLetters => k_is); (case z_dn_NoAlphabet_NoNumber => decide); (case z_kr_NoAlphabet_NoNumber => k_is); (case z_y1NoLetters => k_is); (case z_y2NoLetters => k_is); (case z_y3NoLetters => k_is); (case z_xBNoLetters => k_is); (case z_kvNoLetters => k_is); (case z_dn_NoLetters_NoAlphabet => decide); (case z_kr_NoLetters_NoAlphabet => k_is); (case z_dn_NoLetters_NoNumber => decide); (case z_kr_NoLetters_NoNumber => k_is); (case z_y1NoNumber => k_is); (case z_y2NoNumber => k_is); (case z_y3NoNumber => k_is); (case z_xBNoNumber => k_is); (case z_kvNoNumber => k_is); (case z_dn_NoNumber_NoAlphabet => decide); (case z_kr_NoNumber_NoAlphabet => k_is); (case z_dn_NoNumber_NoLetters => decide); (case z_kr_NoNumber_NoLetters => k_is); (case z_y4NoAlphabet => k_is); (case z_y5NoAlphabet => k_is); (case z_y4NoLetters => k_is); (case z_y5NoLetters => k_is); (case z_y4NoNumber => k_is); (case z_y5NoNumber => k_is); (case z_y4BadBag => k_is); (case z_y5BadBag => k_is); (case z_kbs => k_is); (case z_kbb => k_is); (case z_kbd => decide); (case z_b_isinstance => k_is); (case z_b_int => k_is); (case z_b_bool => k_is); (case z_b_str => k_is); (case z_b_dict => k_is); (case z_b_list => k_is); (case z_b_tuple => k_is); (case z_b_len => k_is); (case z_b_abs => k_is); (case z_b_all => k_is); (case z_b_any => k_is); (case z_b_max => k_is); (case z_b_min => k_is); (case z_b_range => k_is); (case z_b_sorted => k_is); (case z_b_sum => k_is); (case z_b_zip => k_is); (case z_b_enumerate => k_is); (case z_b_repr => k_is); (case z_b_set => k_is); (case z_g1 => k_is); (case z_g2 => k_is); (case z_g3 => k_is); (case z_g4 => k_is); (case z_l4 => k_is); (case z_g_ALPHABETS => k_is); (case z_l_ALPHABETS => k_is)
