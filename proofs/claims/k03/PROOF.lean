import PyProof.Rows.All
import Wide.All
import OpenK.AllK
import Wide.FinOn
import HandS.ForMost
import HandS.Evl
import HandS.Steps
import HandS.Style
import HandS.Wide
import HandS.IsInst
import HandS.Exc
import HandS.ExcOwn
import HandS.WordsExc
import HandS.TryOnly
import HandS.StrMore
import HandS.Deep
import HandS.Flow
import PyProof.CollectStr
import HandS.More
import HandS.Set
import HandS.TupSets
import KE.SortData
import PySem.Challenge.RW_piecetally_k03_whole_together
set_option Elab.async false
set_option linter.all false
set_option maxRecDepth 100000
set_option maxHeartbeats 4000000
/-! rows scattered in words -/
namespace Pt
/-- in how many ways a row stands scattered in a word -/
def sc : List Nat → List Nat → Nat
  | _, [] => 1
  | [], _ :: _ => 0
  | c :: w, r :: q => sc w (r :: q) + if c = r then sc w q else 0
theorem sc_nil (w : List Nat) : sc w [] = 1 := by cases w <;> rfl
theorem sc_none (r : Nat) (q : List Nat) : sc [] (r :: q) = 0 := rfl
theorem sc_cons (c : Nat) (w : List Nat) (r : Nat) (q : List Nat) : sc (c :: w) (r :: q) = sc w (r :: q) + if c = r then sc w q else 0 := rfl
theorem sc_snoc : ∀ (p : List Nat) (c : Nat) (q : List Nat) (r : Nat), sc (p ++ [c]) (q ++ [r]) = sc p (q ++ [r]) + if c = r then sc p q else 0
  | [], c, [], r => by simp [sc]
  | [], c, x :: q, r => by
    have h : sc [] (q ++ [r]) = 0 := by cases q <;> rfl
    simp [sc, h]
  | d :: p, c, [], r => by
    have ih := sc_snoc p c [] r
    simp only [List.nil_append, List.cons_append, sc_cons, sc_nil] at ih ⊢
    omega
  | d :: p, c, x :: q, r => by
    have ih1 := sc_snoc p c (x :: q) r
    have ih2 := sc_snoc p c q r
    simp only [List.cons_append, sc_cons] at ih1 ih2 ⊢
    rw [ih1, ih2]
    by_cases h1 : d = x <;> by_cases h2 : c = r <;> simp [h1, h2] <;> omega
theorem sc_rev : ∀ (w q : List Nat), sc w.reverse q.reverse = sc w q
  | w, [] => by simp [sc_nil]
  | [], r :: q => by
    rw [List.reverse_cons]
    have : sc ([] : List Nat).reverse (q.reverse ++ [r]) = 0 := by
      show sc [] (q.reverse ++ [r]) = 0
      cases q.reverse <;> rfl
    rw [this]; rfl
  | c :: w, r :: q => by
    rw [List.reverse_cons, List.reverse_cons, sc_snoc, ← List.reverse_cons, sc_rev w (r :: q), sc_rev w q, sc_cons]
theorem sc_map {f : Nat → Nat} : ∀ (w q : List Nat), (∀ a ∈ w, ∀ b ∈ q, f a = f b → a = b) → sc (w.map f) (q.map f) = sc w q
  | w, [], _ => by simp [sc_nil]
  | [], r :: q, _ => rfl
  | c :: w, r :: q, h => by
    have i1 := sc_map w (r :: q) fun a ha b hb => h a (List.mem_cons_of_mem _ ha) b hb
    have i2 := sc_map w q fun a ha b hb => h a (List.mem_cons_of_mem _ ha) b (List.mem_cons_of_mem _ hb)
    simp only [List.map_cons, sc_cons] at i1 ⊢
    rw [i1, i2]
    by_cases e : c = r
    · simp [e]
    · have : f c ≠ f r := fun z => e (h c List.mem_cons_self r List.mem_cons_self z)
      simp [e, this]
/-- the partings of a row -/
def conv (w u q : List Nat) : Nat := ((List.range (q.length + 1)).map fun i => sc w (q.take i) * sc u (q.drop i)).sum
def conv' (w u : List Nat) : List Nat → Nat
  | [] => 1
  | r :: q => sc u (r :: q) + ((List.range (q.length + 1)).map fun i => sc w (r :: q.take i) * sc u (q.drop i)).sum
theorem conv_eq (w u q : List Nat) : conv w u q = conv' w u q := by
  cases q with
  | nil => simp [conv, conv', sc_nil]
  | cons r q =>
    unfold conv conv'
    rw [List.length_cons, List.range_succ_eq_map, List.map_cons, List.sum_cons]
    simp only [List.take_zero, List.drop_zero, sc_nil, Nat.one_mul, List.map_map, Function.comp_def, List.take_succ_cons, List.drop_succ_cons]
theorem sum_map_add {α : Type} (f g : α → Nat) : ∀ l : List α, (l.map fun i => f i + g i).sum = (l.map f).sum + (l.map g).sum
  | [] => rfl
  | x :: l => by simp only [List.map_cons, List.sum_cons, sum_map_add f g l]; omega
theorem sc_app : ∀ (w u q : List Nat), sc (w ++ u) q = conv w u q
  | w, u, [] => by simp [conv_eq, conv', sc_nil]
  | [], u, r :: q => by
    rw [conv_eq]
    unfold conv'
    have : ∀ i, sc [] (r :: q.take i) * sc u (q.drop i) = 0 := fun i => by rw [sc_none, Nat.zero_mul]
    simp only [this]
    have z : ∀ n, ((List.range n).map fun _ => 0).sum = 0 := fun n => by
      induction n with
      | zero => rfl
      | succ n ih => rw [List.range_succ, List.map_append, List.sum_append, ih]; rfl
    rw [z]; rfl
  | c :: w, u, r :: q => by
    have i1 := sc_app w u (r :: q)
    have i2 := sc_app w u q
    rw [List.cons_append, sc_cons, i1, i2, conv_eq w u (r :: q), conv_eq (c :: w) u (r :: q)]
    show sc u (r :: q) + _ + _ = sc u (r :: q) + ((List.range (q.length + 1)).map fun i => sc (c :: w) (r :: q.take i) * sc u (q.drop i)).sum
    by_cases e : c = r
    · simp only [e, if_true, sc_cons, Nat.add_mul]
      rw [sum_map_add, ← Nat.add_assoc]
      rfl
    · simp only [e, if_false, sc_cons, Nat.add_zero]
theorem sc_le (w : List Nat) : ∀ q : List Nat, sc w q ≤ 2 ^ w.length := by
  induction w with
  | nil => intro q; cases q <;> simp [sc]
  | cons c w ih =>
    intro q
    cases q with
    | nil => rw [sc_nil]; exact Nat.one_le_two_pow
    | cons r q =>
      have a := ih (r :: q)
      have b := ih q
      rw [sc_cons, List.length_cons, Nat.pow_succ]
      split <;> omega
/-! ### the table that grows letter by letter -/
/-- one letter: places from the last one down -/
def put (q : List Nat) (c : Nat) (t : List Nat) : Nat → List Nat
  | 0 => t
  | k + 1 => put q c (if q[k]? = some c then t.set (k + 1) (t.getD (k + 1) 0 + t.getD k 0) else t) k
def tab (q w : List Nat) : List Nat := (List.range (q.length + 1)).map fun i => sc w (q.take i)
theorem tab_len (q w : List Nat) : (tab q w).length = q.length + 1 := by simp [tab]
theorem tab_get (q w : List Nat) {i : Nat} (h : i ≤ q.length) : (tab q w)[i]? = some (sc w (q.take i)) := by
  unfold tab
  rw [List.getElem?_map, List.getElem?_range (by omega)]; rfl
/-- while the places fall: above k the new ones -/
def mid (q w : List Nat) (c k : Nat) : List Nat := (List.range (q.length + 1)).map fun i => if k < i then sc (w ++ [c]) (q.take i) else sc w (q.take i)
theorem mid_top (q w : List Nat) (c : Nat) : mid q w c q.length = tab q w := by
  unfold mid tab
  refine List.map_congr_left fun i hi => ?_
  rw [List.mem_range] at hi
  rw [if_neg (by omega)]
theorem mid_zero (q w : List Nat) (c : Nat) : mid q w c 0 = tab q (w ++ [c]) := by
  unfold mid tab
  refine List.map_congr_left fun i hi => ?_
  by_cases h : 0 < i
  · rw [if_pos h]
  · have : i = 0 := by omega
    subst this
    simp [sc_nil]
theorem mid_get (q w : List Nat) (c k : Nat) {i : Nat} (h : i ≤ q.length) : (mid q w c k)[i]? = some (if k < i then sc (w ++ [c]) (q.take i) else sc w (q.take i)) := by
  unfold mid
  rw [List.getElem?_map, List.getElem?_range (by omega)]; rfl
theorem mid_len (q w : List Nat) (c k : Nat) : (mid q w c k).length = q.length + 1 := by simp [mid]
theorem mid_step (q w : List Nat) (c k : Nat) (hk : k < q.length) :
    mid q w c k = if q[k]? = some c then (mid q w c (k + 1)).set (k + 1) (sc w (q.take (k + 1)) + sc w (q.take k)) else mid q w c (k + 1) := by
  have et : q.take (k + 1) = q.take k ++ [q[k]] := by rw [List.take_add_one, List.getElem?_eq_getElem hk]; rfl
  have es := sc_snoc w c (q.take k) q[k]
  apply List.ext_getElem?
  intro i
  by_cases hi : i ≤ q.length
  · rw [mid_get q w c k hi]
    by_cases hc : q[k]? = some c
    · rw [if_pos hc]
      have hc' : q[k] = c := by rw [List.getElem?_eq_getElem hk] at hc; exact Option.some.inj hc
      by_cases e : i = k + 1
      · subst e
        rw [List.getElem?_set_self (by rw [mid_len]; omega), if_pos (by omega), et, es, hc', if_pos rfl]
      · rw [List.getElem?_set_ne (by omega), mid_get q w c (k + 1) hi]
        by_cases h2 : k + 1 < i
        · rw [if_pos h2, if_pos (by omega)]
        · rw [if_neg h2, if_neg (by omega)]
    · rw [if_neg hc, mid_get q w c (k + 1) hi]
      have hc' : c ≠ q[k] := fun z => hc (by rw [List.getElem?_eq_getElem hk, z])
      by_cases e : i = k + 1
      · subst e
        rw [if_pos (by omega), if_neg (by omega), et, es, if_neg hc']; rfl
      · by_cases h2 : k + 1 < i
        · rw [if_pos h2, if_pos (by omega)]
        · rw [if_neg h2, if_neg (by omega)]
  · have h1 : (mid q w c k).length ≤ i := by rw [mid_len]; omega
    rw [List.getElem?_eq_none h1]
    split
    · rw [List.getElem?_eq_none (by rw [List.length_set, mid_len]; omega)]
    · rw [List.getElem?_eq_none (by rw [mid_len]; omega)]
/-! ### the table reckoned, for written words -/
def rowK (q : List Nat) (c : Nat) (t : List Nat) : List Nat := match t with
  | [] => []
  | x :: r => x :: go c q x r
where
  go (c : Nat) : List Nat → Nat → List Nat → List Nat
    | y :: q, old, v :: r => (v + if y = c then old else 0) :: go c q v r
    | _, _, _ => []
def tabK (q : List Nat) : List Nat → List Nat → List Nat
  | t, [] => t
  | t, c :: w => tabK q (rowK q c t) w
theorem go_eq (w : List Nat) (c : Nat) : ∀ (p q : List Nat), rowK.go c q (sc w p) ((List.range q.length).map fun i => sc w (p ++ q.take (i + 1))) = (List.range q.length).map fun i => sc (w ++ [c]) (p ++ q.take (i + 1))
  | p, [] => rfl
  | p, y :: q => by
    have ih := go_eq w c (p ++ [y]) q
    rw [List.length_cons, List.range_succ_eq_map, List.map_cons, List.map_map, List.map_cons, List.map_map]
    show (sc w (p ++ [y]) + if y = c then sc w p else 0) :: rowK.go c q (sc w (p ++ [y])) _ = sc (w ++ [c]) (p ++ [y]) :: _
    have e1 : sc (w ++ [c]) (p ++ [y]) = sc w (p ++ [y]) + if y = c then sc w p else 0 := by
      rw [sc_snoc]
      congr 1
      by_cases h : c = y
      · rw [if_pos h, if_pos h.symm]
      · rw [if_neg h, if_neg fun z => h z.symm]
    rw [e1]
    congr 1
    have f1 : ((fun i => sc w (p ++ (y :: q).take (i + 1))) ∘ Nat.succ) = fun i => sc w (p ++ [y] ++ q.take (i + 1)) := by
      funext i
      show sc w (p ++ y :: q.take (i + 1)) = _
      rw [List.append_assoc]; rfl
    have f2 : ((fun i => sc (w ++ [c]) (p ++ (y :: q).take (i + 1))) ∘ Nat.succ) = fun i => sc (w ++ [c]) (p ++ [y] ++ q.take (i + 1)) := by
      funext i
      show sc (w ++ [c]) (p ++ y :: q.take (i + 1)) = _
      rw [List.append_assoc]; rfl
    rw [f1, f2]
    exact ih
theorem row_eq (q w : List Nat) (c : Nat) : rowK q c (tab q w) = tab q (w ++ [c]) := by
  have h := go_eq w c [] q
  have e : ∀ w, tab q w = 1 :: (List.range q.length).map fun i => sc w ([] ++ q.take (i + 1)) := fun w => by
    unfold tab
    rw [List.range_succ_eq_map, List.map_cons, List.map_map]
    show sc w [] :: _ = _
    rw [sc_nil]
    rfl
  rw [e w, e (w ++ [c])]
  rw [sc_nil] at h
  show 1 :: rowK.go c q 1 _ = _
  rw [h]
theorem tabK_eq (q : List Nat) : ∀ (w u : List Nat), tabK q (tab q u) w = tab q (u ++ w)
  | [], u => by rw [List.append_nil]; rfl
  | c :: w, u => by
    show tabK q (rowK q c (tab q u)) w = _
    rw [row_eq, tabK_eq q w (u ++ [c]), List.append_assoc]; rfl
theorem sc_tabK (w q : List Nat) (n : Nat) (h : (tabK q (tab q []) w)[q.length]? = some n) : sc w q = n := by
  rw [tabK_eq, List.nil_append, tab_get _ _ (Nat.le_refl _), List.take_length] at h
  exact Option.some.inj h
end Pt

/-! words in order -/
namespace Pt
abbrev W := List Nat
theorem wle_trans {a b c : W} (h : a ≤ b) (k : b ≤ c) : a ≤ c := List.le_trans h k
theorem wle_antisymm {a b : W} (h : a ≤ b) (k : b ≤ a) : a = b := List.le_antisymm h k
theorem wlt_of {a b : W} (h : a ≤ b) (n : a ≠ b) : a < b := Classical.byContradiction fun z => n (wle_antisymm h (List.not_lt.mp z))
theorem wle_of {a b : W} (h : a < b) : a ≤ b := List.not_lt.mp fun z => List.lt_irrefl a (List.lt_trans h z)
theorem wlt_ne {a b : W} (h : a < b) : a ≠ b := fun e => List.lt_irrefl b (e ▸ h)
theorem wlt_trans {a b c : W} (h : a < b) (k : b < c) : a < c := List.lt_trans h k
theorem wlt_irrefl (a : W) : ¬ a < a := List.lt_irrefl a
theorem wlt_asymm {a b : W} (h : a < b) : ¬ b < a := fun k => wlt_irrefl a (wlt_trans h k)
theorem wlt_tri (a b : W) : a < b ∨ a = b ∨ b < a := by
  by_cases h : a < b
  · exact .inl h
  · by_cases e : a = b
    · exact .inr (.inl e)
    · exact .inr (.inr (wlt_of (List.not_lt.mp h) fun z => e z.symm))
/-- in order -/
def srt (xs : List W) : List W := xs.mergeSort fun a b => decide (a ≤ b)
theorem srt_perm (xs : List W) : (srt xs).Perm xs := List.mergeSort_perm ..
theorem srt_le (xs : List W) : (srt xs).Pairwise (· ≤ ·) := by
  have := List.pairwise_mergeSort (le := fun a b : W => decide (a ≤ b)) (fun a b c h k => decide_eq_true (wle_trans (of_decide_eq_true h) (of_decide_eq_true k)))
    (fun a b => by
      rcases List.le_total a b with h | h
      · simp [h]
      · simp [h]) xs
  exact this.imp fun h => of_decide_eq_true h
theorem srt_eq {xs ys : List W} (h : ys.Perm xs) (s : ys.Pairwise (· ≤ ·)) : ys = srt xs :=
  List.Perm.eq_of_pairwise (fun _ _ _ _ => wle_antisymm) s (srt_le xs) (h.trans (srt_perm xs).symm)
theorem mem_srt {xs : List W} {w : W} : w ∈ srt xs ↔ w ∈ xs := (srt_perm xs).mem_iff
theorem srt_len (xs : List W) : (srt xs).length = xs.length := (srt_perm xs).length_eq
theorem srt_congr {xs ys : List W} (h : xs.Perm ys) : srt xs = srt ys := srt_eq ((srt_perm xs).trans h) (srt_le xs)
theorem srt_self {xs : List W} (s : xs.Pairwise (· ≤ ·)) : srt xs = xs := (srt_eq (List.Perm.refl _) s).symm
/-- rising: each once -/
def Rising (xs : List W) : Prop := xs.Pairwise (· < ·)
theorem Rising.le {xs : List W} (h : Rising xs) : xs.Pairwise (· ≤ ·) := h.imp wle_of
theorem Rising.nodup {xs : List W} (h : Rising xs) : xs.Nodup := h.imp wlt_ne
theorem rising_of {xs : List W} (s : xs.Pairwise (· ≤ ·)) (n : xs.Nodup) : Rising xs := (s.and n).imp fun ⟨h, k⟩ => wlt_of h k
theorem rising_eq {xs ys : List W} (h : Rising xs) (k : Rising ys) (m : ∀ w, w ∈ xs ↔ w ∈ ys) : xs = ys := by
  have p : xs.Perm ys := (List.perm_ext_iff_of_nodup h.nodup k.nodup).mpr m
  exact List.Perm.eq_of_pairwise (fun _ _ _ _ => wle_antisymm) h.le k.le p
/-- each once -/
def once : List W → List W
  | [] => []
  | x :: r => if x ∈ r then once r else x :: once r
theorem mem_once {w : W} : ∀ {xs : List W}, w ∈ once xs ↔ w ∈ xs
  | [] => Iff.rfl
  | x :: r => by
    unfold once
    by_cases h : x ∈ r
    · rw [if_pos h, mem_once, List.mem_cons]
      exact ⟨.inr, fun z => z.elim (fun e => e ▸ h) id⟩
    · rw [if_neg h, List.mem_cons, List.mem_cons, mem_once]
theorem once_nodup : ∀ xs : List W, (once xs).Nodup
  | [] => .nil
  | x :: r => by
    unfold once
    by_cases h : x ∈ r
    · rw [if_pos h]; exact once_nodup r
    · rw [if_neg h]
      exact List.nodup_cons.mpr ⟨fun z => h (mem_once.mp z), once_nodup r⟩
/-- all once, in order -/
def uni (xs : List W) : List W := srt (once xs)
theorem mem_uni {xs : List W} {w : W} : w ∈ uni xs ↔ w ∈ xs := by rw [uni, mem_srt, mem_once]
theorem nodup_uni (xs : List W) : (uni xs).Nodup := (srt_perm _).symm.nodup (once_nodup xs)
theorem rising_uni (xs : List W) : Rising (uni xs) := rising_of (srt_le _) (nodup_uni xs)
theorem uni_eq {xs ys : List W} (h : Rising ys) (m : ∀ w, w ∈ ys ↔ w ∈ xs) : ys = uni xs := rising_eq h (rising_uni xs) fun w => (m w).trans mem_uni.symm
theorem uni_congr {xs ys : List W} (m : ∀ w, w ∈ xs ↔ w ∈ ys) : uni xs = uni ys := uni_eq (rising_uni xs) fun w => mem_uni.trans (m w)
end Pt

namespace Pt
open PySem PySem.Spec PyProof.Rows L2 Evl

/-! ### texts as lists of signs -/
abbrev S (w : List Nat) : V := .str ⟨w.toArray⟩
theorem S_inj {a b : List Nat} (h : S a = S b) : a = b := by
  have h1 := V.str.inj h
  have h2 := congrArg (fun z : Str => z.cps.toList) h1
  exact h2
theorem S_eq {a b : List Nat} : (S a = S b) ↔ a = b := ⟨S_inj, fun h => by rw [h]⟩
theorem S_len (a : List Nat) : (⟨a.toArray⟩ : Str).length = a.length := by simp [Str.length]
theorem S_app (a b : List Nat) : ((⟨a.toArray⟩ : Str) ++ (⟨b.toArray⟩ : Str)) = ⟨(a ++ b).toArray⟩ := TL.ext_tl (by rw [TL.tl_append])
theorem S_tl (a : List Nat) : (⟨a.toArray⟩ : Str).cps.toList = a := rfl

/-! ### the heap goes on: all but what stands at own -/
def Ek (own : List Addr) (H H' : Hp) : Prop := (∀ a o, a ∉ own → H a = some o → H' a = some o) ∧ ∀ a xs, H a = some (.tup xs) → H' a = some (.tup xs)
theorem Ek.refl {own : List Addr} (H : Hp) : Ek own H H := ⟨fun _ _ _ h => h, fun _ _ h => h⟩
theorem Ek.trans {own : List Addr} {H H1 H2 : Hp} (a : Ek own H H1) (b : Ek own H1 H2) : Ek own H H2 := ⟨fun x o n h => b.1 x o n (a.1 x o n h), fun x o h => b.2 x o (a.2 x o h)⟩
theorem Ek.of {own : List Addr} {H H' : Hp} (e : Ex H H') : Ek own H H' := ⟨fun a o _ h => e a o h, fun a xs h => e a _ h⟩
theorem Ek.then {own : List Addr} {H H1 H2 : Hp} (a : Ek own H H1) (b : Ex H1 H2) : Ek own H H2 := a.trans (Ek.of b)
theorem Ek.mut {own : List Addr} {H H' : Hp} {l : Addr} {o u : HO} (e : Ek own H H') (hl : l ∈ own) (h : H' l = some o) (ht : ∀ xs, o ≠ .tup xs) : Ek own H (upd H' l u) :=
  ⟨fun a x n q => by rw [upd_ne (fun z => n (by rw [z]; exact hl))]; exact e.1 a x n q, fun a xs q => by
    have q' := e.2 a xs q
    by_cases z : a = l
    · subst z
      rw [h] at q'
      exact absurd (Option.some.inj q') (ht xs)
    · rw [upd_ne z]; exact q'⟩
theorem Ek.put {own : List Addr} {H H' : Hp} {l : Addr} {u : HO} (e : Ek own H H') (h : H' l = none) : Ek own H (upd H' l u) := e.then (Ex.new h)
/-- what H does not know may be one's own from here on -/
theorem Ek.more {own : List Addr} {H H' : Hp} (e : Ek [] H H') : Ek own H H' := ⟨fun a o _ h => e.1 a o (by simp) h, e.2⟩
theorem Ek.less {l : Addr} {own : List Addr} {H H' : Hp} (e : Ek (l :: own) H H') (h : H l = none) : Ek own H H' :=
  ⟨fun a o n q => e.1 a o (fun z => (List.mem_cons.mp z).elim (fun z => by rw [z, h] at q; cases q) n) q, e.2⟩
theorem Ek.ex {H H' : Hp} (e : Ek [] H H') : Ex H H' := fun a o h => e.1 a o (by simp) h
theorem Ex.fresh {H H' : Hp} {p : Addr} (e : Ex H H') (h : H' p = none) : H p = none := fresh_back e h

/-! ### data: what stands in tuples, lists -/
mutual
inductive It (H : Hp) : V → PyData → Prop
  | non : It H .non .none
  | bl (b : Bool) : It H (.bl b) (.bool b)
  | int (i : Int) : It H (.int i) (.int i)
  | str (x : Str) : It H (.str x) (.str x)
  | tup {a : Addr} {vs : List V} {ds : List PyData} : H a = some (.tup vs) → Its H vs ds → It H (.ref a) (.tuple ds)
inductive Its (H : Hp) : List V → List PyData → Prop
  | nil : Its H [] []
  | cons {v : V} {vs : List V} {d : PyData} {ds : List PyData} : It H v d → Its H vs ds → Its H (v :: vs) (d :: ds)
end
mutual
theorem It.mono {own : List Addr} {H H' : Hp} (e : Ek own H H') : ∀ (d : PyData) (v : V), It H v d → It H' v d
  | .none, _, h => by cases h; exact .non
  | .bool _, _, h => by cases h; exact .bl _
  | .int _, _, h => by cases h; exact .int _
  | .str _, _, h => by cases h; exact .str _
  | .list _, _, h => by cases h
  | .dict _, _, h => by cases h
  | .tuple ds, _, h => by
    cases h with
    | tup h1 h2 => exact .tup (e.2 _ _ h1) (Its.mono e ds _ h2)
theorem Its.mono {own : List Addr} {H H' : Hp} (e : Ek own H H') : ∀ (ds : List PyData) (vs : List V), Its H vs ds → Its H' vs ds
  | [], _, h => by cases h; exact .nil
  | d :: ds, _, h => by
    cases h with
    | cons h1 h2 => exact .cons (It.mono e d _ h1) (Its.mono e ds _ h2)
end
theorem Its.length {H : Hp} : ∀ {ds : List PyData} {vs : List V}, Its H vs ds → vs.length = ds.length
  | [], _, h => by cases h; rfl
  | d :: ds, _, h => by
    cases h with
    | cons _ h2 => rw [List.length_cons, List.length_cons, h2.length]
theorem Its.get {H : Hp} : ∀ {ds : List PyData} {vs : List V} {i : Nat} {v : V}, Its H vs ds → vs[i]? = some v → ∃ d, ds[i]? = some d ∧ It H v d
  | [], _, _, _, h, e => by cases h; simp at e
  | d :: ds, _, 0, _, h, e => by
    cases h with
    | cons h1 h2 => simp at e; subst e; exact ⟨d, rfl, h1⟩
  | d :: ds, _, i + 1, v, h, e => by
    cases h with
    | cons h1 h2 => exact h2.get (i := i) (by simpa using e)
theorem Its.at {H : Hp} : ∀ {ds : List PyData} {vs : List V} {i : Nat} {d : PyData}, Its H vs ds → ds[i]? = some d → ∃ v, vs[i]? = some v ∧ It H v d
  | [], _, _, _, _, e => by simp at e
  | d :: ds, _, 0, _, h, e => by
    cases h with
    | cons h1 h2 => simp at e; subst e; exact ⟨_, rfl, h1⟩
  | d :: ds, _, i + 1, v, h, e => by
    cases h with
    | cons h1 h2 => exact h2.at (i := i) (by simpa using e)
theorem Its.append {H : Hp} : ∀ {as bs : List PyData} {us vs : List V}, Its H us as → Its H vs bs → Its H (us ++ vs) (as ++ bs)
  | [], _, _, _, h, k => by cases h; exact k
  | a :: as, _, _, _, h, k => by
    cases h with
    | cons h1 h2 => exact .cons h1 (h2.append k)
theorem Its.drop {H : Hp} : ∀ (n : Nat) {as : List PyData} {us : List V}, Its H us as → Its H (us.drop n) (as.drop n)
  | 0, _, _, h => h
  | n + 1, [], _, h => by cases h; exact .nil
  | n + 1, a :: as, _, h => by
    cases h with
    | cons h1 h2 => exact Its.drop n h2
theorem Its.take {H : Hp} : ∀ (n : Nat) {as : List PyData} {us : List V}, Its H us as → Its H (us.take n) (as.take n)
  | 0, _, _, h => .nil
  | n + 1, [], _, h => by cases h; exact .nil
  | n + 1, a :: as, _, h => by
    cases h with
    | cons h1 h2 => exact .cons h1 (Its.take n h2)
theorem Its.set {H : Hp} {v : V} {d : PyData} (hv : It H v d) : ∀ (n : Nat) {as : List PyData} {us : List V}, Its H us as → Its H (us.set n v) (as.set n d)
  | _, [], _, h => by cases h; exact .nil
  | 0, a :: as, _, h => by
    cases h with
    | cons h1 h2 => exact .cons hv h2
  | n + 1, a :: as, _, h => by
    cases h with
    | cons h1 h2 => exact .cons h1 (Its.set hv n h2)
abbrev dI (i : Int) : PyData := .int i
abbrev dN (i : Nat) : PyData := .int (i : Int)
abbrev dS (w : List Nat) : PyData := .str ⟨w.toArray⟩
abbrev dB (b : Bool) : PyData := .bool b
theorem It.int_inv {H : Hp} {v : V} {i : Int} (h : It H v (.int i)) : v = .int i := by cases h; rfl
theorem It.str_inv {H : Hp} {v : V} {w : Str} (h : It H v (.str w)) : v = .str w := by cases h; rfl
theorem It.bl_inv {H : Hp} {v : V} {b : Bool} (h : It H v (.bool b)) : v = .bl b := by cases h; rfl
theorem Its.ints {H : Hp} : ∀ {ns : List Int} {vs : List V}, Its H vs (ns.map dI) → vs = ns.map V.int
  | [], _, h => by cases h; rfl
  | n :: ns, _, h => by
    cases h with
    | cons h1 h2 => rw [h1.int_inv, h2.ints]; rfl
theorem Its.strs {H : Hp} : ∀ {ns : List (List Nat)} {vs : List V}, Its H vs (ns.map dS) → vs = ns.map S
  | [], _, h => by cases h; rfl
  | n :: ns, _, h => by
    cases h with
    | cons h1 h2 => rw [h1.str_inv, h2.strs]; rfl
theorem Its.bls {H : Hp} : ∀ {ns : List Bool} {vs : List V}, Its H vs (ns.map dB) → vs = ns.map V.bl
  | [], _, h => by cases h; rfl
  | n :: ns, _, h => by
    cases h with
    | cons h1 h2 => rw [h1.bl_inv, h2.bls]; rfl
theorem its_ints {H : Hp} : ∀ ns : List Int, Its H (ns.map V.int) (ns.map dI)
  | [] => .nil
  | n :: ns => .cons (.int n) (its_ints ns)
theorem its_strs {H : Hp} : ∀ ns : List (List Nat), Its H (ns.map S) (ns.map dS)
  | [] => .nil
  | n :: ns => .cons (.str _) (its_strs ns)
/-- a list of data -/
def Ls (H : Hp) (a : Addr) (ds : List PyData) : Prop := ∃ vs, H a = some (.lst vs) ∧ Its H vs ds
theorem Ls.mono {own : List Addr} {H H' : Hp} {a : Addr} {ds : List PyData} (h : Ls H a ds) (e : Ek own H H') (n : a ∉ own) : Ls H' a ds :=
  let ⟨vs, h1, h2⟩ := h
  ⟨vs, e.1 _ _ n h1, Its.mono e _ _ h2⟩
theorem Ls.ex {H H' : Hp} {a : Addr} {ds : List PyData} (h : Ls H a ds) (e : Ex H H') : Ls H' a ds := h.mono (own := []) (Ek.of e) (by simp)
theorem It.ex {H H' : Hp} {v : V} {d : PyData} (h : It H v d) (e : Ex H H') : It H' v d := It.mono (own := []) (Ek.of e) d v h
theorem Its.ex {H H' : Hp} {v : List V} {d : List PyData} (h : Its H v d) (e : Ex H H') : Its H' v d := Its.mono (own := []) (Ek.of e) d v h
theorem Ls.sq {K : PySem.W.Frag} {H : Hp} {a : Addr} {ds : List PyData} (h : Ls H a ds) : ∃ vs, SqL K H a vs ∧ Its H vs ds := let ⟨vs, h1, h2⟩ := h; ⟨vs, sq_of h1, h2⟩

mutual
theorem It.dp {K : PySem.W.Frag} {H : Hp} : ∀ (d : PyData) (v : V), It H v d → Dp K H v d
  | .none, _, h => by cases h; exact .non
  | .bool _, _, h => by cases h; exact .bl _
  | .int _, _, h => by cases h; exact .int _
  | .str _, _, h => by cases h; exact .str _
  | .list _, _, h => by cases h
  | .dict _, _, h => by cases h
  | .tuple ds, _, h => by
    cases h with
    | tup h1 h2 => exact .tup (st_of h1) (Its.dp ds _ h2)
theorem Its.dp {K : PySem.W.Frag} {H : Hp} : ∀ (ds : List PyData) (vs : List V), Its H vs ds → DpAll K H vs ds
  | [], _, h => by cases h; exact .nil
  | d :: ds, _, h => by
    cases h with
    | cons h1 h2 => exact .cons (It.dp d _ h1) (Its.dp ds _ h2)
end
theorem Ls.dp {K : PySem.W.Frag} {H : Hp} {a : Addr} {ds : List PyData} (h : Ls H a ds) : Dp K H (.ref a) (.list ds) :=
  let ⟨vs, h1, h2⟩ := h
  .lst (sq_of h1) (Its.dp ds vs h2)
end Pt

namespace Pt
open PySem PySem.Spec PyProof.Rows L2 Evl

/-! ### an expression comes to something of which P holds -/
def EvP (te : TE) (σ : L2.St) (H : Hp) (P : V → Hp → Prop) : Prop := ∀ H1, Ex H H1 → ∀ Q : VK, (∀ v H2, Ex H1 H2 → P v H2 → Q v H2) → te σ H1 Q
def Mono (P : V → Hp → Prop) : Prop := ∀ v H H', Ex H H' → P v H → P v H'
/-- a new list -/
def EvF (te : TE) (σ : L2.St) (H : Hp) (ds : List PyData) : Prop := ∀ H1, Ex H H1 → ∀ Q : VK, (∀ p H2, H1 p = none → Ex H1 H2 → Ls H2 p ds → Q (.ref p) H2) → te σ H1 Q
abbrev isV (x : V) : V → Hp → Prop := fun v _ => v = x
abbrev isI (d : PyData) : V → Hp → Prop := fun v H => It H v d
abbrev isL (ds : List PyData) : V → Hp → Prop := fun v H => ∃ a, v = .ref a ∧ Ls H a ds
theorem mono_V {x : V} : Mono (isV x) := fun _ _ _ _ h => h
theorem mono_I {d : PyData} : Mono (isI d) := fun _ _ _ e h => h.ex e
theorem mono_L {ds : List PyData} : Mono (isL ds) := fun _ _ _ e h => let ⟨a, h1, h2⟩ := h; ⟨a, h1, h2.ex e⟩
def EvAP (ta : TA) (σ : L2.St) (H : Hp) (P : List V → Hp → Prop) : Prop := ∀ H1, Ex H H1 → ∀ Q : List V → Hp → Prop, (∀ vs H2, Ex H1 H2 → P vs H2 → Q vs H2) → ta σ H1 Q
section
variable {K : PySem.W.Frag} {σ : L2.St} {H H' : Hp} {ta tb tc te tx : TE} {t u : TT} {x y z v : V} {r : R2} {P P1 P2 : V → Hp → Prop} {d : PyData} {ds es : List PyData}
theorem EvP.mono (e : Ex H H') (h : EvP te σ H P) : EvP te σ H' P := fun H1 a Q q => h H1 (e.trans a) Q q
theorem EvF.mono (e : Ex H H') (h : EvF te σ H ds) : EvF te σ H' ds := fun H1 a Q q => h H1 (e.trans a) Q q
theorem EvAP.mono {ta : TA} {P : List V → Hp → Prop} (e : Ex H H') (h : EvAP ta σ H P) : EvAP ta σ H' P := fun H1 a Q q => h H1 (e.trans a) Q q
theorem EvP.imp (h : EvP te σ H P1) (f : ∀ v H2, Ex H H2 → P1 v H2 → P2 v H2) : EvP te σ H P2 := fun H1 a Q q => h H1 a Q fun v H2 e p => q v H2 e (f v H2 (a.trans e) p)
theorem _root_.Evl.Ev.p (h : Ev te σ H v) : EvP te σ H (isV v) := fun H1 a Q q => h H1 a Q fun H2 e => q v H2 e rfl
theorem EvP.ev (h : EvP te σ H (isV v)) : Ev te σ H v := fun H1 a Q q => h H1 a Q fun w H2 e p => by
  have p' : w = v := p
  subst p'; exact q H2 e
theorem _root_.Evl.Ev.i (h : Ev te σ H v) (hi : ∀ H, It H v d) : EvP te σ H (isI d) := fun H1 a Q q => h H1 a Q fun H2 e => q v H2 e (hi H2)
theorem ei_int {i : Int} (h : Ev te σ H (.int i)) : EvP te σ H (isI (.int i)) := h.i fun _ => .int i
theorem ei_str {w : Str} (h : Ev te σ H (.str w)) : EvP te σ H (isI (.str w)) := h.i fun _ => .str w
theorem ei_bl {b : Bool} (h : Ev te σ H (.bl b)) : EvP te σ H (isI (.bool b)) := h.i fun _ => .bl b
theorem EvF.l (h : EvF te σ H ds) : EvP te σ H (isL ds) := fun H1 a Q q => h H1 a Q fun p H2 n e l => q _ H2 e ⟨p, rfl, l⟩
theorem evp_var {i : Nat} (h : σ[i]? = some (some v)) (hp : ∀ H1, Ex H H1 → P v H1) : EvP (tVar i) σ H P := fun H1 e Q q => ⟨v, h, q v H1 (Ex.refl H1) (hp H1 e)⟩
theorem evl_var {i : Nat} {a : Addr} (h : σ[i]? = some (some (.ref a))) (hl : Ls H a ds) : EvP (tVar i) σ H (isL ds) := evp_var h fun _ e => ⟨a, rfl, hl.ex e⟩
theorem evi_var {i : Nat} (h : σ[i]? = some (some v)) (hl : It H v d) : EvP (tVar i) σ H (isI d) := evp_var h fun _ e => hl.ex e
/-- two operands -/
theorem evp_op (ha : EvP ta σ H P1) (m : Mono P1) (hb : EvP tb σ H P2) (hr : ∀ x y H2, Ex H H2 → P1 x H2 → P2 y H2 → ∀ Q : VK, (∀ v H3, Ex H2 H3 → P v H3 → Q v H3) → r x y H2 Q) : EvP (tOp r ta tb) σ H P := fun H1 e Q q =>
  ha H1 e _ fun x H2 e2 p1 => hb H2 (e.trans e2) _ fun y H3 e3 p2 => hr x y H3 ((e.trans e2).trans e3) (m _ _ _ e3 p1) p2 Q fun v H4 e4 p => q v H4 ((e2.trans e3).trans e4) p
/-- two scalar operands -/
theorem ev_opV' (ha : Ev ta σ H x) (hb : Ev tb σ H y) (hr : ∀ H2 (Q : VK), Q z H2 → r x y H2 Q) : Ev (tOp r ta tb) σ H z := ev_op ha hb (rv_val fun H1 _ Q q => hr H1 Q q)
/-- two operands, a value -/
theorem evp_opV (ha : EvP ta σ H P1) (m : Mono P1) (hb : EvP tb σ H P2) (hr : ∀ x y H2, Ex H H2 → P1 x H2 → P2 y H2 → ∀ Q : VK, Q z H2 → r x y H2 Q) : Ev (tOp r ta tb) σ H z := fun H1 e Q q =>
  ha H1 e _ fun x H2 e2 p1 => hb H2 (e.trans e2) _ fun y H3 e3 p2 => hr x y H3 ((e.trans e2).trans e3) (m _ _ _ e3 p1) p2 Q (q H3 (e2.trans e3))
theorem eap_nil : EvAP tNil σ H (fun vs _ => vs = []) := fun H1 _ _ q => q [] H1 (Ex.refl H1) rfl
theorem eap_cons {tr : TA} {PR : List V → Hp → Prop} (h : EvP ta σ H P) (m : Mono P) (hr : EvAP tr σ H PR) : EvAP (tCons ta tr) σ H (fun vs H2 => ∃ v r, vs = v :: r ∧ P v H2 ∧ PR r H2) := fun H1 e _ q =>
  h H1 e _ fun v H2 e2 p => hr H2 (e.trans e2) _ fun vs H3 e3 pr => q _ H3 (e2.trans e3) ⟨v, vs, rfl, m _ _ _ e3 p, pr⟩
theorem _root_.Evl.EvA.p {ta : TA} {vs : List V} (h : EvA ta σ H vs) : EvAP ta σ H (fun us _ => us = vs) := fun H1 e _ q => h H1 e _ fun H2 e2 => q vs H2 e2 rfl
def SpP (sp : Sp) (vs : List V) (H : Hp) (R : V → Hp → Prop) : Prop := ∀ (Q : VK) (E : XK), (∀ v H3, Ex H H3 → R v H3 → Q v H3) → sp vs H Q E
def SpF (sp : Sp) (vs : List V) (H : Hp) (ds : List PyData) : Prop := ∀ (Q : VK) (E : XK), (∀ p H3, H p = none → Ex H H3 → Ls H3 p ds → Q (.ref p) H3) → sp vs H Q E
theorem evp_call {sp : Sp} {dvs : List V} {E : XK} {ta : TA} {PA : List V → Hp → Prop} (h : EvAP ta σ H PA) (hs : ∀ vs H2, Ex H H2 → PA vs H2 → SpP sp (vs ++ dvs) H2 P) : EvP (tCall sp dvs E ta) σ H P := fun H1 e Q q =>
  h H1 e _ fun vs H2 e2 pa => hs vs H2 (e.trans e2) pa Q E fun v H3 e3 p => q v H3 (e2.trans e3) p
theorem evf_call {sp : Sp} {dvs : List V} {E : XK} {ta : TA} {PA : List V → Hp → Prop} (h : EvAP ta σ H PA) (hs : ∀ vs H2, Ex H H2 → PA vs H2 → SpF sp (vs ++ dvs) H2 ds) : EvF (tCall sp dvs E ta) σ H ds := fun H1 e Q q =>
  h H1 e _ fun vs H2 e2 pa => hs vs H2 (e.trans e2) pa Q E fun p H3 n e3 l => q p H3 (fresh_back e2 n) (e2.trans e3) l
/-- a built-in's call -/
theorem evp_cb {r : List V → Hp → VK → Prop} {ta : TA} {PA : List V → Hp → Prop} (h : EvAP ta σ H PA) (hr : ∀ vs H2, Ex H H2 → PA vs H2 → ∀ Q : VK, (∀ v H3, Ex H2 H3 → P v H3 → Q v H3) → r vs H2 Q) : EvP (tCB r ta) σ H P := fun H1 e Q q =>
  h H1 e _ fun vs H2 e2 pa => hr vs H2 (e.trans e2) pa Q fun v H3 e3 p => q v H3 (e2.trans e3) p
theorem ev_cbV {r : List V → Hp → VK → Prop} {ta : TA} {PA : List V → Hp → Prop} (h : EvAP ta σ H PA) (hr : ∀ vs H2, Ex H H2 → PA vs H2 → ∀ Q : VK, Q z H2 → r vs H2 Q) : Ev (tCB r ta) σ H z := fun H1 e Q q =>
  h H1 e _ fun vs H2 e2 pa => hr vs H2 (e.trans e2) pa Q (q H2 e2)
theorem evf_cb {r : List V → Hp → VK → Prop} {ta : TA} {PA : List V → Hp → Prop} (h : EvAP ta σ H PA) (hr : ∀ vs H2, Ex H H2 → PA vs H2 → ∀ Q : VK, (∀ p H3, H2 p = none → Ex H2 H3 → Ls H3 p ds → Q (.ref p) H3) → r vs H2 Q) : EvF (tCB r ta) σ H ds := fun H1 e Q q =>
  h H1 e _ fun vs H2 e2 pa => hr vs H2 (e.trans e2) pa Q fun p H3 n e3 l => q p H3 (fresh_back e2 n) (e2.trans e3) l

/-! ### operators by what they get -/
def rAddU : R2 := fun x y H Q => rI0 (fun i j => .int (i + j)) x y H Q ∨ rAddS x y H Q ∨ rCat x y H Q
def rRepS : R2 := fun x y H Q => ∃ (w : List Nat) (k : Nat), x = S w ∧ y = .int (k : Int) ∧ w.length * k ≤ 16777216 ∧ k < 16777216 ∧ Q (S (List.replicate k w).flatten) H
def rMulU : R2 := fun x y H Q => rI CMulW (fun i j => .int (i * j)) x y H Q ∨ rRepS x y H Q ∨ rRep x y H Q
def rLtU : R2 := fun x y H Q => rI0 (fun i j => .bl (decide (i < j))) x y H Q ∨ ∃ i j, x = .str i ∧ y = .str j ∧ Q (.bl (decide (i.cps.toList < j.cps.toList))) H
def rGeU : R2 := fun x y H Q => rI0 (fun i j => .bl (decide (j ≤ i))) x y H Q ∨ ∃ i j, x = .str i ∧ y = .str j ∧ Q (.bl (!decide (i.cps.toList < j.cps.toList))) H
def rEqU (K : PySem.W.Frag) : R2 := fun x y H Q => rEq x y H Q ∨ rEqD K x y H Q
def rNeU (K : PySem.W.Frag) : R2 := fun x y H Q => rNe x y H Q ∨ rNeD K x y H Q
def rInU (K : PySem.W.Frag) : R2 := fun x y H Q => rInS x y H Q ∨ rIn K false x y H Q
def rNotInU (K : PySem.W.Frag) : R2 := fun x y H Q => rNotInS x y H Q ∨ rIn K true x y H Q
end
section
variable {X : Cx}
theorem op_addU : OpR X (binaryOp .Add) rAddU := by
  intro pins s σ H x y v u Q I rx ry h
  rcases h with h | h | h
  · exact op_add pins s σ H x y v u Q I rx ry h
  · exact op_add_str pins s σ H x y v u Q I rx ry h
  · exact op_cat pins s σ H x y v u Q I rx ry h
theorem foldl_reps (a : Array Nat) (k : Nat) : ∀ (acc : Array Nat), ((List.replicate k a).foldl (fun x1 x2 => x1 ++ x2) acc).toList = acc.toList ++ (List.replicate k a.toList).flatten := by
  induction k with
  | zero =>
    intro acc
    show acc.toList = acc.toList ++ []
    rw [List.append_nil]
  | succ k ih =>
    intro acc
    rw [List.replicate_succ, List.foldl_cons, ih, List.replicate_succ, List.flatten_cons, Array.toList_append, List.append_assoc]
theorem op_repS : OpR X (binaryOp .Mult) rRepS := by
  intro pins s σ H x y v u Q I rx ry h
  obtain ⟨w, k, rfl, rfl, h1, h2, q⟩ := h
  obtain ⟨t, rfl⟩ := rx
  obtain ⟨t', rfl⟩ := ry
  have hl := S_len w
  refine PySem.P.mul_str ?_ ?_ ?_ ?_
  · have a1 : ¬ ((k : Int) < -(2 ^ 63 : Int)) := by omega
    have a2 : ¬ ((k : Int) ≥ 2 ^ 63) := by omega
    rw [decide_eq_false a1, decide_eq_false a2] <;> rfl
  · intro hk _
    have hk' : 0 < k := by omega
    have e1 : (k : Int) * (((⟨w.toArray⟩ : Str).length : Nat) : Int) ≤ 2 ^ 63 - 1 := by
      rw [hl]
      have : ((k * w.length : Nat) : Int) ≤ 16777216 := by rw [Nat.mul_comm]; exact Int.ofNat_le.mpr h1
      rw [Int.natCast_mul] at this
      omega
    have e2 := (Int.le_ediv_iff_mul_le (a := (((⟨w.toArray⟩ : Str).length : Nat) : Int)) (b := 2 ^ 63 - 1) (c := (k : Int)) (by omega)).mpr (by rw [Int.mul_comm]; exact e1)
    omega
  · intro _ _
    rw [hl, Int.toNat_natCast]
    refine decide_eq_false ?_
    rw [sizeLine_eq]
    omega
  · by_cases c1 : (k : Int) < 1
    · rw [if_pos c1]
      have : k = 0 := by omega
      subst this
      exact ⟨by show 0 ≤ sizeLine; exact Nat.zero_le _, .str Str.empty, H, I.tok _, ⟨_, rfl⟩, q⟩
    · rw [if_neg c1]
      by_cases c2 : ((k : Int) == 1 || (⟨w.toArray⟩ : Str).length == 0) = true
      · rw [if_pos c2]
        rw [Bool.or_eq_true] at c2
        have e : (List.replicate k w).flatten = w := by
          rcases c2 with c2 | c2
          · have : k = 1 := by have := eq_of_beq c2; omega
            subst this
            simp
          · have : w = [] := by
              have := eq_of_beq c2
              rw [hl] at this
              exact List.eq_nil_of_length_eq_zero this
            subst this
            simp
        rw [e] at q
        exact ⟨S w, H, I, ⟨_, rfl⟩, q⟩
      · rw [if_neg c2]
        have e : (⟨(List.replicate (k : Int).toNat (⟨w.toArray⟩ : Str).cps).foldl (fun x1 x2 => x1 ++ x2) #[]⟩ : Str) = ⟨((List.replicate k w).flatten).toArray⟩ := by
          refine TL.ext_tl ?_
          show ((List.replicate (k : Int).toNat w.toArray).foldl (fun x1 x2 => x1 ++ x2) #[]).toList = _
          rw [foldl_reps, Int.toNat_natCast]
          rfl
        rw [e]
        refine ⟨?_, S _, H, I.tok _, ⟨_, rfl⟩, q⟩
        rw [S_len, sizeLine_eq]
        rw [List.length_flatten, List.map_replicate, List.sum_replicate_nat]
        rw [Nat.mul_comm] at h1
        exact h1
theorem op_mulU : OpR X (binaryOp .Mult) rMulU := by
  intro pins s σ H x y v u Q I rx ry h
  rcases h with h | h | h
  · exact op_mulW pins s σ H x y v u Q I rx ry h
  · exact op_repS pins s σ H x y v u Q I rx ry h
  · exact op_rep pins s σ H x y v u Q I rx ry h
theorem op_ltU : OpR X (compareOp .Lt) rLtU := by
  intro pins s σ H x y v u Q I rx ry h
  rcases h with h | h
  · exact op_lt pins s σ H x y v u Q I rx ry h
  · exact op_lt_str pins s σ H x y v u Q I rx ry h
theorem op_geU : OpR X (compareOp .GtE) rGeU := by
  intro pins s σ H x y v u Q I rx ry h
  rcases h with h | h
  · exact op_ge pins s σ H x y v u Q I rx ry h
  · exact op_ge_str pins s σ H x y v u Q I rx ry h
theorem op_eqU (hu : X.A.units + 64 < cLine) : OpR X (compareOp .Eq) (rEqU X.K) := by
  intro pins s σ H x y v u Q I rx ry h
  rcases h with h | h
  · exact op_eq pins s σ H x y v u Q I rx ry h
  · exact op_eqD hu pins s σ H x y v u Q I rx ry h
theorem op_neU (hu : X.A.units + 64 < cLine) : OpR X (compareOp .NotEq) (rNeU X.K) := by
  intro pins s σ H x y v u Q I rx ry h
  rcases h with h | h
  · exact op_ne pins s σ H x y v u Q I rx ry h
  · exact op_neD hu pins s σ H x y v u Q I rx ry h
theorem op_inU : OpR X (compareOp .In) (rInU X.K) := by
  intro pins s σ H x y v u Q I rx ry h
  rcases h with h | h
  · exact op_in_sign pins s σ H x y v u Q I rx ry h
  · exact op_in_seq pins s σ H x y v u Q I rx ry h
theorem op_notInU : OpR X (compareOp .NotIn) (rNotInU X.K) := by
  intro pins s σ H x y v u Q I rx ry h
  rcases h with h | h
  · exact op_notIn_sign pins s σ H x y v u Q I rx ry h
  · exact op_notIn_seq pins s σ H x y v u Q I rx ry h
end
end Pt

namespace Pt
open PySem PySem.Spec PyProof.Rows L2 Evl

section
variable {K : PySem.W.Frag} {σ : L2.St} {H H' : Hp} {ta tb tc te tx : TE} {t u : TT} {x y z v : V} {r : R2} {P P1 P2 : V → Hp → Prop} {d : PyData} {ds es : List PyData}
/-! ### scalars -/
theorem ev_addI {i j : Int} (ha : Ev ta σ H (.int i)) (hb : Ev tb σ H (.int j)) : Ev (tOp rAddU ta tb) σ H (.int (i + j)) := ev_opV' ha hb fun _ _ q => .inl ⟨i, j, rfl, rfl, q⟩
theorem ev_addS {a b : List Nat} (ha : Ev ta σ H (S a)) (hb : Ev tb σ H (S b)) (h : a.length + b.length ≤ 100000) : Ev (tOp rAddU ta tb) σ H (S (a ++ b)) := ev_opV' ha hb fun _ Q q => .inr (.inl ⟨_, _, rfl, rfl, by rw [S_len, S_len]; exact sz_of h, by rw [S_app]; exact q⟩)
theorem ev_subI {i j : Int} (ha : Ev ta σ H (.int i)) (hb : Ev tb σ H (.int j)) : Ev (tOp (rI0 fun i j => .int (i - j)) ta tb) σ H (.int (i - j)) := ev_opV' ha hb fun _ _ q => ⟨i, j, rfl, rfl, q⟩
theorem ev_mulI {i j : Int} (ha : Ev ta σ H (.int i)) (hb : Ev tb σ H (.int j)) (h : CMulW i j) : Ev (tOp rMulU ta tb) σ H (.int (i * j)) := ev_opV' ha hb fun _ _ q => .inl ⟨i, j, rfl, rfl, h, q⟩
theorem ev_mulS {w : List Nat} {k : Nat} (ha : Ev ta σ H (S w)) (hb : Ev tb σ H (.int (k : Int))) (h : w.length * k ≤ 16777216) (h2 : k < 16777216) : Ev (tOp rMulU ta tb) σ H (S (List.replicate k w).flatten) := ev_opV' ha hb fun _ _ q => .inr (.inl ⟨w, k, rfl, rfl, h, h2, q⟩)
theorem ev_modI {i j : Int} (ha : Ev ta σ H (.int i)) (hb : Ev tb σ H (.int j)) (h : 0 < j) : Ev (tOp (rI (fun _ j => 0 < j) fun i j => .int (i % j)) ta tb) σ H (.int (i % j)) := ev_opV' ha hb fun _ _ q => ⟨i, j, rfl, rfl, h, q⟩
theorem ev_fdivI {i j : Int} (ha : Ev ta σ H (.int i)) (hb : Ev tb σ H (.int j)) (h : CDivW i j) : Ev (tOp (rI CDivW fun i j => .int (i / j)) ta tb) σ H (.int (i / j)) := ev_opV' ha hb fun _ _ q => ⟨i, j, rfl, rfl, h, q⟩
theorem ev_powI {i j : Int} (ha : Ev ta σ H (.int i)) (hb : Ev tb σ H (.int j)) (h : CPow i j) : Ev (tOp (rI CPow fun i j => .int (i ^ j.toNat)) ta tb) σ H (.int (i ^ j.toNat)) := ev_opV' ha hb fun _ _ q => ⟨i, j, rfl, rfl, h, q⟩
theorem ev_neg {i : Int} (ha : Ev ta σ H (.int i)) : Ev (tUn (rU fun i => .int (-i)) ta) σ H (.int (-i)) := ev_un ha ru_neg
theorem cmul_small {i j : Int} (h : i.natAbs < 2 ^ 400000) (h2 : j.natAbs < 2 ^ 400000) : CMulW i j := wide_mul h h2 (by decide) (by decide) (by decide)
theorem cdiv_small {i j : Int} (h : 0 < j) (h2 : j < 2 ^ 8000) : CDivW i j := wide_div (b := 8000) h (by omega) (by decide) (by decide)
theorem ev_ltI {i j : Int} (ha : Ev ta σ H (.int i)) (hb : Ev tb σ H (.int j)) : Ev (tOp rLtU ta tb) σ H (.bl (decide (i < j))) := ev_opV' ha hb fun _ _ q => .inl ⟨i, j, rfl, rfl, q⟩
theorem ev_ltS {i j : List Nat} (ha : Ev ta σ H (S i)) (hb : Ev tb σ H (S j)) : Ev (tOp rLtU ta tb) σ H (.bl (decide (i < j))) := ev_opV' ha hb fun _ _ q => .inr ⟨_, _, rfl, rfl, q⟩
theorem ev_geI {i j : Int} (ha : Ev ta σ H (.int i)) (hb : Ev tb σ H (.int j)) : Ev (tOp rGeU ta tb) σ H (.bl (decide (j ≤ i))) := ev_opV' ha hb fun _ _ q => .inl ⟨i, j, rfl, rfl, q⟩
theorem ev_geS {i j : List Nat} (ha : Ev ta σ H (S i)) (hb : Ev tb σ H (S j)) : Ev (tOp rGeU ta tb) σ H (.bl (!decide (i < j))) := ev_opV' ha hb fun _ _ q => .inr ⟨_, _, rfl, rfl, q⟩
theorem ev_leI {i j : Int} (ha : Ev ta σ H (.int i)) (hb : Ev tb σ H (.int j)) : Ev (tOp (rI0 fun i j => .bl (decide (i ≤ j))) ta tb) σ H (.bl (decide (i ≤ j))) := ev_opV' ha hb fun _ _ q => ⟨i, j, rfl, rfl, q⟩
theorem ev_gtI {i j : Int} (ha : Ev ta σ H (.int i)) (hb : Ev tb σ H (.int j)) : Ev (tOp (rI0 fun i j => .bl (decide (j < i))) ta tb) σ H (.bl (decide (j < i))) := ev_opV' ha hb fun _ _ q => ⟨i, j, rfl, rfl, q⟩
theorem ev_eqV (ha : Ev ta σ H x) (hb : Ev tb σ H y) (h : scal x y = true) : Ev (tOp (rEqU K) ta tb) σ H (.bl (decide (x = y))) := ev_opV' ha hb fun _ _ q => .inl ⟨h, q⟩
theorem ev_neV (ha : Ev ta σ H x) (hb : Ev tb σ H y) (h : scal x y = true) : Ev (tOp (rNeU K) ta tb) σ H (.bl (!decide (x = y))) := ev_opV' ha hb fun _ _ q => .inl ⟨h, q⟩
theorem ev_eqI {i j : Int} (ha : Ev ta σ H (.int i)) (hb : Ev tb σ H (.int j)) : Ev (tOp (rEqU K) ta tb) σ H (.bl (decide (i = j))) := ev_is (ev_eqV ha hb rfl) (by congr 1; simp)
theorem ev_neI {i j : Int} (ha : Ev ta σ H (.int i)) (hb : Ev tb σ H (.int j)) : Ev (tOp (rNeU K) ta tb) σ H (.bl (!decide (i = j))) := ev_is (ev_neV ha hb rfl) (by congr 1; simp)
theorem ev_eqS {i j : List Nat} (ha : Ev ta σ H (S i)) (hb : Ev tb σ H (S j)) : Ev (tOp (rEqU K) ta tb) σ H (.bl (decide (i = j))) := ev_is (ev_eqV ha hb rfl) (by congr 1; exact decide_eq_decide.mpr S_eq)
theorem ev_neS {i j : List Nat} (ha : Ev ta σ H (S i)) (hb : Ev tb σ H (S j)) : Ev (tOp (rNeU K) ta tb) σ H (.bl (!decide (i = j))) := ev_is (ev_neV ha hb rfl) (by congr 2; exact decide_eq_decide.mpr S_eq)
theorem ev_inS {c : Nat} {w : List Nat} (ha : Ev ta σ H (S [c])) (hb : Ev tb σ H (S w)) : Ev (tOp (rInU K) ta tb) σ H (.bl (decide (c ∈ w))) := ev_opV' ha hb fun _ _ q => .inl ⟨c, _, rfl, rfl, q⟩
theorem ev_chain {r r' : R2} {a : Bool} {b : Bool} (h1 : Ev ta σ H x) (h2 : Ev tb σ H y) (h3 : a = true → Ev tc σ H z) (k1 : ∀ H2 (Q : VK), Q (.bl a) H2 → r x y H2 Q) (k2 : a = true → ∀ H2 (Q : VK), Q (.bl b) H2 → r' y z H2 Q) : Ev (tChain r r' ta tb tc) σ H (.bl (a && b)) := fun H1 e Q q =>
  h1 H1 e _ fun H2 e2 => h2 H2 (e.trans e2) _ fun H3 e3 => k1 H3 _ ⟨a, rfl, by
    cases a with
    | true =>
      show tc σ H3 _
      exact h3 rfl H3 ((e.trans e2).trans e3) _ fun H4 e4 => k2 rfl H4 _ (q H4 ((e2.trans e3).trans e4))
    | false =>
      show Q (.bl false) H3
      exact q H3 (e2.trans e3)⟩
/-- len of a text, of a list -/
def rLenU (K : PySem.W.Frag) : List V → Hp → VK → Prop := fun xs H Q => ∃ x n, xs = [x] ∧ LenV K x H n ∧ Q (.int n) H
theorem call_lenU {X : Cx} : CallR X (.builtin "len") (rLenU X.K) := call_len
theorem ev_lenS {w : List Nat} (ha : Ev ta σ H (S w)) (h : w.length ≤ 100000) : Ev (tCB (rLenU K) (tCons ta tNil)) σ H (.int (w.length : Int)) := ev_cbV (eap_cons ha.p mono_V eap_nil) fun vs H2 _ hp Q q => by
  obtain ⟨v, r, rfl, rfl, rfl⟩ := hp
  exact ⟨_, _, rfl, ⟨by rw [S_len]; exact sz_of h, (S_len w).symm⟩, q⟩
theorem ev_lenL (ha : EvP ta σ H (isL ds)) : Ev (tCB (rLenU K) (tCons ta tNil)) σ H (.int (ds.length : Int)) := ev_cbV (eap_cons ha mono_L eap_nil) fun vs H2 _ hp Q q => by
  obtain ⟨v, r, rfl, ⟨a, rfl, us, h1, h2⟩, rfl⟩ := hp
  refine ⟨.ref a, us.length, rfl, .inl ⟨us, sq_of h1, rfl⟩, ?_⟩
  rw [h2.length]
  exact q
/-! ### places -/
theorem ev_ixS {w : List Nat} {i : Int} {c : Nat} (ha : Ev ta σ H (S w)) (hb : Ev tb σ H (.int i)) (h : w.length ≤ 100000) (hc : atI w i = some c) : Ev (tOp (rIx K) ta tb) σ H (S [c]) := ev_opV' ha hb fun _ _ q => .inr (.inr ⟨_, i, c, rfl, rfl, by rw [S_len]; exact sz_of h, hc, q⟩)
theorem atI_map {α β : Type} (f : α → β) (l : List α) (i : Int) : atI (l.map f) i = (atI l i).map f := by
  unfold atI
  rw [List.length_map]
  cases ixN l.length i with
  | none => rfl
  | some j => exact List.getElem?_map
theorem its_atI {vs : List V} {i : Int} (h : Its H vs ds) (hd : atI ds i = some d) : ∃ v, atI vs i = some v ∧ It H v d := by
  unfold atI at hd ⊢
  rw [h.length]
  cases e : ixN ds.length i with
  | none => rw [e] at hd; cases hd
  | some j =>
    rw [e] at hd
    exact h.at (i := j) hd
theorem evi_ixL {i : Int} (ha : EvP ta σ H (isL ds)) (hb : Ev tb σ H (.int i)) (hd : atI ds i = some d) : EvP (tOp (rIx K) ta tb) σ H (isI d) := evp_op ha mono_L hb.p fun x y H2 _ hx hy Q q => by
  obtain ⟨a, rfl, vs, h1, h2⟩ := hx
  obtain rfl : y = .int i := hy
  obtain ⟨v, hv, hi⟩ := its_atI h2 hd
  exact .inl ⟨a, vs, i, v, rfl, rfl, sq_of h1, hv, q v H2 (Ex.refl H2) hi⟩
theorem evi_ixT {i : Int} (ha : EvP ta σ H (isI (.tuple ds))) (hb : Ev tb σ H (.int i)) (hd : atI ds i = some d) : EvP (tOp (rIx K) ta tb) σ H (isI d) := evp_op ha mono_I hb.p fun x y H2 _ hx hy Q q => by
  have hx' : It H2 x (.tuple ds) := hx
  obtain rfl : y = .int i := hy
  cases hx' with
  | tup h1 h2 =>
    obtain ⟨v, hv, hi⟩ := its_atI h2 hd
    exact .inr (.inl ⟨_, _, i, v, rfl, rfl, st_of h1, hv, q v H2 (Ex.refl H2) hi⟩)
theorem EvP.int {i : Int} (h : EvP te σ H (isI (.int i))) : Ev te σ H (.int i) := (h.imp fun _ _ _ p => It.int_inv p).ev
theorem EvP.str {w : List Nat} (h : EvP te σ H (isI (dS w))) : Ev te σ H (S w) := (h.imp fun _ _ _ p => It.str_inv p).ev
theorem EvP.bl {b : Bool} (h : EvP te σ H (isI (.bool b))) : Ev te σ H (.bl b) := (h.imp fun _ _ _ p => It.bl_inv p).ev
/-! ### displays -/
def AllI : List PyData → List V → Hp → Prop := fun ds vs H => Its H vs ds
theorem eai_nil : EvAP tNil σ H (AllI []) := fun H1 _ _ q => q [] H1 (Ex.refl H1) .nil
theorem eai_cons {tr : TA} (h : EvP ta σ H (isI d)) (hr : EvAP tr σ H (AllI ds)) : EvAP (tCons ta tr) σ H (AllI (d :: ds)) := fun H1 e _ q =>
  h H1 e _ fun v H2 e2 p => hr H2 (e.trans e2) _ fun vs H3 e3 pr => q _ H3 (e2.trans e3) (.cons (It.ex p e3) pr)
theorem evi_tup {ta : TA} (h : EvAP ta σ H (AllI ds)) (hl : ds.length ≤ 100000) : EvP (tTup ta) σ H (isI (.tuple ds)) := fun H1 e Q q =>
  h H1 e _ fun vs H2 e2 p => ⟨by rw [Its.length p]; exact sz_of hl, fun a ha => q _ _ (e2.trans (Ex.new ha)) (.tup upd_same (Its.ex p (Ex.new ha)))⟩
theorem evf_lst {ta : TA} (h : EvAP ta σ H (AllI ds)) (hl : ds.length ≤ 100000) : EvF (tLst ta) σ H ds := fun H1 e Q q =>
  h H1 e _ fun vs H2 e2 p => ⟨by rw [Its.length p]; exact sz_of hl, fun a ha => q _ _ (fresh_back e2 ha) (e2.trans (Ex.new ha)) ⟨vs, upd_same, Its.ex p (Ex.new ha)⟩⟩
theorem evf_cat (ha : EvP ta σ H (isL ds)) (hb : EvP tb σ H (isL es)) (hl : ds.length + es.length ≤ 100000) : EvF (tOp rAddU ta tb) σ H (ds ++ es) := fun H1 e Q q =>
  ha H1 e _ fun x H2 e2 p1 => hb H2 (e.trans e2) _ fun y H3 e3 p2 => by
    obtain ⟨a, rfl, us, h1, h2⟩ := p1
    obtain ⟨b, rfl, vs, h3, h4⟩ := p2
    have h2' := h2.ex e3
    refine .inr (.inr ⟨a, b, us, vs, rfl, rfl, e3 _ _ h1, h3, by rw [h2.length, h4.length]; exact sz_of hl, fun p hp => ?_⟩)
    exact q p _ (fresh_back (e2.trans e3) hp) ((e2.trans e3).trans (Ex.new hp)) ⟨_, upd_same, (h2'.append h4).ex (Ex.new hp)⟩
theorem its_rep {v : V} (h : It H v d) : ∀ k : Nat, Its H (List.replicate k v) (List.replicate k d)
  | 0 => .nil
  | k + 1 => .cons h (its_rep h k)
theorem evf_rep1 {k : Int} (ha : EvP ta σ H (isL [d])) (hb : Ev tb σ H (.int k)) (hk : -100000 ≤ k ∧ k ≤ 100000) : EvF (tOp rMulU ta tb) σ H (List.replicate k.toNat d) := fun H1 e Q q =>
  ha H1 e _ fun x H2 e2 p1 => hb H2 (e.trans e2) _ fun H3 e3 => by
    obtain ⟨a, rfl, us, h1, h2⟩ := p1
    have h2' := h2.ex e3
    cases h2' with
    | cons g1 g2 =>
      cases g2
      rename_i v
      refine .inr (.inr ⟨a, k, [v], rfl, rfl, e3 _ _ h1, by omega, by omega, by rw [List.length_singleton, Nat.one_mul]; exact sz_of (by omega), fun p hp => ?_⟩)
      have e4 : (List.replicate k.toNat [v]).flatten = List.replicate k.toNat v := by
        have : ∀ n : Nat, (List.replicate n [v]).flatten = List.replicate n v := fun n => by
          induction n with
          | zero => rfl
          | succ n ih => rw [List.replicate_succ, List.flatten_cons, ih]; rfl
        exact this _
      rw [e4]
      exact q p _ (fresh_back (e2.trans e3) hp) ((e2.trans e3).trans (Ex.new hp)) ⟨_, upd_same, (its_rep g1 _).ex (Ex.new hp)⟩
end

/-! ### what is walked -/
section
variable {K : PySem.W.Frag} {σ : L2.St} {H H' : Hp} {own : List Addr}
def Wk {α : Type} (own : List Addr) (wi : TI) (σ : L2.St) (H : Hp) (xs : List α) (yv : α → V → Hp → Prop) : Prop := ∀ H1, Ex H H1 → ∀ R : L2.It → Hp → Prop,
  (∀ J H2, Ex H1 H2 → (∀ H3, Ek own H2 H3 → ∀ i, (∀ a, xs[i]? = some a → J.go i H3 ∧ ∀ x H', J.yld i H3 x H' → Ex H3 H' ∧ yv a x H') ∧ (i = xs.length → J.stop i H3)) → R J H2) → wi σ H1 R
theorem Wk.mono {α : Type} {wi : TI} {xs : List α} {yv : α → V → Hp → Prop} (e : Ex H H') (h : Wk own wi σ H xs yv) : Wk own wi σ H' xs yv := fun H1 a R r => h H1 (e.trans a) R r
/-- a list that stands -/
theorem wk_list {ds : List PyData} {a : Addr} {tl : TE} (h : Ev tl σ H (.ref a)) (hl : Ls H a ds) (n : a ∉ own) : Wk own (iList K tl) σ H ds (fun d x H' => It H' x d) := fun H1 e R r =>
  h H1 e _ fun H2 e2 => by
    obtain ⟨vs, h1, h2⟩ := hl
    have g1 := (e.trans e2) _ _ h1
    have g2 := h2.ex (e.trans e2)
    refine ⟨a, rfl, ⟨vs, sq_of g1⟩, r _ H2 e2 fun H3 k i => ⟨fun d hd => ?_, fun hi => ⟨vs, sq_of (k.1 _ _ n g1), by rw [h2.length, hi]; exact Nat.le_refl _⟩⟩⟩
    have s3 : SqL K H3 a vs := sq_of (k.1 _ _ n g1)
    obtain ⟨v, hv, hi⟩ := (Its.mono k _ _ g2).at hd
    refine ⟨⟨vs, v, s3, hv⟩, fun x H' y => ?_⟩
    obtain ⟨rfl, y⟩ := y
    have := y vs s3
    rw [hv] at this
    cases this
    exact ⟨Ex.refl _, hi⟩
/-- a list, found or new; own's objects stand -/
theorem wk_listP {ds : List PyData} {tl : TE} (h : EvF tl σ H ds) (n : ∀ a ∈ own, H a ≠ none) : Wk own (iList K tl) σ H ds (fun d x H' => It H' x d) := fun H1 e R r =>
  h H1 e _ fun a H2 na e2 hl => by
    have hn : a ∉ own := fun z => by
      have h1 := n a z
      cases q : H a with
      | none => exact h1 q
      | some o => rw [e _ _ q] at na; cases na
    obtain ⟨vs, g1, g2⟩ := hl
    refine ⟨a, rfl, ⟨vs, sq_of g1⟩, r _ H2 e2 fun H3 k i => ⟨fun d hd => ?_, fun hi => ⟨vs, sq_of (k.1 _ _ hn g1), by rw [g2.length, hi]; exact Nat.le_refl _⟩⟩⟩
    have s3 : SqL K H3 a vs := sq_of (k.1 _ _ hn g1)
    obtain ⟨v, hv, hi⟩ := (Its.mono k _ _ g2).at hd
    refine ⟨⟨vs, v, s3, hv⟩, fun x H' y => ?_⟩
    obtain ⟨rfl, y⟩ := y
    have := y vs s3
    rw [hv] at this
    cases this
    exact ⟨Ex.refl _, hi⟩
/-- a tuple's items -/
theorem wk_tup {ds : List PyData} {tl : TE} (h : EvP tl σ H (isI (.tuple ds))) : Wk own (iTup K tl) σ H ds (fun d x H' => It H' x d) := fun H1 e R r =>
  h H1 e _ fun v H2 e2 hl => by
    have hl' : It H2 v (.tuple ds) := hl
    cases hl' with
    | tup g1 g2 =>
      rename_i a vs
      refine ⟨a, rfl, ⟨vs, st_of g1⟩, r _ H2 e2 fun H3 k i => ⟨fun d hd => ?_, fun hi => ⟨vs, st_of (k.2 _ _ g1), by rw [g2.length, hi]; exact Nat.le_refl _⟩⟩⟩
      have s3 : SqT K H3 a vs := st_of (k.2 _ _ g1)
      obtain ⟨v, hv, hi⟩ := (Its.mono k _ _ g2).at hd
      refine ⟨⟨vs, v, s3, hv⟩, fun x H' y => ?_⟩
      obtain ⟨rfl, y⟩ := y
      have := y vs s3
      rw [hv] at this
      cases this
      exact ⟨Ex.refl _, hi⟩
/-- a text's signs -/
theorem wk_str {w : List Nat} {te : TE} (h : Ev te σ H (S w)) : Wk own (iStr te) σ H w (fun c x _ => x = S [c]) := fun H1 e R r =>
  h H1 e _ fun H2 e2 => ⟨_, rfl, r _ H2 e2 fun H3 k i => ⟨fun c hc => by
    have hi : i < w.length := (List.getElem?_eq_some_iff.mp hc).1
    refine ⟨show i < w.toArray.size by rw [List.size_toArray]; exact hi, fun x H' y => ?_⟩
    obtain ⟨rfl, c', hc', rfl⟩ := y
    have hc'' : w.toArray[i]? = some c' := hc'
    rw [List.getElem?_toArray, hc] at hc''
    cases hc''
    exact ⟨Ex.refl _, rfl⟩, fun hi => by
    show (w.toArray).size ≤ i
    rw [List.size_toArray, hi]; exact Nat.le_refl _⟩⟩
/-- range(n), range(i, j), range(i, j, c) -/
theorem wk_rng1 {ta : TA} {n : Int} (h : EvA ta σ H [.int n]) (hn : -100000 ≤ n ∧ n ≤ 100000) : Wk own (iRng1 ta) σ H (List.range n.toNat) (fun i x _ => x = .int (i : Int)) := fun H1 e R r =>
  h H1 e _ fun H2 e2 => ⟨n, rfl, by omega, by omega, r _ H2 e2 fun H3 k i => ⟨fun a ha => by
    have hi : i < n.toNat := by have := (List.getElem?_eq_some_iff.mp ha).1; rwa [List.length_range] at this
    rw [List.getElem?_range hi] at ha
    cases ha
    refine ⟨hi, fun x H' y => ?_⟩
    obtain ⟨rfl, rfl⟩ := y
    exact ⟨Ex.refl _, by rw [Int.zero_add]⟩, fun hi => by
    show n.toNat ≤ i
    rw [hi, List.length_range]; exact Nat.le_refl _⟩⟩
theorem wk_rng2 {ta : TA} {lo n : Int} (h : EvA ta σ H [.int lo, .int n]) (hn : -100000 ≤ lo ∧ lo ≤ 100000 ∧ -100000 ≤ n ∧ n ≤ 100000) : Wk own (iRng2 ta) σ H (List.range (n - lo).toNat) (fun i x _ => x = .int (lo + (i : Int))) := fun H1 e R r =>
  h H1 e _ fun H2 e2 => ⟨lo, n, rfl, ⟨by omega, by omega, by omega, by omega⟩, r _ H2 e2 fun H3 k i => ⟨fun a ha => by
    have hi : i < (n - lo).toNat := by have := (List.getElem?_eq_some_iff.mp ha).1; rwa [List.length_range] at this
    rw [List.getElem?_range hi] at ha
    cases ha
    refine ⟨hi, fun x H' y => ?_⟩
    obtain ⟨rfl, rfl⟩ := y
    exact ⟨Ex.refl _, rfl⟩, fun hi => by
    show (n - lo).toNat ≤ i
    rw [hi, List.length_range]; exact Nat.le_refl _⟩⟩
theorem wk_rng3 {ta : TA} {lo n c : Int} {m : Nat} (h : EvA ta σ H [.int lo, .int n, .int c]) (hn : RgC lo n c m) : Wk own (iRng3 ta) σ H (List.range m) (fun i x _ => x = .int (lo + (i : Int) * c)) := fun H1 e R r =>
  h H1 e _ fun H2 e2 => ⟨lo, n, c, m, rfl, hn, r _ H2 e2 fun H3 k i => ⟨fun a ha => by
    have hi : i < m := by have := (List.getElem?_eq_some_iff.mp ha).1; rwa [List.length_range] at this
    rw [List.getElem?_range hi] at ha
    cases ha
    refine ⟨hi, fun x H' y => ?_⟩
    obtain ⟨rfl, rfl⟩ := y
    exact ⟨Ex.refl _, rfl⟩, fun hi => by
    show m ≤ i
    rw [hi, List.length_range]; exact Nat.le_refl _⟩⟩

/-! ### loops -/
theorem s_wk {α : Type} {wi : TI} {g : TG} {tb : TS} {D : Ends} {xs : List α} {yv : α → V → Hp → Prop} (W : Wk own wi σ H xs yv) (Pv : Nat → L2.St → Hp → Prop) (h0 : ∀ H2, Ex H H2 → Pv 0 σ H2)
    (hs : ∀ (H2 : Hp), Ex H H2 → ∀ (i : Nat) (a : α) (σ' : L2.St) (H' : Hp) (x : V) (H3 : Hp), xs[i]? = some a → Ek own H2 H' → Pv i σ' H' → Ex H' H3 → yv a x H3 →
      g x σ' H3 fun σ2 H4 => tb { D with nx := fun σ'' H'' => Ek own H2 H'' ∧ Pv (i + 1) σ'' H'', ct := fun σ'' H'' => Ek own H2 H'' ∧ Pv (i + 1) σ'' H'', bk := D.nx } σ2 H4)
    (hd : ∀ H2, Ex H H2 → ∀ σ' H', Ek own H2 H' → Pv xs.length σ' H' → D.nx σ' H') : tFor wi g tb D σ H := by
  refine W H (Ex.refl H) _ fun J H2 e2 hJ => ?_
  refine ⟨fun i m σ' H' => m = xs.length - i ∧ i ≤ xs.length ∧ Ek own H2 H' ∧ Pv i σ' H', ⟨xs.length, rfl, Nat.zero_le _, Ek.refl _, h0 H2 e2⟩, ?_⟩
  rintro i m σ' H' ⟨rfl, hi, k, p⟩
  by_cases hlt : i < xs.length
  · have ha : xs[i]? = some xs[i] := List.getElem?_eq_getElem hlt
    obtain ⟨g1, g2⟩ := (hJ H' k i).1 _ ha
    refine .inr ⟨g1, fun σ'' H'' => Ek own H2 H'' ∧ Pv (i + 1) σ'' H'', fun σ'' H'' hN => ⟨xs.length - (i + 1), by omega, rfl, hlt, hN.1, hN.2⟩, fun x H3 y => ?_⟩
    obtain ⟨e3, y3⟩ := g2 x H3 y
    exact hs H2 e2 i _ σ' H' x H3 ha k p e3 y3
  · have e : i = xs.length := by omega
    subst e
    exact .inl ⟨(hJ H' k _).2 rfl, hd H2 e2 σ' H' k p⟩
theorem q_wk {α : Type} {wi : TI} {g : TG} {tb tz : TS} {D : Ends} {xs : List α} {yv : α → V → Hp → Prop} (W : Wk own wi σ H xs yv) (Pv : Nat → L2.St → Hp → Prop) (h0 : ∀ H2, Ex H H2 → Pv 0 σ H2)
    (hs : ∀ (H2 : Hp), Ex H H2 → ∀ (i : Nat) (a : α) (σ' : L2.St) (H' : Hp) (x : V) (H3 : Hp), xs[i]? = some a → Ek own H2 H' → Pv i σ' H' → Ex H' H3 → yv a x H3 →
      g x σ' H3 fun σ2 H4 => tb { D with nx := fun σ'' H'' => Ek own H2 H'' ∧ Pv (i + 1) σ'' H'', ct := fun σ'' H'' => Ek own H2 H'' ∧ Pv (i + 1) σ'' H'', bk := tz D } σ2 H4)
    (hd : ∀ H2, Ex H H2 → ∀ σ' H', Ek own H2 H' → Pv xs.length σ' H' → tz D σ' H') : tSeq (tFor wi g tb) tz D σ H := s_wk (D := { D with nx := tz D }) W Pv h0 hs hd
/-- a new list by a comprehension -/
theorem filter_snoc {α : Type} (f : α → Bool) (xs : List α) {i : Nat} {a : α} (h : xs[i]? = some a) : (xs.take (i + 1)).filter f = (xs.take i).filter f ++ if f a then [a] else [] := by
  rw [List.take_add_one, h, List.filter_append]
  congr 1
  show List.filter f [a] = _
  cases e : f a with
  | true => rw [List.filter_cons_of_pos e] <;> rfl
  | false => rw [List.filter_cons_of_neg (by rw [e]; decide)] <;> rfl
theorem evf_lc {α : Type} {wi : TI} {g : TG} {tt : TT} {te : TE} {vs : List Nat} {xs : List α} {yv : α → V → Hp → Prop} (f : α → Bool) (d : α → PyData) (W : Wk [] wi σ H xs yv) (hz : xs.length ≤ 100000)
    (hs : ∀ (H2 : Hp), Ex H H2 → ∀ (i : Nat) (a : α) (x : V) (H3 : Hp), xs[i]? = some a → Ex H2 H3 → yv a x H3 → g x (wipe σ vs) H3 fun σ2 H4 => Ex H3 H4 ∧ wipe σ2 vs = wipe σ vs ∧ EvT tt σ2 H4 (f a) ∧ (f a = true → EvP te σ2 H4 (isI (d a)))) (hg : ∀ x σ1 H1 (Q Q' : L2.St → Hp → Prop), (∀ σ2 H2, Q σ2 H2 → Q' σ2 H2) → g x σ1 H1 Q → g x σ1 H1 Q') :
    EvF (tLc wi g tt te vs) σ H ((xs.filter f).map d) := fun H0 e0 Q q => by
  refine W H0 e0 _ fun J H2 e2 hJ => ?_
  intro Dl hD
  have he := e0.trans e2
  refine ⟨fun i m H' => m = xs.length - i ∧ i ≤ xs.length ∧ Ex H2 H' ∧ Ls H' Dl (((xs.take i).filter f).map d), ⟨xs.length, rfl, Nat.zero_le _, Ex.new hD, ⟨[], upd_same, .nil⟩⟩, ?_⟩
  rintro i m H' ⟨rfl, hi, k, p⟩
  by_cases hlt : i < xs.length
  · have ha : xs[i]? = some xs[i] := List.getElem?_eq_getElem hlt
    obtain ⟨g1, g2⟩ := (hJ H' (Ek.of k) i).1 _ ha
    refine .inr ⟨g1, fun H'' => Ex H2 H'' ∧ Ls H'' Dl (((xs.take (i + 1)).filter f).map d), fun H'' hN => ⟨xs.length - (i + 1), by omega, rfl, hlt, hN.1, hN.2⟩, fun x H3 y => ?_⟩
    obtain ⟨e3, y3⟩ := g2 x H3 y
    refine hg _ _ _ _ _ ?_ (hs H2 he i _ x H3 ha (k.trans e3) y3)
    rintro σ2 H4 ⟨e4, hw, ht, hv⟩
    refine ⟨hw, ht H4 (Ex.refl _) _ fun H5 e5 => ?_⟩
    have p5 := p.ex ((e3.trans e4).trans e5)
    have k5 := k.trans ((e3.trans e4).trans e5)
    cases hf : f xs[i] with
    | true =>
      rw [if_pos rfl]
      refine hv hf H5 e5 _ fun y5 H6 e6 hy => ?_
      obtain ⟨acc, a1, a2⟩ := p5.ex e6
      have hlen : acc.length ≤ xs.length := by
        rw [a2.length, List.length_map]
        exact Nat.le_trans (List.length_filter_le _ _) (by rw [List.length_take]; omega)
      refine ⟨acc, a1, sz_lt (by have := a2.length; have := List.length_filter_le f (xs.take i); rw [List.length_map] at *; rw [List.length_take] at *; omega), Ex.mut (k5.trans e6) hD, ?_⟩
      refine ⟨acc ++ [y5], upd_same, ?_⟩
      rw [filter_snoc f xs ha, hf, List.map_append]
      have eu : Ek [Dl] H6 (upd H6 Dl (.lst (acc ++ [y5]))) := Ek.mut (Ek.refl _) List.mem_cons_self a1 (fun _ z => nomatch z)
      exact (Its.mono eu _ _ a2).append (.cons (It.mono eu _ _ hy) .nil)
    | false =>
      rw [if_neg Bool.false_ne_true]
      refine ⟨k5, ?_⟩
      rw [filter_snoc f xs ha, hf]
      show Ls H5 Dl (List.map d (_ ++ []))
      rw [List.append_nil]
      exact p5
  · have e : i = xs.length := by omega
    subst e
    refine .inl ⟨(hJ H' (Ek.of k) _).2 rfl, ?_⟩
    rw [List.take_length] at p
    exact q Dl H' (fresh_back e2 hD) (e2.trans k) p
end
end Pt

namespace Pt
open PySem PySem.Spec PyProof.Rows L2 Evl

section
variable {X : Cx}
/-! ### what is walked: a list, a tuple, a text -/
def iU (K : PySem.W.Frag) (te : TE) : TI := fun σ H R => iList K te σ H R ∨ iTup K te σ H R ∨ iStr te σ H R
theorem pi_U {tg e : Expr} {te : TE} (he : PE X e te) : PI X tg e (iU X.K te) := by
  refine ⟨fun pins s σ H R I h => ?_⟩
  rcases h with h | h | h
  · exact (pi_list he).run pins s σ H R I h
  · exact (pi_tup he).run pins s σ H R I h
  · exact (pi_str he).run pins s σ H R I h
/-! ### slices -/
def rSlU (K : PySem.W.Frag) : V → Option Int → Option Int → Hp → VK → Prop := fun x lo hi H Q => rSlL K x lo hi H Q ∨ rSlS x lo hi H Q ∨ rSlT K x lo hi H Q
theorem sl_U : SlR X (rSlU X.K) := sl_list.or (sl_str.or sl_tup)
/-! ### xs[i] op= e -/
def rGetL (K : PySem.W.Frag) : V → V → Hp → VK → Prop := fun x y H Q => ∃ p xs i j v, x = .ref p ∧ y = .int i ∧ SqL K H p xs ∧ 0 ≤ i ∧ i.toNat = j ∧ xs[j]? = some v ∧ Q v H
theorem get_list : PGet X (rGetL X.K) := by
  intro pins s σ H o i ov iv Q I ro ri h
  obtain ⟨p, xs, k, j, v, rfl, rfl, hq, h0, hj, hv, q⟩ := h
  cases ro
  obtain ⟨t, rfl⟩ := ri
  obtain ⟨its, r, pl, hz⟩ := I.list hq
  obtain ⟨u, hu, ru⟩ := r.get hv
  have hl := r.length
  have hlt := (List.getElem?_eq_some_iff.mp hv).1
  have hs := sizeLine_eq
  exact wpAny_getItem_list pl.isList h0 (by omega) (by rw [hj]; simpa using hu) ⟨v, H, I, ru, q⟩
/-! ### text.index(sign) -/
theorem occ_at (x : Str) (c : Nat) : ∀ (n i : Nat) (j : Nat), i ≤ j → j < i + n → x.cps.toList[j]? = some c → (∀ m, i ≤ m → m < j → x.cps.toList[m]? ≠ some c) →
    (forIn (List.range' i n) ((#[] : Array Nat), 0) (StrLaws.occBody x ⟨#[c]⟩ x.length 1)).run.fst = #[j] := by
  have stay : ∀ (l : List Nat) (j free : Nat), (forIn l ((#[j] : Array Nat), free) (StrLaws.occBody x ⟨#[c]⟩ x.length 1)).run.fst = #[j] := by
    intro l
    induction l with
    | nil => intro j free; rfl
    | cons a l ih =>
      intro j free
      rw [List.forIn_cons]
      unfold StrLaws.occBody
      rw [if_neg (by intro z; exact absurd z.1.1.1 (by show ¬ (1 < 1); omega))]
      exact ih j free
  intro n
  induction n with
  | zero => intro i j h1 h2; omega
  | succ n ih =>
    intro i j h1 h2 hj hm
    rw [List.range'_succ, List.forIn_cons]
    have key := StrLaws.subAt_one x c i
    by_cases e : i = j
    · subst e
      obtain ⟨k1, k2⟩ := key.mpr hj
      unfold StrLaws.occBody
      rw [if_pos ⟨⟨⟨by show 0 < 1; omega, Nat.zero_le _⟩, k1⟩, k2⟩]
      exact stay _ i _
    · have hne : ¬ (i + (⟨#[c]⟩ : Str).length ≤ x.length ∧ Builtin.Str.subAt x ⟨#[c]⟩ i = true) := fun z => hm i (Nat.le_refl _) (by omega) (key.mp z)
      unfold StrLaws.occBody
      rw [if_neg (fun z => hne ⟨z.1.2, z.2⟩)]
      exact ih (i + 1) j (by omega) (by omega) hj fun m m1 m2 => hm m (by omega) m2
theorem occ_first {x : Str} {c j : Nat} (hj : x.cps.toList[j]? = some c) (hm : ∀ m, m < j → x.cps.toList[m]? ≠ some c) : Builtin.Str.occurrences x ⟨#[c]⟩ 0 x.length 1 = [j] := by
  rw [StrLaws.occ_eq, occ_at x c (x.length + 1 - 0) 0 j (Nat.zero_le _) ?_ hj fun m _ h => hm m h]
  have hlt := (List.getElem?_eq_some_iff.mp hj).1
  have : x.cps.toList.length = x.length := by simp [Str.length]
  omega
def rIndexS : V → List V → Hp → VK → Prop := fun x xs H Q => ∃ (w : List Nat) (c : Nat), x = S w ∧ xs = [S [c]] ∧ c ∈ w ∧ Q (.int (w.idxOf c : Nat)) H
theorem idxOf_at {w : List Nat} {c : Nat} (h : c ∈ w) : w[w.idxOf c]? = some c ∧ ∀ m, m < w.idxOf c → w[m]? ≠ some c := by
  induction w with
  | nil => cases h
  | cons a w ih =>
    by_cases e : a = c
    · subst e
      rw [List.idxOf_cons_self]
      exact ⟨rfl, fun m hm => by omega⟩
    · have h' : c ∈ w := (List.mem_cons.mp h).resolve_left (fun z => e z.symm)
      rw [List.idxOf_cons, show (a == c) = false from beq_false_of_ne e, cond_false]
      obtain ⟨i1, i2⟩ := ih h'
      refine ⟨i1, fun m hm => ?_⟩
      cases m with
      | zero => intro z; exact e (Option.some.inj z)
      | succ m => exact i2 m (by omega)
theorem mt_indexS : MtR X "str.index" rIndexS := by
  intro pins s σ H x xs v us Q I rx rs h
  obtain ⟨w, c, rfl, rfl, hc, q⟩ := h
  obtain ⟨t, rfl⟩ := rx
  cases rs with
  | cons r1 rs =>
    cases rs
    obtain ⟨u, rfl⟩ := r1
    obtain ⟨k1, k2⟩ := idxOf_at hc
    exact PySem.SC.index (occ_first (x := ⟨w.toArray⟩) k1 k2) ⟨.int _, H, I.tok _, ⟨_, rfl⟩, q⟩
/-! ### sorted(text) -/
def rSortedT (K : PySem.W.Frag) : List V → Hp → VK → Prop := fun vs H Q => ∃ (w : List Nat), vs = [S w] ∧ w.length < 64 ∧ ∀ (ys : List Str) (p : Addr), ys.Perm (w.map fun c => ⟨#[c]⟩) → sortedS ys = true → H p = none → Q (.ref p) (upd H p (.lst (ys.map V.str)))
theorem cr_sortedTx (hcalm : X.calm = true) : CallR X (.builtin "sorted") (rSortedT X.K) := by
  intro pins s σ H xs us Q I r q
  obtain ⟨w, rfl, h64, q⟩ := q
  obtain ⟨u, rfl, rx⟩ := vals1 r
  obtain ⟨tk, rfl⟩ := rx
  refine Calls.call_function_entry PyProof.Rows.kind_sorted PyProof.Rows.plain_sorted PyProof.Rows.entry_sorted (PyProof.Rows.args_sorted1 _) ?_
  unfold Builtin.«sorted»
  refine wpAny_bind (m := checkCount "sorted" 1 1 _) (wpAny_pure ?_)
  refine wpAny_bind (wpAny_collect_str (A := X.A.in1) (I.ok.hd hcalm) _ tk (fun s' acc hk hg hdr ho hacc => ?_) (by show w.toArray.size ≤ sizeLine; rw [List.size_toArray, sizeLine_eq]; omega))
  have hal : acc.toList.length = w.length := by rw [Array.length_toList, hacc.1]; exact List.size_toArray
  have hS : StrsAre acc.toList (w.map fun c => (⟨#[c]⟩ : Str)) := strs_at (by rw [hal, List.length_map]) fun j v e => by
    obtain ⟨c, k, e1, e2⟩ := hacc.2 j v (by rw [← Array.getElem?_toList]; exact e)
    refine ⟨⟨#[c]⟩, k, ?_, e2⟩
    have e3 : w.toArray[j]? = some c := e1
    rw [List.getElem?_toArray] at e3
    rw [List.getElem?_map, e3] <;> rfl
  obtain ⟨h', gg', d', tk', o'⟩ := s'
  have hg' : gg' = s.gens := hg
  have hd' : d' = s.drawn := hdr
  have ho' : o' = s.os := ho
  subst hg' hd' ho'
  have I1 : Inv X pins σ H { s with heap := h', toks := tk' } := I.kept hk
  refine wpAny_bind (wpAny_newList ?_ (by rw [hal, sizeLine_eq]; omega))
  have hoL : (h'.push (seqObj "list" acc.toList.toArray 0)).get? h'.objs.size = some (seqObj "list" acc.toList.toArray 0) := Heap.get?_push_size _ rfl
  show wpAny _ _ _ _ _ { s with heap := h'.push (seqObj "list" acc.toList.toArray 0), toks := tk' }
  refine wpAny_bind (wpAny_holding (wpAny_call_entry PyProof.Rows.slot_list_sort ⟨_, hoL, rfl⟩ PyProof.Rows.entry_list_sort
    (list_sort_treeK strKind_oneLt (s := { s with heap := h'.push (seqObj "list" acc.toList.toArray 0), toks := tk' }) hoL hS.keysOf (fun v₁ v₂ rest e => keyKind_strs (by rw [← e]; exact hS)) (by rw [hal]; exact h64) fun st' hp hs => ⟨_, rfl, ?_⟩)
    (PyProof.Rows.args_list_sort _)))
  obtain ⟨ys, g1, g2, g3⟩ := sorted_out_str hS hp hs
  obtain ⟨e', he'⟩ := PyProof.Rows.sortedHeap_at (vs := acc.toList) (out := (arrOf st').map (·.2)) hoL
  have hlen : (ys.map V.str).length ≤ sizeLine := by
    rw [List.length_map, g2.length_eq, List.length_map, sizeLine_eq]; omega
  refine wpAny_pure ⟨_, rfl, .ref h'.objs.size, upd H h'.objs.size (.lst (ys.map V.str)), I1.laid (t' := tk') (fun b u e => ?_) (Nat.le_refl _)
    (show ObjOk X.prog X.w _ _ _ (.lst (ys.map V.str)) from ⟨hlen, ((arrOf st').map (·.2)).toList, e', vals_of_strs g1, by rw [Array.toArray_toList]; exact he'⟩), rfl, q ys _ g2 g3 (I1.hok.fresh (Nat.le_refl _))⟩
  have hb : b < h'.objs.size := Heap.lt_size e
  rw [PyProof.Rows.sortedHeap_old (Nat.ne_of_lt hb) (by rw [size_push']; exact Nat.lt_succ_of_lt hb)]
  exact Heap.get?_push_of_some _ e
end

section
variable {K : PySem.W.Frag} {σ : L2.St} {H H' : Hp} {ta tb tc te tx tl : TE} {x y z v : V} {ds es : List PyData} {own : List Addr}
theorem wk_or {α : Type} {xs : List α} {yv : α → V → Hp → Prop} {w1 w2 : TI} (f : ∀ σ H R, w1 σ H R → w2 σ H R) (h : Wk own w1 σ H xs yv) : Wk own w2 σ H xs yv := fun H1 e R r => f _ _ _ (h H1 e R r)
theorem wkU_list {a : Addr} (h : Ev tl σ H (.ref a)) (hl : Ls H a ds) (n : a ∉ own) : Wk own (iU K tl) σ H ds (fun d x H' => It H' x d) := wk_or (fun _ _ _ h => .inl h) (wk_list h hl n)
theorem wkU_new (h : EvF tl σ H ds) (n : ∀ a ∈ own, H a ≠ none) : Wk own (iU K tl) σ H ds (fun d x H' => It H' x d) := wk_or (fun _ _ _ h => .inl h) (wk_listP h n)
theorem wkU_tup (h : EvP tl σ H (isI (.tuple ds))) : Wk own (iU K tl) σ H ds (fun d x H' => It H' x d) := wk_or (fun _ _ _ h => .inr (.inl h)) (wk_tup h)
theorem wkU_str {w : List Nat} (h : Ev tl σ H (S w)) : Wk own (iU K tl) σ H w (fun c x _ => x = S [c]) := wk_or (fun _ _ _ h => .inr (.inr h)) (wk_str h)
/-- items of one sort -/
theorem Wk.typed {α β : Type} {wi : TI} {xs : List α} {yv : β → V → Hp → Prop} {e : α → β} (h : Wk own wi σ H (xs.map e) yv) : Wk own wi σ H xs (fun a => yv (e a)) := fun H1 k R r =>
  h H1 k R fun J H2 e2 hJ => r J H2 e2 fun H3 k3 i => ⟨fun a ha => (hJ H3 k3 i).1 (e a) (by rw [List.getElem?_map, ha]; rfl), fun hi => (hJ H3 k3 i).2 (by rw [List.length_map]; exact hi)⟩
theorem Wk.weak {α : Type} {wi : TI} {xs : List α} {yv yv' : α → V → Hp → Prop} (h : Wk own wi σ H xs yv) (f : ∀ a x H', yv a x H' → yv' a x H') : Wk own wi σ H xs yv' := fun H1 k R r =>
  h H1 k R fun J H2 e2 hJ => r J H2 e2 fun H3 k3 i => ⟨fun a ha => ⟨((hJ H3 k3 i).1 a ha).1, fun x H' y => ⟨(((hJ H3 k3 i).1 a ha).2 x H' y).1, f _ _ _ (((hJ H3 k3 i).1 a ha).2 x H' y).2⟩⟩, (hJ H3 k3 i).2⟩
/-! ### slices -/
def cut {α : Type} (xs : List α) (lo hi : Option Int) : List α := (xs.drop (HT.sIx xs.length 0 lo)).take (HT.sIx xs.length xs.length hi - HT.sIx xs.length 0 lo)
theorem cut_nn {α : Type} (xs : List α) (i j : Nat) : cut xs (some (i : Int)) (some (j : Int)) = (xs.take j).drop i := by
  unfold cut
  rw [HT.sIx_nat, HT.sIx_nat, List.drop_take]
  by_cases hi : i ≤ xs.length
  · rw [Nat.min_eq_left hi]
    by_cases hj : j ≤ xs.length
    · rw [Nat.min_eq_left hj]
    · rw [Nat.min_eq_right (by omega), List.take_of_length_le (l := xs.drop i) (by rw [List.length_drop]; omega), List.take_of_length_le (l := xs.drop i) (by rw [List.length_drop]; omega)]
  · rw [show min i xs.length = xs.length by omega, List.drop_length, List.drop_of_length_le (l := xs) (i := i) (by omega)]
    simp only [List.take_nil]
theorem cut_n0 {α : Type} (xs : List α) (j : Nat) : cut xs none (some (j : Int)) = xs.take j := by
  have h := cut_nn xs 0 j
  unfold cut at h ⊢
  rw [show HT.sIx xs.length 0 (some ((0 : Nat) : Int)) = 0 by rw [HT.sIx_nat, Nat.zero_min]] at h
  rw [HT.sIx_none]
  exact h
theorem cut_i0 {α : Type} (xs : List α) (i : Nat) : cut xs (some (i : Int)) none = xs.drop i := by
  unfold cut
  rw [HT.sIx_nat, HT.sIx_none]
  by_cases hi : i ≤ xs.length
  · rw [Nat.min_eq_left hi, List.take_of_length_le (by rw [List.length_drop]; exact Nat.le_refl _)]
  · rw [Nat.min_eq_right (by omega), List.drop_length, List.drop_of_length_le (by omega)]
    simp only [List.take_nil]
theorem cut_len {α : Type} (xs : List α) (lo hi : Option Int) : (cut xs lo hi).length ≤ xs.length := by
  unfold cut
  rw [List.length_take, List.length_drop]
  omega
theorem ev_slS {w : List Nat} {tlo thi : TO} {lo hi : Option Int} (h : Ev te σ H (S w)) (h1 : EvO tlo σ H lo) (h2 : EvO thi σ H hi) (hw : w.length ≤ 100000) : Ev (tSl (rSlU K) te tlo thi) σ H (S (cut w lo hi)) := fun H1 e Q q =>
  h H1 e _ fun H2 e2 => h1 H2 (e.trans e2) _ fun H3 e3 => h2 H3 ((e.trans e2).trans e3) _ fun H4 e4 => by
    refine .inr (.inl ⟨_, rfl, by rw [S_len]; exact sz_of hw, ?_⟩)
    have ec : cutS ⟨w.toArray⟩ lo hi = ⟨(cut w lo hi).toArray⟩ := by
      unfold cutS cut
      rw [S_len]
    rw [ec]
    exact q H4 ((e2.trans e3).trans e4)
theorem its_cut {vs : List V} (h : Its H vs ds) (lo hi : Option Int) : Its H (cutV vs lo hi) (cut ds lo hi) := by
  unfold cutV cut
  rw [h.length]
  exact Its.take _ (Its.drop _ h)
theorem evf_slL {tlo thi : TO} {lo hi : Option Int} (h : EvP te σ H (isL ds)) (h1 : EvO tlo σ H lo) (h2 : EvO thi σ H hi) : EvF (tSl (rSlU K) te tlo thi) σ H (cut ds lo hi) := fun H1 e Q q =>
  h H1 e _ fun x H2 e2 p => h1 H2 (e.trans e2) _ fun H3 e3 => h2 H3 ((e.trans e2).trans e3) _ fun H4 e4 => by
    obtain ⟨a, rfl, vs, g1, g2⟩ := p
    have g1' := (e3.trans e4) _ _ g1
    have g2' := g2.ex (e3.trans e4)
    refine .inl ⟨a, vs, rfl, sq_of g1', fun p hp => q p _ (fresh_back ((e2.trans e3).trans e4) hp) (((e2.trans e3).trans e4).trans (Ex.new hp)) ⟨_, upd_same, (its_cut g2' lo hi).ex (Ex.new hp)⟩⟩
theorem ev_takeS {w : List Nat} {thi : TO} {k : Nat} (h : Ev te σ H (S w)) (h2 : EvO thi σ H (some (k : Int))) (hw : w.length ≤ 100000) : Ev (tSl (rSlU K) te tNoPart thi) σ H (S (w.take k)) := by
  have := ev_slS (K := K) h eo_none h2 hw
  rw [cut_n0] at this
  exact this
theorem ev_dropS {w : List Nat} {tlo : TO} {k : Nat} (h : Ev te σ H (S w)) (h2 : EvO tlo σ H (some (k : Int))) (hw : w.length ≤ 100000) : Ev (tSl (rSlU K) te tlo tNoPart) σ H (S (w.drop k)) := by
  have := ev_slS (K := K) h h2 eo_none hw
  rw [cut_i0] at this
  exact this
theorem ev_subS {w : List Nat} {tlo thi : TO} {i j : Nat} (h : Ev te σ H (S w)) (h1 : EvO tlo σ H (some (i : Int))) (h2 : EvO thi σ H (some (j : Int))) (hw : w.length ≤ 100000) : Ev (tSl (rSlU K) te tlo thi) σ H (S ((w.take j).drop i)) := by
  have := ev_slS (K := K) h h1 h2 hw
  rw [cut_nn] at this
  exact this
/-! ### methods of texts -/
theorem ev_indexS {w : List Nat} {c : Nat} (h : Ev te σ H (S w)) (h1 : Ev ta σ H (S [c])) (hc : c ∈ w) : Ev (tBM K "str" rIndexS te (tCons ta tNil)) σ H (.int (w.idxOf c : Nat)) := fun H1 e Q q =>
  h H1 e _ fun H2 e2 => ⟨rfl, h1 H2 (e.trans e2) _ fun H3 e3 => ⟨w, c, rfl, rfl, hc, q H3 (e2.trans e3)⟩⟩
def rJoin (K : PySem.W.Frag) : V → List V → Hp → VK → Prop := fun x xs H Q => ∃ a p, ∃ ys : List Str, x = .str a ∧ xs = [.ref p] ∧ (SqL K H p (ys.map V.str) ∨ SqT K H p (ys.map V.str)) ∧
    (ys.map (·.length)).sum + ys.length * a.length ≤ 16777216 ∧ Q (.str (Txt.join a ys)) H
theorem join0 : ∀ ws : List (List Nat), TL.joinL [] ws = ws.flatten
  | [] => rfl
  | [p] => by simp [TL.joinL]
  | p :: q :: r => by
    show p ++ ([] ++ TL.joinL [] (q :: r)) = _
    rw [join0 (q :: r), List.nil_append, List.flatten_cons (l := p)]
theorem ev_join {ws : List (List Nat)} (h : Ev te σ H (S [])) (h1 : EvP ta σ H (isL (ws.map dS))) (hz : (ws.map List.length).sum ≤ 100000) : Ev (tM1 (rJoin K) te ta) σ H (S ws.flatten) := fun H1 e Q q =>
  h H1 e _ fun H2 e2 => ⟨⟨_, rfl⟩, h1 H2 (e.trans e2) _ fun y H3 e3 hy => by
    obtain ⟨p, rfl, vs, g1, g2⟩ := hy
    have ev := g2.strs
    subst ev
    have em : (ws.map S) = ((ws.map fun w => (⟨w.toArray⟩ : Str)).map V.str) := by rw [List.map_map]; rfl
    refine ⟨⟨[].toArray⟩, p, ws.map fun w => ⟨w.toArray⟩, rfl, rfl, .inl (sq_of (by rw [← em]; exact g1)), ?_, ?_⟩
    · rw [List.map_map]
      have : (ws.map ((fun s : Str => s.length) ∘ fun w => (⟨w.toArray⟩ : Str))) = ws.map List.length := List.map_congr_left fun w _ => S_len w
      rw [this]
      show _ + _ * 0 ≤ _
      omega
    · have ej : Txt.join ⟨[].toArray⟩ (ws.map fun w => (⟨w.toArray⟩ : Str)) = ⟨ws.flatten.toArray⟩ := by
        refine TL.ext_tl ?_
        rw [TL.join_eq, TL.tl_join, List.map_map]
        show TL.joinL [] (ws.map (TL.tl ∘ fun w => (⟨w.toArray⟩ : Str))) = ws.flatten
        have : (ws.map (TL.tl ∘ fun w => (⟨w.toArray⟩ : Str))) = ws := by
          rw [show (TL.tl ∘ fun w : List Nat => (⟨w.toArray⟩ : Str)) = id from rfl, List.map_id]
        rw [this, join0]
      rw [ej]
      exact q H3 (e2.trans e3)⟩
end
end Pt

namespace Pt
open PySem PySem.Spec PyProof.Rows L2 Evl

/-! ### text[lo:hi:k] -/
def pick (w : List Nat) (lo hi : Option Int) (k : Int) : List Nat := (Builtin.Str.strSliceIndices lo hi k w.length).filterMap fun i => w[i]?
def tStS (te : TE) (tl th ts : TO) : TE := fun σ H Q => te σ H fun x H1 => tl σ H1 fun l H2 => th σ H2 fun u H3 => ts σ H3 fun s H4 => ∃ (w : List Nat) (k : Int), x = S w ∧ s = some k ∧ (k ≠ 0 ∧ k ≠ 1) ∧ (pick w l u k).length ≤ 100000 ∧ Q (S (pick w l u k)) H4
section
variable {X : Cx}
theorem pe_stS {e : Expr} {lo hi : Option Expr} {st : Expr} {te : TE} {tl th ts : TO} {p2 pos : Pos} (he : PE X e te) (hl : PO X lo tl) (hu : PO X hi th) (hs : PO X (some st) ts) : PE X (.Subscript e (.Slice lo hi (some st) p2) pos) (tStS te tl th ts) := by
  refine ⟨fun pins s σ H Q I h => ?_⟩
  refine Subscript_ (thn (he.run pins s σ H _ I h) fun v s1 ⟨x, H1, I1, r1, q1⟩ => ?_)
  refine wpAny_Slice (thn (hl.run pins s1 σ H1 _ I1 q1) fun vl s2 ⟨l, H2, I2, pl, q2⟩ => thn (hu.run pins s2 σ H2 _ I2 q2) fun vu s3 ⟨u, H3, I3, pu, q3⟩ => thn (hs.run pins s3 σ H3 _ I3 q3) fun vk s4 ⟨k0, H4, I4, pk, q4⟩ => ?_)
  obtain ⟨w, k, rfl, rfl, ⟨hk, hk1⟩, hz, q⟩ := q4
  obtain ⟨t, rfl⟩ := r1
  have I5 : Inv X pins σ H4 { s4 with heap := s4.heap.push { cls := .type "slice", data := .fields #[vl, vu, vk] } } := I4.kept (t' := s4.toks) fun b ob q => Heap.get?_push_of_some _ q
  obtain ⟨l', rfl, rfl⟩ := IsPart.raw pl
  obtain ⟨u', rfl, rfl⟩ := IsPart.raw pu
  obtain ⟨k', rfl, ek⟩ := IsPart.raw pk
  show wpAny (model X.prog X.w) X.A (subscriptTail e (.Slice lo hi (some st) p2) (.str ⟨w.toArray⟩ t) (.ref s4.heap.objs.size)) (EP X pins σ Q) X.xe { s4 with heap := s4.heap.push { cls := .type "slice", data := .fields #[partValue l', partValue u', partValue k'] } }
  refine tail_any (ops := [.str ⟨w.toArray⟩ t, .ref s4.heap.objs.size]) (typeIs_str _ _ _) F.slot_str_getitem.lookup ?_ (by with_unfolding_all rfl)
  refine wpAny_getItem_str_slice (l := l') (u := u') (st := k') ⟨_, Heap.get?_push_size _ rfl, rfl, rfl⟩ (by rw [ek]; simpa using hk) ?_
  have hp : ((Builtin.Str.strSliceIndices (l'.map (·.1)) (u'.map (·.1)) k (⟨w.toArray⟩ : Str).length).filterMap ((⟨w.toArray⟩ : Str).cps[·]?)) = pick w (l'.map (·.1)) (u'.map (·.1)) k := by
    unfold pick
    rw [S_len]
    have e1 : (fun i : Nat => (⟨w.toArray⟩ : Str).cps[i]?) = fun i => w[i]? := by
      funext i
      show w.toArray[i]? = w[i]?
      rw [List.getElem?_toArray]
    rw [e1]
  unfold sliceMade slicePicked
  rw [ek, Option.getD_some]
  rw [show (k == 1) = false from beq_false_of_ne hk1, Bool.false_and, if_neg Bool.false_ne_true, hp]
  exact ⟨by rw [S_len]; exact sz_of hz, S _, H4, I5.tok _, ⟨_, rfl⟩, q⟩
end
section
variable {K : PySem.W.Frag} {σ : L2.St} {H H' : Hp} {ta tb tc te tx : TE}
theorem fm_range : ∀ w : List Nat, (List.range w.length).filterMap (fun i => w[i]?) = w
  | [] => rfl
  | c :: w => by
    rw [List.length_cons, List.range_succ_eq_map, List.filterMap_cons]
    show c :: _ = _
    rw [List.filterMap_map]
    congr 1
    exact fm_range w
theorem pick_rev (w : List Nat) : pick w none none (-1) = w.reverse := by
  have e : Builtin.Str.strSliceIndices none none (-1) w.length = (List.range w.length).map fun k => w.length - 1 - k := by
    unfold Builtin.Str.strSliceIndices
    simp only [show ¬ ((-1 : Int) > 0) by decide, if_false]
    unfold sliceRange
    simp only [show ¬ ((-1 : Int) > 0) by decide, if_false]
    have c : (if (w.length : Int) - 1 > -1 then ((w.length : Int) - 1 - -1 - -1 - 1) / (- -1) else 0) = (w.length : Int) := by
      by_cases h : (w.length : Int) - 1 > -1
      · rw [if_pos h]
        simp
      · rw [if_neg h]; omega
    rw [c, Int.toNat_natCast]
    refine List.map_congr_left fun k hk => ?_
    rw [List.mem_range] at hk
    omega
  have e2 : ((List.range w.length).map fun k => w.length - 1 - k) = (List.range w.length).reverse := by
    apply List.ext_getElem?
    intro i
    by_cases hi : i < w.length
    · rw [List.getElem?_reverse (by rw [List.length_range]; exact hi), List.getElem?_map, List.getElem?_range hi, List.length_range, List.getElem?_range (by omega)]
      rfl
    · rw [List.getElem?_eq_none (by rw [List.length_map, List.length_range]; omega), List.getElem?_eq_none (by rw [List.length_reverse, List.length_range]; omega)]
  unfold pick
  rw [e, e2, List.filterMap_reverse, fm_range]
theorem ev_stS {w : List Nat} {tlo thi ts : TO} {lo hi : Option Int} {k : Int} (h : Ev te σ H (S w)) (h1 : EvO tlo σ H lo) (h2 : EvO thi σ H hi) (h3 : EvO ts σ H (some k)) (hk : k ≠ 0 ∧ k ≠ 1) (hz : (pick w lo hi k).length ≤ 100000) : Ev (tStS te tlo thi ts) σ H (S (pick w lo hi k)) := fun H1 e Q q =>
  h H1 e _ fun H2 e2 => h1 H2 (e.trans e2) _ fun H3 e3 => h2 H3 ((e.trans e2).trans e3) _ fun H4 e4 => h3 H4 (((e.trans e2).trans e3).trans e4) _ fun H5 e5 => ⟨w, k, rfl, rfl, hk, hz, q H5 (((e2.trans e3).trans e4).trans e5)⟩
theorem ev_rev {w : List Nat} {ts : TO} (h : Ev te σ H (S w)) (h3 : EvO ts σ H (some (-1))) (hz : w.length ≤ 100000) : Ev (tStS te tNoPart tNoPart ts) σ H (S w.reverse) := by
  have := ev_stS h eo_none eo_none h3 ⟨by decide, by decide⟩ (by rw [pick_rev, List.length_reverse]; exact hz)
  rw [pick_rev] at this
  exact this
end

/-! ### comprehensions in short -/
section
variable {K : PySem.W.Frag} {σ : L2.St} {H H' : Hp} {ta tb tc te tx : TE} {tt : TT} {wi : TI} {α : Type} {xs : List α} {yv : α → V → Hp → Prop} {vs : List Nat}
theorem gm_name {j : Nat} : ∀ x σ1 H1 (Q Q' : L2.St → Hp → Prop), (∀ σ2 H2, Q σ2 H2 → Q' σ2 H2) → gName j x σ1 H1 Q → gName j x σ1 H1 Q' := fun _ _ _ _ _ f h => f _ _ h
theorem gm_two {n i j : Nat} : ∀ x σ1 H1 (Q Q' : L2.St → Hp → Prop), (∀ σ2 H2, Q σ2 H2 → Q' σ2 H2) → gTup K n (gCons (gName i) (gCons (gName j) gNil)) x σ1 H1 Q → gTup K n (gCons (gName i) (gCons (gName j) gNil)) x σ1 H1 Q' := fun _ _ _ _ _ f h => by
  obtain ⟨a, us, h1, h2, h3, v, r, h4, v2, r2, h5, h6, h7⟩ := h
  exact ⟨a, us, h1, h2, h3, v, r, h4, v2, r2, h5, h6, f _ _ h7⟩
/-- a pair's two places into two names -/
theorem g_two {i j : Nat} {σ1 : L2.St} {H1 : Hp} {x : V} {d1 d2 : PyData} {Q : L2.St → Hp → Prop} (h : It H1 x (.tuple [d1, d2])) (k : ∀ v1 v2, It H1 v1 d1 → It H1 v2 d2 → Q ((σ1.set i (some v1)).set j (some v2)) H1) : gTup K 2 (gCons (gName i) (gCons (gName j) gNil)) x σ1 H1 Q := by
  cases h with
  | tup h1 h2 =>
    rename_i a us
    have h2' := h2
    cases h2' with
    | cons k1 k2 =>
      cases k2 with
      | cons k3 k4 =>
        cases k4
        exact ⟨a, _, rfl, st_of h1, rfl, _, _, rfl, _, _, rfl, rfl, k _ _ k1 k3⟩
theorem et_yes {σ : L2.St} {H : Hp} : EvT tYes σ H true := fun H1 _ _ q => q H1 (Ex.refl H1)
theorem evf_map {j : Nat} (d : α → PyData) (W : Wk [] wi σ H xs yv) (hz : xs.length ≤ 100000) (hw : ∀ x, wipe ((wipe σ vs).set j (some x)) vs = wipe σ vs)
    (hs : ∀ a x H3, a ∈ xs → Ex H H3 → yv a x H3 → EvP te ((wipe σ vs).set j (some x)) H3 (isI (d a))) : EvF (tLc wi (gName j) tYes te vs) σ H (xs.map d) := by
  have := evf_lc (tt := tYes) (te := te) (vs := vs) (g := gName j) (fun _ => true) d W hz (fun H2 e i a x H3 ha e3 hy => ⟨Ex.refl _, hw x, et_yes, fun _ => hs a x H3 (List.mem_of_getElem? ha) (e.trans e3) hy⟩) gm_name
  rw [List.filter_eq_self.mpr (fun _ _ => rfl)] at this
  exact this
theorem evf_fmap {j : Nat} (f : α → Bool) (d : α → PyData) (W : Wk [] wi σ H xs yv) (hz : xs.length ≤ 100000) (hw : ∀ x, wipe ((wipe σ vs).set j (some x)) vs = wipe σ vs)
    (ht : ∀ a x H3, a ∈ xs → Ex H H3 → yv a x H3 → EvT tt ((wipe σ vs).set j (some x)) H3 (f a)) (hs : ∀ a x H3, a ∈ xs → f a = true → Ex H H3 → yv a x H3 → EvP te ((wipe σ vs).set j (some x)) H3 (isI (d a))) : EvF (tLc wi (gName j) tt te vs) σ H ((xs.filter f).map d) :=
  evf_lc (tt := tt) (te := te) (vs := vs) (g := gName j) f d W hz (fun H2 e i a x H3 ha e3 hy => ⟨Ex.refl _, hw x, ht a x H3 (List.mem_of_getElem? ha) (e.trans e3) hy, fun hf => hs a x H3 (List.mem_of_getElem? ha) hf (e.trans e3) hy⟩) gm_name
/-- over pairs -/
theorem evf_map2 {i j : Nat} {d1 d2 : α → PyData} (d : α → PyData) (W : Wk [] wi σ H xs (fun a x H' => It H' x (.tuple [d1 a, d2 a]))) (hz : xs.length ≤ 100000) (hw : ∀ x y, wipe (((wipe σ vs).set i (some x)).set j (some y)) vs = wipe σ vs)
    (hs : ∀ a x y H3, a ∈ xs → Ex H H3 → It H3 x (d1 a) → It H3 y (d2 a) → EvP te (((wipe σ vs).set i (some x)).set j (some y)) H3 (isI (d a))) : EvF (tLc wi (gTup K 2 (gCons (gName i) (gCons (gName j) gNil))) tYes te vs) σ H (xs.map d) := by
  have := evf_lc (tt := tYes) (te := te) (vs := vs) (g := gTup K 2 (gCons (gName i) (gCons (gName j) gNil))) (fun _ => true) d W hz (fun H2 e i a x H3 ha e3 hy => g_two hy fun v1 v2 k1 k2 => ⟨Ex.refl _, hw _ _, et_yes, fun _ => hs a v1 v2 H3 (List.mem_of_getElem? ha) (e.trans e3) k1 k2⟩) gm_two
  rw [List.filter_eq_self.mpr (fun _ _ => rfl)] at this
  exact this
theorem evf_fmap2 {i j : Nat} {d1 d2 : α → PyData} (f : α → Bool) (d : α → PyData) (W : Wk [] wi σ H xs (fun a x H' => It H' x (.tuple [d1 a, d2 a]))) (hz : xs.length ≤ 100000) (hw : ∀ x y, wipe (((wipe σ vs).set i (some x)).set j (some y)) vs = wipe σ vs)
    (ht : ∀ a x y H3, a ∈ xs → Ex H H3 → It H3 x (d1 a) → It H3 y (d2 a) → EvT tt (((wipe σ vs).set i (some x)).set j (some y)) H3 (f a))
    (hs : ∀ a x y H3, a ∈ xs → f a = true → Ex H H3 → It H3 x (d1 a) → It H3 y (d2 a) → EvP te (((wipe σ vs).set i (some x)).set j (some y)) H3 (isI (d a))) : EvF (tLc wi (gTup K 2 (gCons (gName i) (gCons (gName j) gNil))) tt te vs) σ H ((xs.filter f).map d) :=
  evf_lc (tt := tt) (te := te) (vs := vs) (g := gTup K 2 (gCons (gName i) (gCons (gName j) gNil))) f d W hz (fun H2 e i a x H3 ha e3 hy => g_two hy fun v1 v2 k1 k2 => ⟨Ex.refl _, hw _ _, ht a v1 v2 H3 (List.mem_of_getElem? ha) (e.trans e3) k1 k2, fun hf => hs a v1 v2 H3 (List.mem_of_getElem? ha) hf (e.trans e3) k1 k2⟩) gm_two
/-! ### all, any, sum -/
theorem ev_all {bs : List Bool} (h : EvF te σ H (bs.map dB)) : Ev (tCB (rAll K) (tCons te tNil)) σ H (.bl (bs.all id)) := ev_cbV (eap_cons h.l mono_L eap_nil) fun vs H2 _ hp Q q => by
  obtain ⟨v, r, rfl, ⟨a, rfl, us, h1, h2⟩, rfl⟩ := hp
  exact ⟨a, bs, rfl, sq_of (by rw [h1, h2.bls]), q⟩
theorem ev_any {bs : List Bool} (h : EvF te σ H (bs.map dB)) : Ev (tCB (rAny K) (tCons te tNil)) σ H (.bl (bs.any id)) := ev_cbV (eap_cons h.l mono_L eap_nil) fun vs H2 _ hp Q q => by
  obtain ⟨v, r, rfl, ⟨a, rfl, us, h1, h2⟩, rfl⟩ := hp
  exact ⟨a, bs, rfl, sq_of (by rw [h1, h2.bls]), q⟩
theorem ev_sum {ns : List Int} (h : EvF te σ H (ns.map dI)) : Ev (tCB (rSum K) (tCons te tNil)) σ H (.int ns.sum) := ev_cbV (eap_cons h.l mono_L eap_nil) fun vs H2 _ hp Q q => by
  obtain ⟨v, r, rfl, ⟨a, rfl, us, h1, h2⟩, rfl⟩ := hp
  exact ⟨a, ns, rfl, sq_of (by rw [h1, h2.ints]), q⟩
theorem ev_allM {f : α → Bool} (h : EvF te σ H (xs.map fun a => dB (f a))) : Ev (tCB (rAll K) (tCons te tNil)) σ H (.bl (xs.all f)) := by
  have := ev_all (K := K) (bs := xs.map f) (by rw [List.map_map]; exact h)
  rw [List.all_map] at this
  exact this
theorem ev_anyM {f : α → Bool} (h : EvF te σ H (xs.map fun a => dB (f a))) : Ev (tCB (rAny K) (tCons te tNil)) σ H (.bl (xs.any f)) := by
  have := ev_any (K := K) (bs := xs.map f) (by rw [List.map_map]; exact h)
  rw [List.any_map] at this
  exact this
/-- isinstance of one class, by the answer -/
theorem ev_isi {x c : V} {t u : Value} {b : Bool} (h : Ev ta σ H x) (hc : Ev tb σ H c) (kc : ClsV c u) (kx : ∀ H2, Ex H H2 → TyX K H2 x t) (k : PySem.W.kitOne K t u = some b) : Ev (tCB (rIsi K) (tCons ta (tCons tb tNil))) σ H (.bl b) := ev_cbV (eap_cons h.p mono_V (eap_cons hc.p mono_V eap_nil)) fun vs H2 e2 hp Q q => by
  obtain ⟨v, r, rfl, rfl, v2, r2, rfl, rfl, rfl⟩ := hp
  exact ⟨_, _, _, _, b, rfl, kc, kx H2 e2, k, q⟩
end
end Pt

namespace Pt
open PySem PySem.Spec PyProof.Rows L2 Evl

/-! ### rules by the written part's name (within a comprehension, too) -/
section
variable {X : Cx} {K : PySem.W.Frag}
theorem k_in (h : X.K = K := by rfl) : OpR X (compareOp .In) (rInU K) := h ▸ op_inU
theorem k_notIn (h : X.K = K := by rfl) : OpR X (compareOp .NotIn) (rNotInU K) := h ▸ op_notInU
theorem k_eq (hu : X.A.units + 64 < cLine) (h : X.K = K := by rfl) : OpR X (compareOp .Eq) (rEqU K) := h ▸ op_eqU hu
theorem k_ne (hu : X.A.units + 64 < cLine) (h : X.K = K := by rfl) : OpR X (compareOp .NotEq) (rNeU K) := h ▸ op_neU hu
theorem k_ix (h : X.K = K := by rfl) : IxR X (rIx K) := h ▸ ix_seq
theorem k_isi (h : X.K = K := by rfl) : CallR X (.builtin "isinstance") (rIsi K) := h ▸ call_isi
theorem k_len (h : X.K = K := by rfl) : CallR X (.builtin "len") (rLenU K) := h ▸ call_lenU
theorem k_all (hc : X.calm = true) (h : X.K = K := by rfl) : CallR X (.builtin "all") (rAll K) := h ▸ cr_all hc
theorem k_any (hc : X.calm = true) (h : X.K = K := by rfl) : CallR X (.builtin "any") (rAny K) := h ▸ cr_any hc
theorem k_sum (hc : X.calm = true) (h : X.K = K := by rfl) : CallR X (.builtin "sum") (rSum K) := h ▸ cr_sum hc
theorem k_sl (h : X.K = K := by rfl) : SlR X (rSlU K) := h ▸ sl_U
theorem k_it {tg e : Expr} {te : TE} (he : PE X e te) (h : X.K = K := by rfl) : PI X tg e (iU K te) := h ▸ pi_U he
theorem k_get (h : X.K = K := by rfl) : PGet X (rGetL K) := h ▸ get_list
theorem k_sortedT (hc : X.calm = true) (h : X.K = K := by rfl) : CallR X (.builtin "sorted") (rSortedT K) := h ▸ cr_sortedTx hc
theorem k_bm {e o : Expr} {es : List Expr} {T id : String} {name : Str} {apos cpos : Pos} {to : TE} {t : TA} {r : V → List V → Hp → VK → Prop} (pa : PlainAttrs T) (slot : Slot T name id) (hty : typeOf (.builtin id) = pure (.type "method_descriptor")) (hm : MtR X id r) (ho : PE X o to) (ha : PA X (e :: es) t) (hK : X.K = K := by rfl) (h1 : attributeBase o name X.env (eval o X.env) = eval o X.env := by rfl)
    (h2 : ((backTo cpos (starEach (e :: es) X.env)).all (fun x => !x.1) && (backToKw cpos (keywordEach [] X.env)).all (fun x => x.1.isSome) && decide ((e :: es).length + ([] : List Keyword).length + (if ([] : List Keyword).isEmpty then 0 else 1) < 30)) = true := by rfl) (h3 : (apos.endLine == cpos.line) = true := by rfl)
    (h4 : starEach (e :: es) X.env = (false, eval e X.env) :: starEach es X.env := by rfl) (h5 : (backTo cpos (starEach es X.env)).any (·.1) = false := by rfl) : PE X (.Call (.Attribute o name apos) (e :: es) [] cpos) (tBM K T r to t) := hK ▸ pe_bm pa slot hty hm ho ha h1 h2 h3 h4 h5
end
/-- what is known of a def of the text -/
structure DefOk (P : Program) (w : World) (K : PySem.W.Frag) (mg : Str → Option Value) (base : Heap) (CX : CXT) (x : Str) (k : Nat) (ps : List Str) (sp : Sp) (f : Addr) (fd : FuncData) : Prop where
  ok : FnOk P w K mg base CX k f fd ps sp
  mg : mg x = some (.ref f)
  kp : PySem.W.keepIn K (.ref f) = true
  b : Binds K fd ps []
/-- the built-in names are the built-in ones -/
structure Bl (mg : Str → Option Value) : Prop where
  len : mg "len" = none
  range : mg "range" = none
  all : mg "all" = none
  any : mg "any" = none
  sum : mg "sum" = none
  sorted : mg "sorted" = none
  set : mg "set" = none
  isinstance : mg "isinstance" = none
  max : mg "max" = none
  min : mg "min" = none
  abs : mg "abs" = none
  list : mg "list" = none
  dict : mg "dict" = none
  tuple : mg "tuple" = none
  zip : mg "zip" = none
  enumerate : mg "enumerate" = none
  str : mg "str" = none
  int : mg "int" = none
  bool : mg "bool" = none
/-- letters -/
def abcd (c : Nat) : Bool := decide (c ∈ [97, 98, 99, 100])
/-- a word: letters, to so many -/
def Word (m : Nat) (w : List Nat) : Prop := w.length ≤ m ∧ w.all abcd = true
theorem Word.mono {m n : Nat} {w : List Nat} (h : Word m w) (e : m ≤ n) : Word n w := ⟨Nat.le_trans h.1 e, h.2⟩
theorem Word.app {m n : Nat} {a b : List Nat} (h : Word m a) (k : Word n b) : Word (m + n) (a ++ b) := ⟨by rw [List.length_append]; exact Nat.add_le_add h.1 k.1, by rw [List.all_append, h.2, k.2]; rfl⟩
theorem Word.sub {m n : Nat} {a b : List Nat} (h : Word m a) (hs : ∀ x ∈ b, x ∈ a) (hl : b.length ≤ n) : Word n b := ⟨hl, List.all_eq_true.mpr fun x hx => List.all_eq_true.mp h.2 x (hs x hx)⟩
theorem Word.take {m : Nat} {a : List Nat} (h : Word m a) (k : Nat) : Word m (a.take k) := h.sub (fun x hx => List.mem_of_mem_take hx) (Nat.le_trans (by rw [List.length_take]; omega) h.1)
theorem Word.drop {m : Nat} {a : List Nat} (h : Word m a) (k : Nat) : Word m (a.drop k) := h.sub (fun x hx => List.mem_of_mem_drop hx) (Nat.le_trans (by rw [List.length_drop]; omega) h.1)
theorem Word.rev {m : Nat} {a : List Nat} (h : Word m a) : Word m a.reverse := h.sub (fun x hx => List.mem_reverse.mp hx) (by rw [List.length_reverse]; exact h.1)
/-! ### the shapes of promises -/
abbrev RetV (v : V) (H : Hp) (Q : VK) : Prop := ∀ H', Ex H H' → Q v H'
abbrev RetI (d : PyData) (H : Hp) (Q : VK) : Prop := ∀ v H', Ex H H' → It H' v d → Q v H'
abbrev RetL (ds : List PyData) (H : Hp) (Q : VK) : Prop := ∀ p H', H p = none → Ex H H' → Ls H' p ds → Q (.ref p) H'
def spIsWord : Sp := fun vs H Q _ => ∃ (w : List Nat) (m : Nat), vs = [S w, .int (m : Int)] ∧ w.length ≤ 100000 ∧ RetV (.bl (decide (w.length ≤ m) && w.all abcd)) H Q
def spCheckWord : Sp := fun vs H Q _ => ∃ (w : List Nat), vs = [S w] ∧ Word 60 w ∧ RetV .non H Q
def spScattered : Sp := fun vs H Q _ => ∃ (w q : List Nat), vs = [S w, S q] ∧ Word 60 w ∧ Word 60 q ∧ RetV (.int (sc w q : Nat)) H Q
def spScatteredOf : Sp := fun vs H Q _ => ∃ (w q : List Nat), vs = [S w, S q] ∧ w.length ≤ 1000 ∧ q.length ≤ 1000 ∧ RetV (.int (sc w q : Nat)) H Q
/-- each letter by its place in an order -/
def ren (o : List Nat) (c : Nat) : Nat := o.getD ([97, 98, 99, 100].idxOf c) 0
def Order (o : List Nat) : Prop := o.Perm [97, 98, 99, 100]
def spRenamed : Sp := fun vs H Q _ => ∃ (w o : List Nat), vs = [S w, S o] ∧ Word 60 w ∧ Order o ∧ RetV (S (w.map (ren o))) H Q
def spCellAt (K : PySem.W.Frag) : Sp := fun vs H Q _ => ∃ (a : Addr) (ns : List Int) (k : Nat), vs = [.ref a, .int (k : Int)] ∧ SqL K H a (ns.map V.int) ∧ ns.length ≤ 1000 ∧ RetV (.int (ns.getD k 0)) H Q
/-- a cell's size -/
def Cell (i : Int) : Prop := i.natAbs < 2 ^ 390000
def spDraw : Sp := fun vs H Q _ => ∃ (c : Int) (k : Nat) (m : Int), vs = [.int c, .int (k : Int), .int m] ∧ c.natAbs < 2 ^ 390000 ∧ k ≤ 1000 ∧ 0 < m ∧ ∀ r : Int, 0 ≤ r → r < m → RetV (.int r) H Q
def spNumber : Sp := fun vs H Q _ => ∃ (c : Int) (k : Nat) (m : Int), vs = [.int c, .int (k : Int), .int m] ∧ k ≤ 1000 ∧ 0 < m ∧ m < 2 ^ 64 ∧ ∀ r : Int, 0 ≤ r → r < m → RetV (.int r) H Q
def spWord (K : PySem.W.Frag) : Sp := fun vs H Q _ => ∃ (a : Addr) (ns : List Int) (k m : Nat), vs = [.ref a, .int (k : Int), .int (m : Int)] ∧ SqL K H a (ns.map V.int) ∧ ns.length ≤ 1000 ∧ k ≤ 500 ∧ m ≤ 100 ∧ ∀ w, Word m w → RetV (S w) H Q
section
variable {X : Cx} {x : Str} {pos : Pos} {w : List Nat} {i : Int} {t : Tok}
/-- a module's text, a module's number -/
theorem pe_gS (hm : X.mg x = some (.str ⟨w.toArray⟩ t)) (hg : Gl X x := by rfl) (hd : (x == ("__debug__" : Str)) = false := by decide) : PE X (.Name x pos) (tC (S w)) := pe_glob hg hm ⟨_, rfl⟩ hd
theorem pe_gI (hm : X.mg x = some (.int i t)) (hg : Gl X x := by rfl) (hd : (x == ("__debug__" : Str)) = false := by decide) : PE X (.Name x pos) (tC (.int i)) := pe_glob hg hm ⟨_, rfl⟩ hd
end
section
variable {K : PySem.W.Frag} {σ : L2.St} {H H' : Hp} {to ti te : TE} {D : Ends} {tz : TS}
abbrev vN (n : Nat) : V := .int (n : Int)
/-- xs[j] += e, whole numbers -/
theorem s_augL {l : Addr} {ns : List Nat} {j x y : Nat} (hl : H l = some (.lst (ns.map vN))) (ho : Ev to σ H (.ref l)) (hi : Ev ti σ H (.int (j : Int))) (hj : ns[j]? = some x) (he : Ev te σ H (.int (y : Int)))
    (k : ∀ H1, Ex H H1 → H1 l = some (.lst (ns.map vN)) → D.nx σ (upd H1 l (.lst ((ns.set j (x + y)).map vN)))) : tAugS to ti te (rGetL K) (ipI fun i j => i + j) rSetL D σ H := ho H (Ex.refl H) _ fun H1 e1 => hi H1 e1 _ fun H2 e2 => by
  have g2 := (e1.trans e2) _ _ hl
  have hlt := (List.getElem?_eq_some_iff.mp hj).1
  refine ⟨l, ns.map vN, (j : Int), j, vN x, rfl, rfl, sq_of g2, by omega, by omega, by rw [List.getElem?_map, hj]; rfl, he H2 (e1.trans e2) _ fun H3 e3 => ⟨x, y, rfl, rfl, l, ns.map vN, (j : Int), j, rfl, rfl, e3 _ _ g2, ?_, ?_⟩⟩
  · rw [List.length_map]; exact ixN_nat hlt
  · have e4 : (ns.map vN).set j (.int ((x : Int) + (y : Int))) = (ns.set j (x + y)).map vN := by
      rw [List.map_set]
      congr 1
    rw [e4]
    exact k H3 ((e1.trans e2).trans e3) (e3 _ _ g2)
/-- an item of a list of whole numbers -/
theorem ev_ixN {l : Addr} {ns : List Nat} {j x : Nat} {i : Int} (hl : H l = some (.lst (ns.map vN))) (ho : Ev to σ H (.ref l)) (hi : Ev ti σ H (.int i)) (e : i = (j : Int)) (hj : ns[j]? = some x) : Ev (tOp (rIx K) to ti) σ H (.int (x : Int)) := fun H1 e1 Q q => ho H1 e1 _ fun H2 e2 => hi H2 (e1.trans e2) _ fun H3 e3 =>
  .inl ⟨l, ns.map vN, i, vN x, rfl, rfl, sq_of (((e1.trans e2).trans e3) _ _ hl), by rw [e]; exact atI_nat (by rw [List.getElem?_map, hj]; rfl), q H3 (e2.trans e3)⟩
theorem its_N {H : Hp} : ∀ {ns : List Nat} {vs : List V}, Its H vs (ns.map dN) → vs = ns.map vN
  | [], _, h => by cases h; rfl
  | n :: ns, _, h => by
    cases h with
    | cons h1 h2 => rw [h1.int_inv, its_N h2]; rfl
theorem s_asgP {g : Nat} {P : V → Hp → Prop} (h : EvP te σ H P) (k : ∀ v H1, Ex H H1 → P v H1 → D.nx (σ.set g (some v)) H1) : tAsg te (gName g) D σ H := h H (Ex.refl H) _ k
theorem q_asgP {g : Nat} {P : V → Hp → Prop} (h : EvP te σ H P) (k : ∀ v H1, Ex H H1 → P v H1 → tz D (σ.set g (some v)) H1) : tSeq (tAsg te (gName g)) tz D σ H := h H (Ex.refl H) _ k
theorem q_asgF {g : Nat} {ds : List PyData} (h : EvF te σ H ds) (k : ∀ p H1, H p = none → Ex H H1 → Ls H1 p ds → tz D (σ.set g (some (.ref p))) H1) : tSeq (tAsg te (gName g)) tz D σ H := h H (Ex.refl H) _ k
theorem s_asgF {g : Nat} {ds : List PyData} (h : EvF te σ H ds) (k : ∀ p H1, H p = none → Ex H H1 → Ls H1 p ds → D.nx (σ.set g (some (.ref p))) H1) : tAsg te (gName g) D σ H := h H (Ex.refl H) _ k
theorem s_retF {ds : List PyData} (h : EvF te σ H ds) (k : RetL ds H D.rt) : tRet te D σ H := h H (Ex.refl H) _ k
theorem s_retP {P : V → Hp → Prop} (h : EvP te σ H P) (k : ∀ v H', Ex H H' → P v H' → D.rt v H') : tRet te D σ H := h H (Ex.refl H) _ k
end
/-! ### data that may be compared -/
def Sh (n : Nat) (d : PyData) : Prop := d.canLay0 = true ∧ d.depth ≤ n
def ShA (n : Nat) (ds : List PyData) : Prop := ∀ d ∈ ds, Sh n d
theorem sh_all {n : Nat} : ∀ {ds : List PyData}, ShA n ds → PyData.canLayAll0 ds = true ∧ PyData.depthAll ds ≤ n
  | [], _ => ⟨rfl, Nat.zero_le _⟩
  | d :: ds, h => by
    obtain ⟨h1, h2⟩ := h d List.mem_cons_self
    obtain ⟨h3, h4⟩ := sh_all (ds := ds) fun x hx => h x (List.mem_cons_of_mem _ hx)
    exact ⟨by show (d.canLay0 && _) = true; rw [h1, h3]; rfl, Nat.max_le.mpr ⟨h2, h4⟩⟩
theorem sh_int {n : Nat} (i : Int) : Sh n (.int i) := ⟨rfl, Nat.zero_le _⟩
theorem sh_bool {n : Nat} (i : Bool) : Sh n (.bool i) := ⟨rfl, Nat.zero_le _⟩
/-- a text that is one -/
def Txt0 (w : List Nat) : Prop := ∀ c ∈ w, c < 1114112
theorem sh_str {n : Nat} {w : List Nat} (h : Txt0 w) : Sh n (dS w) := ⟨by
  show (w.toArray.all fun c => decide (c < 0x110000)) = true
  rw [List.all_toArray]
  exact List.all_eq_true.mpr fun c hc => decide_eq_true (h c hc), Nat.zero_le _⟩
theorem bdec {α : Type} [BEq α] [LawfulBEq α] [DecidableEq α] (x y : α) : (x == y) = decide (x = y) := by
  by_cases e : x = y
  · subst e; simp
  · rw [beq_false_of_ne e, decide_eq_false e]
theorem sh_list {n : Nat} {ds : List PyData} (h : ShA n ds) : Sh (n + 1) (.list ds) := ⟨(sh_all h).1, Nat.succ_le_succ (sh_all h).2⟩
theorem sh_tup {n : Nat} {ds : List PyData} (h : ShA n ds) : Sh (n + 1) (.tuple ds) := ⟨(sh_all h).1, Nat.succ_le_succ (sh_all h).2⟩
theorem Sh.ok {n : Nat} {d : PyData} (h : Sh n d) (hn : n ≤ 64) : SeqAt.shaped d = true := by
  unfold SeqAt.shaped
  rw [h.1, decide_eq_true (Nat.le_trans h.2 hn)]
  rfl
theorem sha_map {α : Type} {n : Nat} {xs : List α} {e : α → PyData} (h : ∀ x ∈ xs, Sh n (e x)) : ShA n (xs.map e) := fun d hd => by
  obtain ⟨x, hx, rfl⟩ := List.mem_map.mp hd
  exact h x hx
/-- equality told item by item -/
def EqD {α : Type} [DecidableEq α] (e : α → PyData) : Prop := ∀ x y, PyData.eqv (e x) (e y) = decide (x = y)
theorem eqD_int : EqD dI := fun x y => by show (x == y) = _; exact bdec x y
theorem eqD_nat : EqD dN := fun x y => by
  show ((x : Int) == (y : Int)) = _
  rw [bdec]
  exact decide_eq_decide.mpr ⟨fun h => by omega, fun h => by omega⟩
theorem eqD_str : EqD dS := fun x y => by
  show ((⟨x.toArray⟩ : Str) == ⟨y.toArray⟩) = _
  rw [bdec]
  exact decide_eq_decide.mpr ⟨fun h => by have := congrArg (fun z : Str => z.cps.toList) h; exact this, fun h => by rw [h]⟩
theorem eqD_all {α : Type} [DecidableEq α] {e : α → PyData} (h : EqD e) : ∀ xs ys : List α, PyData.eqvAll (xs.map e) (ys.map e) = decide (xs = ys)
  | [], [] => rfl
  | [], _ :: _ => rfl
  | _ :: _, [] => rfl
  | x :: xs, y :: ys => by
    show (PyData.eqv (e x) (e y) && PyData.eqvAll (xs.map e) (ys.map e)) = _
    rw [h x y, eqD_all h xs ys, ← Bool.decide_and]
    exact decide_eq_decide.mpr (by simp)
theorem eqD_list {α : Type} [DecidableEq α] {e : α → PyData} (h : EqD e) : EqD fun xs : List α => PyData.list (xs.map e) := eqD_all h
theorem eqD_pair {α β : Type} [DecidableEq α] [DecidableEq β] {e : α → PyData} {f : β → PyData} (h : EqD e) (k : EqD f) : EqD fun p : α × β => PyData.tuple [e p.1, f p.2] := fun p q => by
  show (PyData.eqv (e p.1) (e q.1) && (PyData.eqv (f p.2) (f q.2) && true)) = _
  rw [h, k, Bool.and_true, ← Bool.decide_and]
  exact decide_eq_decide.mpr ⟨fun z => Prod.ext z.1 z.2, fun z => by rw [z]; exact ⟨rfl, rfl⟩⟩
section
variable {K : PySem.W.Frag} {σ : L2.St} {H H' : Hp} {ta tb : TE} {d1 d2 : PyData}
/-- == of any two data -/
theorem ev_eqD {P1 P2 : V → Hp → Prop} (ha : EvP ta σ H P1) (m : Mono P1) (hb : EvP tb σ H P2) (h1 : ∀ x H, P1 x H → Dp K H x d1) (h2 : ∀ x H, P2 x H → Dp K H x d2) {n1 n2 : Nat} (s1 : Sh n1 d1) (s2 : Sh n2 d2) (l1 : n1 ≤ 64 := by decide) (l2 : n2 ≤ 64 := by decide) : Ev (tOp (rEqU K) ta tb) σ H (.bl (PyData.eqv d1 d2)) :=
  evp_opV ha m hb fun x y H2 _ p1 p2 Q q => .inr ⟨d1, d2, h1 _ _ p1, h2 _ _ p2, s1.ok l1, s2.ok l2, q⟩
theorem ev_neD {P1 P2 : V → Hp → Prop} (ha : EvP ta σ H P1) (m : Mono P1) (hb : EvP tb σ H P2) (h1 : ∀ x H, P1 x H → Dp K H x d1) (h2 : ∀ x H, P2 x H → Dp K H x d2) {n1 n2 : Nat} (s1 : Sh n1 d1) (s2 : Sh n2 d2) (l1 : n1 ≤ 64 := by decide) (l2 : n2 ≤ 64 := by decide) : Ev (tOp (rNeU K) ta tb) σ H (.bl (!PyData.eqv d1 d2)) :=
  evp_opV ha m hb fun x y H2 _ p1 p2 Q q => .inr ⟨d1, d2, h1 _ _ p1, h2 _ _ p2, s1.ok l1, s2.ok l2, q⟩
theorem dp_L {ds : List PyData} : ∀ x H, isL ds x H → Dp K H x (.list ds) := fun x H h => by
  obtain ⟨a, rfl, hl⟩ := h
  exact hl.dp
theorem dp_I {d : PyData} : ∀ x H, isI d x H → Dp K H x d := fun x H h => It.dp _ _ h
end
/-! ### sorted(text): the signs in order -/
theorem risS_le : ∀ {l : List Str} {p : Str}, risingS p l = true → ((p :: l).map TL.tl).Pairwise (· ≤ ·)
  | [], p, _ => List.pairwise_singleton _ _
  | x :: r, p, h => by
    obtain ⟨h1, h2⟩ := Bool.and_eq_true_iff.mp h
    have ih := risS_le h2
    have h3 : TL.tl p ≤ TL.tl x := List.not_lt.mp fun z => by
      have : ltCps x.cps.toList p.cps.toList = true := by rw [ltCps_eq]; exact decide_eq_true z
      rw [this] at h1
      cases h1
    rw [List.map_cons, List.pairwise_cons]
    refine ⟨fun y hy => ?_, ih⟩
    rw [List.map_cons] at hy ih
    rcases List.mem_cons.mp hy with rfl | hy
    · exact h3
    · exact wle_trans h3 ((List.pairwise_cons.mp ih).1 y hy)
theorem sortedS_le {l : List Str} (h : sortedS l = true) : (l.map TL.tl).Pairwise (· ≤ ·) := by
  cases l with
  | nil => exact .nil
  | cons x r => exact risS_le h
/-- texts sorted, as a list of words -/
theorem sortedS_srt {ys : List Str} {ws : List W} (p : ys.Perm (ws.map fun w => ⟨w.toArray⟩)) (s : sortedS ys = true) : ys.map V.str = (srt ws).map S := by
  have e : ys.map TL.tl = srt ws := by
    refine srt_eq ?_ (sortedS_le s)
    have := p.map TL.tl
    rw [List.map_map, show (TL.tl ∘ fun w : List Nat => (⟨w.toArray⟩ : Str)) = id from rfl, List.map_id] at this
    exact this
  rw [← e, List.map_map]
  refine List.map_congr_left fun y _ => ?_
  show V.str y = V.str ⟨(TL.tl y).toArray⟩
  rw [TL.mk_tl]
section
variable {K : PySem.W.Frag} {σ : L2.St} {H H' : Hp} {te : TE}
theorem evf_sortedTx {o : List Nat} (h : Ev te σ H (S o)) (hl : o.length < 64) : EvF (tCB (rSortedT K) (tCons te tNil)) σ H ((srt (o.map fun c => [c])).map dS) := evf_cb (eap_cons h.p mono_V eap_nil) fun vs H2 _ hp Q q => by
  obtain ⟨v, r, rfl, rfl, rfl⟩ := hp
  refine ⟨o, rfl, hl, fun ys p py sy np => ?_⟩
  have e := sortedS_srt (ys := ys) (ws := o.map fun c => [c]) (by rw [List.map_map]; exact py) sy
  rw [e]
  exact q p _ np (Ex.new np) ⟨_, upd_same, its_strs _⟩
theorem evf_sortedT {o : List Nat} (h : Ev te σ H (S o)) (ho : o.Perm [97, 98, 99, 100]) (hl : o.length < 64) : EvP (tCB (rSortedT K) (tCons te tNil)) σ H (isL ([97, 98, 99, 100].map fun c => dS [c])) := by
  have := (evf_sortedTx (K := K) h hl).l
  rw [srt_congr (ho.map fun c => [c])] at this
  have e : srt ([97, 98, 99, 100].map fun c : Nat => [c]) = [97, 98, 99, 100].map fun c : Nat => [c] := srt_self (by decide)
  rw [e, List.map_map] at this
  exact this
end
theorem small_lt {i : Int} (h : i.natAbs < 2 ^ 100) : i.natAbs < 2 ^ 400000 := Nat.lt_trans h (Nat.pow_lt_pow_right (by decide) (by decide))
def primes : List Int := [1000003, 1000033, 1000037, 1000039, 1000081, 1000099, 1000117, 1000121, 1000133, 1000151, 1000159, 1000171, 1000183, 1000187, 1000193, 1000199]
theorem primes_pos : ∀ p ∈ primes, 0 < p := fun p hp => of_decide_eq_true (List.all_eq_true.mp (show primes.all (fun p => decide (0 < p)) = true by decide) p hp)
/-- a statement, a word, the rest -/
theorem q_cutW {D : Ends} {t u : TS} {σ : L2.St} {H : Hp} (M : L2.St → Hp → Prop) (h : t { D with nx := M } σ H) (k : ∀ σ' H', M σ' H' → u D σ' H') : Evl.tCut t u D σ H := ⟨M, h, k⟩
theorem ev_pow18 {ta tb : TE} {σ : L2.St} {H : Hp} (ha : Ev ta σ H (.int 10)) (hb : Ev tb σ H (.int 18)) : Ev (tOp (rI CPow fun i j => .int (i ^ j.toNat)) ta tb) σ H (.int 1000000000000000000) := ev_is (ev_powI ha hb ⟨by decide, by decide, by decide⟩) (by congr 1)
abbrev isNum (m : Int) : V → Hp → Prop := fun v _ => ∃ r : Int, v = .int r ∧ 0 ≤ r ∧ r < m
abbrev isW (m : Nat) : V → Hp → Prop := fun v _ => ∃ w, v = S w ∧ Word m w
theorem mono_num {m : Int} : Mono (isNum m) := fun _ _ _ _ h => h
theorem mono_W {m : Nat} : Mono (isW m) := fun _ _ _ _ h => h
theorem spP_number {c : Int} {k : Nat} {m : Int} {H : Hp} (hk : k ≤ 1000) (hm : 0 < m) (hm2 : m < 2 ^ 64) : SpP spNumber [.int c, .int (k : Int), .int m] H (isNum m) := fun Q E q => ⟨c, k, m, rfl, hk, hm, hm2, fun r h0 h1 H3 e3 => q _ H3 e3 ⟨r, rfl, h0, h1⟩⟩
theorem spP_word {K : PySem.W.Frag} {a : Addr} {ns : List Int} {k m : Nat} {H : Hp} (hS : SqL K H a (ns.map V.int)) (hl : ns.length ≤ 1000) (hk : k ≤ 500) (hm : m ≤ 100) : SpP (spWord K) [.ref a, .int (k : Int), .int (m : Int)] H (isW m) := fun Q E q => ⟨a, ns, k, m, rfl, hS, hl, hk, hm, fun w hw H3 e3 => q _ H3 e3 ⟨w, rfl, hw⟩⟩
theorem spV_cell {K : PySem.W.Frag} {a : Addr} {ns : List Int} {k : Nat} {H : Hp} (hS : SqL K H a (ns.map V.int)) (hl : ns.length ≤ 1000) : SpV (spCellAt K) [.ref a, .int (k : Int)] H (.int (ns.getD k 0)) := fun H1 e1 Q q E => ⟨a, ns, k, rfl, ex_l e1 hS, hl, q⟩
section
variable {σ : L2.St} {H : Hp} {ta tb tc te : TE} {D : Ends} {tz : TS} {P1 P2 P3 : V → Hp → Prop}
theorem q_par2P {i j : Nat} (h1 : EvP ta σ H P1) (m1 : Mono P1) (h2 : EvP tb σ H P2) (k : ∀ x y H1, Ex H H1 → P1 x H1 → P2 y H1 → tz D ((σ.set i (some x)).set j (some y)) H1) : tSeq (tPar i j (tCons ta (tCons tb tNil))) tz D σ H := h1 H (Ex.refl H) _ fun x H1 e1 p1 => h2 H1 e1 _ fun y H2 e2 p2 => ⟨x, y, rfl, k x y H2 (e1.trans e2) (m1 _ _ _ e2 p1) p2⟩
theorem s_par2P {i j : Nat} (h1 : EvP ta σ H P1) (m1 : Mono P1) (h2 : EvP tb σ H P2) (k : ∀ x y H1, Ex H H1 → P1 x H1 → P2 y H1 → D.nx ((σ.set i (some x)).set j (some y)) H1) : tPar i j (tCons ta (tCons tb tNil)) D σ H := h1 H (Ex.refl H) _ fun x H1 e1 p1 => h2 H1 e1 _ fun y H2 e2 p2 => ⟨x, y, rfl, k x y H2 (e1.trans e2) (m1 _ _ _ e2 p1) p2⟩
theorem q_par3P {i j l : Nat} (h1 : EvP ta σ H P1) (m1 : Mono P1) (h2 : EvP tb σ H P2) (m2 : Mono P2) (h3 : EvP tc σ H P3) (k : ∀ x y z H1, Ex H H1 → P1 x H1 → P2 y H1 → P3 z H1 → tz D (((σ.set i (some x)).set j (some y)).set l (some z)) H1) : tSeq (tPar3 i j l (tCons ta (tCons tb (tCons tc tNil)))) tz D σ H := h1 H (Ex.refl H) _ fun x H1 e1 p1 => h2 H1 e1 _ fun y H2 e2 p2 => h3 H2 (e1.trans e2) _ fun z H3 e3 p3 => ⟨x, y, z, rfl, k x y z H3 ((e1.trans e2).trans e3) (m1 _ _ _ (e2.trans e3) p1) (m2 _ _ _ e3 p2) p3⟩
theorem s_par3P {i j l : Nat} (h1 : EvP ta σ H P1) (m1 : Mono P1) (h2 : EvP tb σ H P2) (m2 : Mono P2) (h3 : EvP tc σ H P3) (k : ∀ x y z H1, Ex H H1 → P1 x H1 → P2 y H1 → P3 z H1 → D.nx (((σ.set i (some x)).set j (some y)).set l (some z)) H1) : tPar3 i j l (tCons ta (tCons tb (tCons tc tNil))) D σ H := h1 H (Ex.refl H) _ fun x H1 e1 p1 => h2 H1 e1 _ fun y H2 e2 p2 => h3 H2 (e1.trans e2) _ fun z H3 e3 p3 => ⟨x, y, z, rfl, k x y z H3 ((e1.trans e2).trans e3) (m1 _ _ _ (e2.trans e3) p1) (m2 _ _ _ e3 p2) p3⟩
end
theorem rgC_pos {n c : Int} (hn : 0 ≤ n ∧ n ≤ 1000) (hc : 1 ≤ c ∧ c ≤ 1000) : ∃ m : Nat, RgC 0 n c m ∧ ∀ i : Nat, i < m → (i : Int) * c < n := by
  refine ⟨(Builtin.Range.rangeSize 0 n c).toNat, ⟨by omega, by omega, ?_, PyProof.Rows.rangeSize_toNat _ _ _⟩, fun i hi => ?_⟩
  · unfold Builtin.Range.small Builtin.Range.rangeSize
    simp only [Builtin.Range.rangeFitsLong, Bool.and_eq_true, Bool.or_eq_true, decide_eq_true_eq, beq_iff_eq, show c > 0 by omega, if_true]
    have h1 : (n - 0 - 1) / c ≤ 1000 := Int.ediv_le_of_le_mul (by omega) (by have := Int.mul_le_mul_of_nonneg_left hc.1 (show (0 : Int) ≤ 1000 by decide); omega)
    by_cases h : 0 < n
    · have h2 : 0 ≤ (n - 0 - 1) / c := Int.ediv_nonneg (by omega) (by omega)
      rw [if_pos h]
      omega
    · rw [if_neg h]
      omega
  · unfold Builtin.Range.rangeSize at hi
    rw [if_pos (by omega)] at hi
    by_cases h : 0 < n
    · rw [if_pos h] at hi
      have h1 := Int.ediv_mul_le (n - 0 - 1) (b := c) (by omega)
      have h2 : (i : Int) ≤ (n - 0 - 1) / c := by omega
      have h3 := Int.mul_le_mul_of_nonneg_right h2 (show 0 ≤ c by omega)
      omega
    · rw [if_neg h] at hi
      omega
section
variable {σ : L2.St} {H : Hp} {ta tb : TE}
theorem ev_max {i j : Int} (ha : Ev ta σ H (.int i)) (hb : Ev tb σ H (.int j)) : Ev (tCB (fun xs H Q => ∃ i j, xs = [.int i, .int j] ∧ Q (.int (if j > i then j else i)) H) (tCons ta (tCons tb tNil))) σ H (.int (max i j)) := ev_cbV (EvA.p (ea_cons ha (ea_cons hb ea_nil))) fun vs H2 _ hp Q q => by
  subst hp
  refine ⟨i, j, rfl, ?_⟩
  have : (if j > i then j else i) = max i j := by omega
  rw [this]; exact q
theorem ev_min {i j : Int} (ha : Ev ta σ H (.int i)) (hb : Ev tb σ H (.int j)) : Ev (tCB (fun xs H Q => ∃ i j, xs = [.int i, .int j] ∧ Q (.int (if j < i then j else i)) H) (tCons ta (tCons tb tNil))) σ H (.int (min i j)) := ev_cbV (EvA.p (ea_cons ha (ea_cons hb ea_nil))) fun vs H2 _ hp Q q => by
  subst hp
  refine ⟨i, j, rfl, ?_⟩
  have : (if j < i then j else i) = min i j := by omega
  rw [this]; exact q
end
/-- a law's promise -/
def spLaw (K : PySem.W.Frag) : Sp := fun vs H Q _ => ∃ (a : Addr) (ns : List Int), vs = [.ref a] ∧ SqL K H a (ns.map V.int) ∧ ns.length ≤ 63 ∧ ∀ H', Q (.bl true) H'
theorem ev_lenI {K : PySem.W.Frag} {σ : L2.St} {H : Hp} {te : TE} {a : Addr} {vs : List V} (h : Ev te σ H (.ref a)) (hS : SqL K H a vs) : Ev (tCB (rLenU K) (tCons te tNil)) σ H (.int (vs.length : Int)) := ev_cbV (EvA.p (ea_cons h ea_nil)) fun us H2 e2 hp Q q => by
  subst hp
  exact ⟨.ref a, vs.length, rfl, .inl ⟨_, ex_l e2 hS, rfl⟩, q⟩
theorem sp_sc {w q : List Nat} {H : Hp} (hw : Word 60 w) (hq : Word 60 q) : SpV spScattered [S w, S q] H (.int (sc w q : Nat)) := fun H1 e1 Q q1 E => ⟨w, q, rfl, hw, hq, q1⟩
theorem sp_ren {w o : List Nat} {H : Hp} (hw : Word 60 w) (ho : Order o) : SpV spRenamed [S w, S o] H (S (w.map (ren o))) := fun H1 e1 Q q1 E => ⟨w, o, rfl, hw, ho, q1⟩
theorem ren_mem {o : List Nat} (ho : Order o) {c : Nat} (hc : abcd c = true) : abcd (ren o c) = true := by
  have hcm : c ∈ [97, 98, 99, 100] := of_decide_eq_true hc
  have hi : ([97, 98, 99, 100] : List Nat).idxOf c < 4 := List.idxOf_lt_length_of_mem hcm
  have hol : o.length = 4 := ho.length_eq
  unfold ren
  rw [List.getD_eq_getElem?_getD, List.getElem?_eq_getElem (by omega)]
  exact decide_eq_true (ho.mem_iff.mp (List.getElem_mem _))
theorem ren_inj {o : List Nat} (ho : Order o) {c d : Nat} (hc : abcd c = true) (hd : abcd d = true) (e : ren o c = ren o d) : c = d := by
  have hol : o.length = 4 := ho.length_eq
  have hn : o.Nodup := ho.symm.nodup (by decide)
  have key : ∀ c, abcd c = true → ∃ i, i < 4 ∧ ([97, 98, 99, 100] : List Nat)[i]? = some c ∧ o[i]? = some (ren o c) := fun c hc => by
    have hcm : c ∈ [97, 98, 99, 100] := of_decide_eq_true hc
    have hi : ([97, 98, 99, 100] : List Nat).idxOf c < 4 := List.idxOf_lt_length_of_mem hcm
    refine ⟨_, hi, (idxOf_at hcm).1, ?_⟩
    unfold ren
    rw [List.getD_eq_getElem?_getD, List.getElem?_eq_getElem (by omega)]
    rfl
  obtain ⟨i, hi, a1, a2⟩ := key c hc
  obtain ⟨j, hj, b1, b2⟩ := key d hd
  rw [e] at a2
  have : i = j := by
    obtain ⟨_, u1⟩ := List.getElem?_eq_some_iff.mp a2
    obtain ⟨_, u2⟩ := List.getElem?_eq_some_iff.mp b2
    exact (List.getElem_inj hn).mp (u1.trans u2.symm)
  subst this
  rw [a1] at b1
  exact Option.some.inj b1
theorem Word.ren {m : Nat} {a o : List Nat} (h : Word m a) (ho : Order o) : Word m (a.map (Pt.ren o)) := ⟨by rw [List.length_map]; exact h.1, List.all_eq_true.mpr fun x hx => by
  obtain ⟨c, hc, rfl⟩ := List.mem_map.mp hx
  exact ren_mem ho (List.all_eq_true.mp h.2 c hc)⟩
theorem sc_ren {w q o : List Nat} {m n : Nat} (hw : Word m w) (hq : Word n q) (ho : Order o) : sc (w.map (ren o)) (q.map (ren o)) = sc w q := sc_map w q fun a ha b hb e => ren_inj ho (List.all_eq_true.mp hw.2 a ha) (List.all_eq_true.mp hq.2 b hb) e
section
variable {K : PySem.W.Frag} {σ : L2.St} {H H' : Hp} {ta : TA} {te : TE} {P : V → Prop} {own : List Addr}
/-- a written tuple's items, all of one sort -/
abbrev AllP (n : Nat) (P : V → Prop) : List V → Hp → Prop := fun vs _ => vs.length = n ∧ ∀ v ∈ vs, P v
theorem eaq_nil : EvAP tNil σ H (AllP 0 P) := fun H1 _ _ q => q [] H1 (Ex.refl H1) ⟨rfl, fun _ h => nomatch h⟩
theorem eaq_cons {n : Nat} (h : EvP te σ H fun v _ => P v) (hr : EvAP ta σ H (AllP n P)) : EvAP (tCons te ta) σ H (AllP (n + 1) P) := fun H1 e _ q =>
  h H1 e _ fun v H2 e2 p => hr H2 (e.trans e2) _ fun vs H3 e3 pr => q _ H3 (e2.trans e3) ⟨by rw [List.length_cons, pr.1], fun w hw => (List.mem_cons.mp hw).elim (fun z => z ▸ p) (pr.2 w)⟩
theorem wk_tupP {n : Nat} (h : EvAP ta σ H (AllP n P)) (hn : n ≤ 1000) : Wk own (iU K (tTup ta)) σ H (List.range n) (fun _ x _ => P x) := fun H1 e R r =>
  .inr (.inl (h H1 e _ fun vs H2 e2 p => ⟨by rw [p.1]; exact sz_of (by omega), fun a ha => by
    have g : (upd H2 a (.tup vs)) a = some (.tup vs) := upd_same
    refine ⟨a, rfl, ⟨vs, st_of g⟩, r _ _ (e2.trans (Ex.new ha)) fun H3 k i => ⟨fun d hd => ?_, fun hi => ⟨vs, st_of (k.2 _ _ g), by rw [p.1, hi, List.length_range]; exact Nat.le_refl _⟩⟩⟩
    have s3 : SqT K H3 a vs := st_of (k.2 _ _ g)
    have hi : i < vs.length := by have := (List.getElem?_eq_some_iff.mp hd).1; rw [List.length_range] at this; rw [p.1]; exact this
    refine ⟨⟨vs, vs[i], s3, List.getElem?_eq_getElem hi⟩, fun x H' y => ?_⟩
    obtain ⟨rfl, y⟩ := y
    have := y vs s3
    rw [List.getElem?_eq_getElem hi] at this
    cases this
    exact ⟨Ex.refl _, p.2 _ (List.getElem_mem _)⟩⟩))
end
abbrev isWd (m : Nat) : V → Prop := fun v => ∃ w, v = S w ∧ Word m w
theorem range_at {n i a : Nat} (h : (List.range n)[i]? = some a) : a = i ∧ i < n := by
  have h1 := (List.getElem?_eq_some_iff.mp h).1
  rw [List.length_range] at h1
  rw [List.getElem?_range h1] at h
  exact ⟨(Option.some.inj h).symm, h1⟩
theorem sc_small {u q : List Nat} {m : Nat} (hu : Word m u) (hm : m ≤ 60) : (((sc u q : Nat) : Int)).natAbs < 2 ^ 400000 := small_lt (by
  have h1 := sc_le u q
  have h2 : 2 ^ u.length ≤ 2 ^ 60 := Nat.pow_le_pow_right (by decide) (Nat.le_trans hu.1 hm)
  have h3 : 2 ^ 60 < 2 ^ 100 := by decide
  omega)
/-- a written text -/
theorem ev_s {σ : L2.St} {H : Hp} (w : List Nat) : Ev (tC (S w)) σ H (S w) := ev_c
end Pt

namespace Pt
open PySem PySem.Spec PyProof.Rows L2 Evl

/-! ### sets of texts -/
def keyT (e : Int × Value) : Str := match e.2 with
  | .str x _ => x
  | _ => Str.empty
def GoodT (w : World) (e : Int × Value) : Prop := ∃ x tk, e.2 = Value.str x tk ∧ e.1 = hashStr w x
/-- at a a set of the texts that stand in M, at most n of them; it can be walked -/
def TxS (w : World) (h : Heap) (a : Addr) (M : List Str) (n : Nat) : Prop :=
  ∃ o es ep t, h.get? a = some o ∧ o.ExactSet ∧ o.data = .set es ep t ∧ (∀ e ∈ es.toList, GoodT w e) ∧ (es.toList.map keyT).Nodup ∧ (∀ x, x ∈ M ↔ x ∈ es.toList.map keyT) ∧ es.size ≤ n ∧ t.fits es.size = true ∧ Ris t.place.toList ∧ (w.params.followText "set-order" = true ∨ t.led = true)
section
variable {P : Program} {w : World} {A : Around} {E : Value → Shared → Prop} {s : Shared} {h h' : Heap} {a : Addr} {M : List Str} {n : Nat}
theorem TxS.at (R : TxS w h a M n) (k : ∀ o, h.get? a = some o → h'.get? a = some o) : TxS w h' a M n := let ⟨o, es, ep, t, ho, r⟩ := R; ⟨o, es, ep, t, k o ho, r⟩
theorem TxS.congr {M' : List Str} (R : TxS w h a M n) (e : ∀ x, x ∈ M' ↔ x ∈ M) : TxS w h a M' n := let ⟨o, es, ep, t, ho, h1, h2, h3, h4, h5, r⟩ := R; ⟨o, es, ep, t, ho, h1, h2, h3, h4, fun x => (e x).trans (h5 x), r⟩
theorem good_elemsT {l : List (Int × Value)} (g : ∀ e ∈ l, GoodT w e) : ElemsOf (strKind P w) l := fun e he => by
  obtain ⟨x, tk, h1, h2⟩ := g e he
  exact ⟨⟨x, by rw [h1]; exact strKind_is P w x tk, h2⟩, by rw [h1]; rfl⟩
theorem key_isT {e : Int × Value} (g : GoodT w e) (x : Str) : (strKind P w).is x e.2 = true ↔ keyT e = x := by
  obtain ⟨y, tk, h1, _⟩ := g
  have e2 : keyT e = y := by unfold keyT; rw [h1]
  rw [h1, e2]
  constructor
  · intro q
    exact (strKind P w).inj _ _ _ (strKind_is P w y tk) q
  · intro q
    subst q
    exact strKind_is P w y tk
theorem ts_tail {g : Bool → Sem Unit} (hg : ∀ (b : Bool) (s' : Shared) (Q : Unit → Shared → Prop), Q () s' → wpAny (model P w) A (g b) Q E s') {o : Obj} {es : Array (Int × Value)} {ep : Nat} {t : SetTable} (ho : s.heap.get? a = some o) (hex : o.ExactSet) (hd : o.data = .set es ep t)
    {es' : Array (Int × Value)} {t' : SetTable} (g1 : ∀ e ∈ es'.toList, GoodT w e) (nd : (es'.toList.map keyT).Nodup) (hm : ∀ x, x ∈ M ↔ x ∈ es'.toList.map keyT) (hz : es'.size ≤ n) (hn : n < scanBound) (hf : t'.fits es'.size = true) (hr : Ris t'.place.toList) (hl : w.params.followText "set-order" = true ∨ t'.led = true) {dm : Bool} {R : Option Bool → Shared → Prop}
    (hR : ∀ h', Heap.SameBut a s.heap h' → TxS w h' a M n → R (some true) { s with heap := h' }) :
    wpAny (model P w) A (storeSet a es' t' >>= fun _ => if (!dm && t'.tooFull) = true then (do
        g (relayAll t' es' (SetTable.grown es'.size)).2.2; storeSet a (relayAll t' es' (SetTable.grown es'.size)).1 (relayAll t' es' (SetTable.grown es'.size)).2.1; pure (some true)) else pure (some true)) R E s := by
  have hb : es'.size < scanBound := Nat.lt_of_le_of_lt hz hn
  refine wpAny_bind (wpAny_storeSet_of ho hd ?_ (fits_of_scanBound hb))
  have ho1 := store_at (es' := es') (t' := t') ho hd
  have sb := Heap.SameBut.update s.heap a (Obj.putSet es' t')
  by_cases c : (!dm && t'.tooFull) = true
  · rw [if_pos c]
    have q1 := relayAll_perm t' es' (SetTable.grown es'.size)
    have q2 := relayAll_fits t' es' (SetTable.grown es'.size)
    have q3 := relayAll_ris t' es' (SetTable.grown es'.size)
    have q4 := relayAll_led t' es' (SetTable.grown es'.size)
    revert q1 q2 q3 q4
    generalize relayAll t' es' (SetTable.grown es'.size) = Z
    obtain ⟨eu, tu, gv⟩ := Z
    intro q1 q2 q3 q4
    have eq : eu.size = es'.size := by have := q1.length_eq; rwa [Array.length_toList, Array.length_toList] at this
    refine wpAny_bind (hg _ _ _ (wpAny_bind (wpAny_storeSet_of ho1 rfl ?_ (fits_of_scanBound (by show eu.size < _; rw [eq]; exact hb)))))
    have ho2 := store_at (es' := eu) (t' := tu) ho1 rfl
    refine wpAny_pure (hR _ (sb.trans (Heap.SameBut.update _ a _)) ⟨_, eu, _, tu, ho2, hex, rfl, fun e he => g1 e (q1.mem_iff.mp he), (q1.map keyT).nodup_iff.mpr nd, fun x => (hm x).trans (q1.map keyT).mem_iff.symm, by rw [eq]; exact hz, q2, q3, hl.imp id fun z => ?_⟩)
    have q4' : tu.led = t'.led := q4
    rw [q4']; exact z
  · rw [if_neg c]
    exact wpAny_pure (hR _ sb ⟨_, es', _, t', ho1, hex, rfl, g1, nd, hm, hz, hf, hr, hl⟩)
theorem ts_add {x : Str} {tk : Tok} {Q : Bool → Shared → Prop} (R : TxS w s.heap a M n) (room : n + 1 < scanBound) (hQ : ∀ b h', Heap.SameBut a s.heap h' → TxS w h' a (x :: M) (n + 1) → Q b { s with heap := h' }) :
    wpAny (model P w) A (setAddHashed a (.str x tk) ((strKind P w).hash x)) Q E s := by
  obtain ⟨o, es, ep, t, ho, hex, hd, g, nd, hm, hz, hf, hr, hl⟩ := R
  have hb : es.size < scanBound := by omega
  have hkey := strKind_is P w x tk
  have hsc : (Value.str x tk).scannable = true := rfl
  have hel : ElemsOf (strKind P w) es.toList := good_elemsT g
  unfold setAddHashed setAddHashedIn
  refine wpAny_holding (wpAny_bind (wpAny_setState_of ho hd hf ?_))
  dsimp only
  rw [byScan_of hsc hb hel]
  simp only [↓reduceIte]
  unfold setAddByScan
  refine wpAny_bind (wpAny_bind (wpAny_rule (wpAny_bind (wpAny_setScan_of hkey ho hd hf hel ?_))))
  cases hi : List.findIdx? (fun e => (strKind P w).is x e.2) es.toList with
  | some j =>
    obtain ⟨hj, pj, _⟩ := List.findIdx?_eq_some_iff_getElem.mp hi
    have hx : x ∈ M := (hm x).mpr (List.mem_map.mpr ⟨_, List.getElem_mem hj, (key_isT (g _ (List.getElem_mem hj)) x).mp pj⟩)
    dsimp only
    refine wpAny_pure (wpAny_pure (hQ false s.heap (Heap.SameBut.refl a s.heap) ⟨o, es, ep, t, ho, hex, hd, g, nd, fun y => ?_, by omega, hf, hr, hl⟩))
    rw [← hm y, List.mem_cons]
    exact ⟨fun z => z.elim (fun e => e ▸ hx) id, .inr⟩
  | none =>
    have hx : x ∉ es.toList.map keyT := fun z => by
      obtain ⟨e, he, q⟩ := List.mem_map.mp z
      have c := List.findIdx?_eq_none_iff.mp hi e he
      rw [(key_isT (g e he) x).mpr q] at c
      cases c
    dsimp only
    have gw : ∀ (b : Bool) {s' : Shared} {Q' : Unit → Shared → Prop}, Q' () s' → wpAny (model P w) A (match b with | true => rule "set.scan.the-table-gave-way" | false => pure ()) Q' E s' := fun b s' Q' q => by cases b <;> first | exact wpAny_pure q | exact wpAny_rule q
    have q1 := layNew_perm t es ((strKind P w).hash x) (.str x tk)
    have q2 := layNew_fits t es ((strKind P w).hash x) (.str x tk)
    have q3 := layNew_ris t es ((strKind P w).hash x) (.str x tk) hr
    have q4 := layNew_led t es ((strKind P w).hash x) (.str x tk)
    revert q1 q2 q3 q4
    generalize layNew t es ((strKind P w).hash x) (.str x tk) = Z
    obtain ⟨eu, tu, dm, gv⟩ := Z
    intro q1 q2 q3 q4
    dsimp only at q1 q2 q3 q4 ⊢
    rw [Array.toList_push] at q1
    have pc : eu.toList.Perm (((strKind P w).hash x, Value.str x tk) :: es.toList) := q1.trans (List.perm_append_singleton _ _)
    have pk : (eu.toList.map keyT).Perm (x :: es.toList.map keyT) := pc.map keyT
    have g1 : ∀ e ∈ eu.toList, GoodT w e := fun e he => (List.mem_cons.mp (pc.mem_iff.mp he)).elim (fun z => ⟨x, tk, by rw [z], by rw [z]; rfl⟩) (g e)
    have nd1 : (eu.toList.map keyT).Nodup := pk.nodup_iff.mpr (List.nodup_cons.mpr ⟨hx, nd⟩)
    have m1 : ∀ y, y ∈ x :: M ↔ y ∈ eu.toList.map keyT := fun y => by rw [pk.mem_iff, List.mem_cons, List.mem_cons, hm y]
    have hsz : eu.size ≤ n + 1 := by
      have := pc.length_eq
      rw [Array.length_toList, List.length_cons, Array.length_toList] at this
      omega
    have hled : w.params.followText "set-order" = true ∨ tu.led = true := hl.imp id fun z => by rw [q4]; exact z
    refine wpAny_bind (gw _ ?_)
    split
    · refine wpAny_bind ?_
      rw [hashByValue_scannable 8 hsc]
      refine wpAny_pure (ts_tail ?_ ho hex hd g1 nd1 m1 hsz room ?_ ?_ ?_ ?_)
      · exact fun b s' Q' q => gw b q
      · first | (split <;> first | exact q2 | exact SetTable.fits_plain_off q2) | exact q2
      · first | (split <;> exact q3) | exact q3
      · first | (split <;> exact hled) | exact hled
      · exact fun h' sb r => wpAny_pure (hQ true h' sb r)
    · refine wpAny_bind (wpAny_pure ?_)
      simp only [↓reduceIte]
      exact ts_tail (fun b s' Q' q => gw b q) ho hex hd g1 nd1 m1 hsz room q2 q3 hled fun h' sb r => wpAny_pure (hQ true h' sb r)
theorem ts_fresh {h : Heap} {a : Addr} (w : World) (ho : h.get? a = some { cls := .type "set", dict := none, data := .set #[] 0 (.fresh 0 0 (!w.params.followText "set-order")) }) : TxS w h a [] 0 :=
  ⟨_, #[], 0, _, ho, ⟨rfl, rfl, rfl⟩, rfl, fun e he => absurd he (by simp), by simp, fun x => by simp, Nat.le_refl _, rfl, List.Pairwise.nil, by
    show _ ∨ (!w.params.followText "set-order") = true
    cases w.params.followText "set-order"
    · exact .inr rfl
    · exact .inl rfl⟩
/-- set(xs): the items one after another -/
theorem ts_loop {I : Addr} {fp wr : List Addr} {G : Array GenState → Array GenState → Prop} {Pv : Nat → Value → Prop} {St : Nat → Shared → Prop} (ks : List Str) (W : WalksS P w A.in1 I fp wr G ks.length Pv St) (S : Addr) (hSf : S ∉ fp)
    (hval : ∀ i v, Pv i v → ∃ x tk, ks[i]? = some x ∧ v = .str x tk) (hb : ks.length + 1 < scanBound) {R : Result → Shared → Prop} : ∀ (m i : Nat) (s : Shared), ks.length - i = m → i ≤ ks.length → St i s → TxS w s.heap S (ks.take i) i →
      (∀ s', Moved (S :: wr) G s s' → TxS w s'.heap S ks ks.length → R (.ok (.ret .none)) s') → codeAny (model P w) A (.builtin "set.update.loop" ⟨[.ref S, .ref I], []⟩) R s := by
  have hSw : S ∉ wr := fun z => hSf (W.sub _ z)
  have hsub : ∀ b ∈ wr, b ∈ S :: wr := fun b hb => List.mem_cons_of_mem _ hb
  intro m
  induction m with
  | zero =>
    intro i s hk hi hst hS hR
    obtain rfl : i = ks.length := by omega
    refine codeAny_builtin F.entry_set_update_loop ?_
    rw [Around.under_plainId F.plain_set_update_loop _]
    show wpAny _ A.in1 (pyNext (.ref I) >>= _) _ _ s
    refine wpAny_bind (W.done s _ _ hst fun s' hm => ?_)
    show wpAny _ A.in1 (ret Value.none) _ _ s'
    rw [List.take_length] at hS
    exact wpAny_pure (hR s' (hm.mono hsub) (hS.at fun o ho => hm.heap S _ hSw ho))
  | succ m ih =>
    intro i s hk hi hst hS hR
    have hlt : i < ks.length := by omega
    refine codeAny_builtin F.entry_set_update_loop ?_
    rw [Around.under_plainId F.plain_set_update_loop _]
    show wpAny _ A.in1 (pyNext (.ref I) >>= _) _ _ s
    refine wpAny_bind (W.item i s _ _ hlt hst fun v s' hP hst' hm => ?_)
    obtain ⟨x, tk, hx, rfl⟩ := hval i v hP
    have hS' : TxS w s'.heap S (ks.take i) i := hS.at fun o ho => hm.heap S _ hSw ho
    show wpAny _ A.in1 (holding [Value.str x tk] (setAdd S (.str x tk)) >>= _) _ _ s'
    refine wpAny_bind (wpAny_holding ?_)
    unfold setAdd
    refine wpAny_holding (wpAny_bind ((strKind P w).pyHash (k := x) (strKind_is _ _ _ _) ?_))
    refine ts_add (s := { s' with toks := s'.toks + 1 }) hS' (by omega) fun b h' hsb r => ?_
    have r' : TxS w h' S (ks.take (i + 1)) (i + 1) := r.congr fun y => by
      rw [List.take_add_one, hx, List.mem_append, List.mem_cons]
      show _ ∨ y ∈ [x] ↔ _
      rw [List.mem_singleton]
      exact Or.comm
    refine wpAny_pure ⟨plainId_quiet F.plain_set_update_loop _, ih (i + 1) _ (by omega) hlt (W.frame _ s' _ _ hst' (Nat.le_succ _) fun b hb o e => ?_) r' fun s'' hm'' hS'' => ?_⟩
    · rw [hsb.2 b (fun z : b = S => hSf (by rw [← z]; exact hb))]; exact e
    · refine hR s'' (Moved.trans W.gtrans ((hm.mono hsub).then_heap (Nat.le_succ _) fun b o hb e => ?_) hm'') hS''
      rw [hsb.2 b (fun z : b = S => hb (by rw [z]; exact List.mem_cons_self))]; exact e
end
end Pt

namespace Pt
open PySem PySem.Spec PyProof.Rows L2 Evl

section
variable {P : Program} {w : World} {A : Around} {E : Value → Shared → Prop} {s : Shared}
/-- set(a list of texts) -/
theorem call_setT {l : Addr} {items : Array Value} (ks : List Str) {Q : Value → Shared → Prop} (hh : A.handled = none) (hl : s.heap.IsList l items) (hit : StrsAre items.toList ks) (hfew : ks.length + 1 < scanBound)
    (h : ∀ (h' : Heap) (tk : Nat), TxS w h' s.heap.objs.size ks ks.length → (∀ b o, s.heap.get? b = some o → h'.get? b = some o) → Q (.ref s.heap.objs.size) { s with heap := h', toks := tk }) :
    wpAny (model P w) A (call (.type "set") [.ref l]) Q E s := by
  have hisz : items.size = ks.length := by rw [← Array.length_toList]; exact hit.length
  let ob : Obj := { cls := .type "set", dict := none, data := .set #[] 0 (.fresh 0 0 (!w.params.followText "set-order")) }
  obtain ⟨c, tl, hmro⟩ := F.called_set.mro
  have hmade := F.called_set.made
  have hsub := F.called_set.sub
  refine wpAny_call (codeAny_of_tree ?_)
  show wpAny _ _ (callAny (.type "set") _) _ _ _
  refine wpAny_pure ⟨Code.quiet_builtin _ (by decide +kernel), codeAny_builtin F.entry_type_call ?_⟩
  rw [Around.under_plain (weight_type_call_type "set" [.ref l] []) rfl]
  have h1 := F.called_set.notType
  have h2 := F.called_set.canCreate
  have hct := F.typeCall_set_1 (.ref l)
  repeat (any_goals (first | assumption | wp_step))
  refine codeAny_mono (code_set_led1 (.ref l) (E := E) (Q₁ := fun v s' => v = .ref s.heap.objs.size ∧ s' = { s with heap := s.heap.push ob }) ⟨rfl, rfl⟩) fun r s₁ hr => ?_
  cases r with
  | error e => exact hr
  | ok fl =>
    cases fl with
    | ret v =>
      obtain ⟨rfl, rfl⟩ := hr
      have hS : (s.heap.push ob).get? s.heap.objs.size = some ob := Heap.get?_push_size _ rfl
      have hT : Shared.TypeIs { s with heap := s.heap.push ob } (.ref s.heap.objs.size) "set" := ⟨_, hS, rfl⟩
      have hli := F.called_set.init.lookup
      have hbi := F.called_set.init.bind (.ref s.heap.objs.size)
      repeat (any_goals (first | assumption | wp_step))
      refine codeAny_mono (codeAny_call_builtin (R := wants (fun r s' => r = .none ∧ ∃ h' tk, s' = { s with heap := h', toks := tk } ∧ TxS w h' s.heap.objs.size ks ks.length ∧ (∀ b o, s.heap.get? b = some o → h'.get? b = some o)) E) F.called_set.init.plain F.entry_set_init (check_set_init_1 hT ?_)) fun r₂ s₂ hr₂ => ?_
      · obtain ⟨⟨oc, od, oda, osl⟩, hol, hcl, nl, hdl⟩ := hl
        simp only at hcl hdl
        subst hcl; subst hdl
        have hol' : (s.heap.push ob).get? l = some { cls := .type "list", dict := od, data := .seq items nl, slots := osl } := Heap.get?_push_of_some _ hol
        have hsls := F.sub_list_set
        have hslf := F.sub_list_frozenset
        have hne : (Value.type "list" == Value.type "dict") = false := by decide
        have hl1 : (s.heap.push ob).IsList l items := ⟨_, hol', rfl, nl, rfl⟩
        unfold Builtin.«set.__init__» noKeywords Builtin.Frozenset.updateFrom
        generalize hPI : pyIter = PI
        wp_walk
        subst hPI
        refine wpAny_pyIter_list hl1 (wpAny_bind (wpAny_runValue ?_))
        have hlS : l < s.heap.objs.size := Heap.lt_size hol
        have hh3 : A.in1.in1.in1.handled = none := by simp [hh]
        have hneI : l ≠ (s.heap.push ob).objs.size := by rw [Heap.size_push]; exact Nat.ne_of_lt (Nat.lt_succ_of_lt hlS)
        have hSf : s.heap.objs.size ∉ [(s.heap.push ob).objs.size, l] := by
          rw [Heap.size_push]
          intro z
          rcases List.mem_cons.mp z with z | z
          · exact absurd z (Nat.ne_of_lt (Nat.lt_succ_self _))
          · exact absurd (List.mem_singleton.mp z) (Nat.ne_of_gt hlS)
        have W0 := (Walks.list (prog := P) (w := w) hh3 (s.heap.push ob).objs.size l hneI items).toS
        rw [hisz] at W0
        refine ts_loop ks W0 s.heap.objs.size hSf (fun i v hv => ?_) hfew (ks.length - 0) 0 _ rfl (Nat.zero_le _) ⟨⟨_, Heap.get?_push_size _ rfl, rfl, rfl⟩, (hl1.push _)⟩ (ts_fresh w (Heap.get?_push_of_some _ hS)) fun s' hm hS' => ?_
        · have hv' : items.toList[i]? = some v := by rw [Array.getElem?_toList]; exact hv
          obtain ⟨x, tk, e1, e2⟩ := StrsAre.item hit i v hv'
          exact ⟨x, tk, e2, e1⟩
        · obtain ⟨h', g', d', tk', os'⟩ := s'
          have eg : g' = s.gens := hm.gens
          have ed : d' = s.drawn := hm.drawn
          have eo : os' = s.os := hm.os
          subst eg; subst ed; subst eo
          show wpAny _ _ _ _ _ _
          refine wpAny_pure ?_
          show wpAny _ _ (ret Value.none) _ _ _
          refine wpAny_pure ⟨rfl, h', tk', rfl, hS', fun b o e => ?_⟩
          have hlt := Heap.lt_size e
          refine hm.heap b o (fun z => ?_) (Heap.get?_push_of_some _ (Heap.get?_push_of_some _ e))
          rcases List.mem_cons.mp z with z | z
          · exact absurd z (Nat.ne_of_lt hlt)
          · have z2 := List.mem_singleton.mp z
            rw [Heap.size_push] at z2
            exact absurd z2 (Nat.ne_of_lt (Nat.lt_succ_of_lt hlt))
      · cases r₂ with
        | error e => exact hr₂
        | ok fl₂ =>
          cases fl₂ with
          | ret r =>
            obtain ⟨rfl, h', tk, rfl, hS', hk'⟩ := hr₂
            repeat (any_goals (first | assumption | wp_step))
            exact h _ _ hS' hk'
          | _ => exact hr₂.elim
    | _ => exact hr.elim
end
end Pt

namespace Pt
open PySem PySem.Spec PyProof.Rows L2 Evl

/-! ### set(texts), sorted of texts, .count of texts -/
abbrev mkS (w : W) : Str := ⟨w.toArray⟩
theorem mkS_inj {a b : W} (h : mkS a = mkS b) : a = b := congrArg (fun z : Str => z.cps.toList) h
theorem map_S (ws : List W) : ws.map S = (ws.map mkS).map V.str := by rw [List.map_map]; rfl
/-- the set of these texts -/
def TO (w : World) (a : Addr) (ws : List W) : HO := .ext fun h => TxS w h a (ws.map mkS) ws.length
theorem to_new {P : Program} {w : World} {H : Hp} {h : Heap} {a : Addr} {ws : List W} (R : TxS w h a (ws.map mkS) ws.length) : ObjOk P w H h a (TO w a ws) := by
  have ⟨o, es, ep, t, ho, r⟩ := R
  exact ⟨R, ⟨o, ho⟩, fun h1 h2 p k => TxS.at p k⟩
section
variable {X : Cx}
def rSetT (w : World) : List V → Hp → VK → Prop := fun xs H Q => ∃ (l : Addr) (ws : List W), xs = [.ref l] ∧ H l = some (.lst (ws.map S)) ∧ ws.length + 1 < scanBound ∧ ∀ a, H a = none → Q (.ref a) (upd H a (TO w a ws))
theorem cr_setT (hc : X.calm = true) : CallR X (.type "set") (rSetT X.w) := by
  intro pins s σ H xs us Q I r h
  obtain ⟨l, ws, rfl, hl, hf, q⟩ := h
  rw [Vals.ref1 r]
  obtain ⟨its, rv, pl, hz⟩ := I.list (sq_of (K := X.K) hl)
  rw [map_S] at rv
  have hn : H s.heap.objs.size = none := I.hok.fresh (Nat.le_refl _)
  refine call_setT (P := X.prog) (w := X.w) (ws.map mkS) (I.ok.hd hc) pl.isList (by simpa using rv.strs) (by rw [List.length_map]; exact hf) fun h' tk R k => ?_
  rw [List.length_map] at R
  exact ⟨.ref s.heap.objs.size, upd H s.heap.objs.size (TO X.w s.heap.objs.size ws), I.laid (t' := tk) k (Nat.le_refl _) (to_new R), rfl, q _ hn⟩

/-- values that are these texts -/
abbrev TxV (v : Value) (b : W) : Prop := ∃ t, v = .str (mkS b) t
theorem tx_each : ∀ {us : List Value} {ws : List W}, StrsAre us (ws.map mkS) → PySem.W.EachIs TxV us ws
  | _, [], h => by cases h; exact .nil
  | _, w :: ws, h => by
    have h' : StrsAre _ (mkS w :: ws.map mkS) := h
    cases h' with
    | cons x t h => exact .cons ⟨t, rfl⟩ (tx_each h)
theorem each_tx : ∀ {us : List Value} {ws : List W}, PySem.W.EachIs TxV us ws → Vals (ws.map S) us
  | _, _, .nil => .nil
  | _, _, .cons ⟨t, e⟩ h => .cons ⟨t, e⟩ (each_tx h)
theorem each_reads {h : Heap} : ∀ {us : List Value} {ws : List W}, PySem.W.EachIs TxV us ws → PySem.W.EachIs (fun v b => ∃ as, Reads h v (dS b) as) us ws
  | _, _, .nil => .nil
  | _, _, .cons ⟨t, e⟩ h => .cons ⟨[], by rw [e]; exact Reads.str _ _⟩ (each_reads h)
theorem le_mkS : PySem.W.dataLe false dS = fun a b : W => decide (a ≤ b) := PySem.W.dataLe_str mkS
theorem alike_tx (ws : List W) : PySem.W.AllAlike (ws.map dS) := PySem.W.AllAlike.of fun _ _ => rfl
theorem sortable_tx (ws : List W) : PySem.W.Sortable (ws.map dS) := PySem.W.Sortable.others fun _ => ⟨by simp, by simp⟩
def rSortedL (K : PySem.W.Frag) : List V → Hp → VK → Prop := fun vs H Q => ∃ (a : Addr) (ws : List W), vs = [V.ref a] ∧ SqL K H a (ws.map S) ∧ ∀ p, H p = none → Q (.ref p) (upd H p (.lst ((srt ws).map S)))
def rSortedS (w : World) : List V → Hp → VK → Prop := fun vs H Q => ∃ (a : Addr) (ws : List W), vs = [V.ref a] ∧ H a = some (TO w a ws) ∧ ws.length < scanBound ∧ ∀ p, H p = none → Q (.ref p) (upd H p (.lst ((uni ws).map S)))
theorem cr_sortedL (hu : X.A.units + 64 < cLine) : CallR X (.builtin "sorted") (rSortedL X.K) := by
  intro pins s σ H vs us Q I r h
  obtain ⟨a, ws, rfl, hl, q⟩ := h
  rw [Vals.ref1 r]
  obtain ⟨its, rv, pl, hz⟩ := I.list hl
  rw [map_S] at rv
  have e := tx_each rv.strs
  rw [List.length_map] at hz
  refine PySem.W.sorted_data (enc := dS) pl.isList e (each_reads e) (alike_tx ws) (sortable_tx ws) hz (fun b _ => by show X.A.units + 2 + 0 < cLine; omega) fun out ho eo => ?_
  rw [le_mkS] at eo
  obtain ⟨ep, he'⟩ := PyProof.Rows.sortedAll_at s.heap its out.toArray
  refine ⟨.ref _, upd H (s.heap.objs.size + 1) (.lst ((srt ws).map S)), I.laid (t' := s.toks) (fun _ _ => PyProof.Rows.sortedAll_old) (Nat.le_succ _) ⟨by rw [List.length_map, srt_len]; exact hz, out, ep, each_tx eo, he'⟩, rfl, q _ (I.hok.fresh (Nat.le_succ _))⟩
/-- the texts of a set, each once -/
theorem ts_texts {w : World} : ∀ {es : List (Int × Value)}, (∀ e ∈ es, GoodT w e) → PySem.W.EachIs TxV (es.map (·.2)) (es.map fun e => (keyT e).cps.toList)
  | [], _ => .nil
  | e :: es, g => .cons (by
      obtain ⟨x, tk, h1, _⟩ := g e List.mem_cons_self
      refine ⟨tk, ?_⟩
      have e2 : keyT e = x := by unfold keyT; rw [h1]
      show e.2 = Value.str (mkS (keyT e).cps.toList) tk
      rw [e2]
      exact h1) (ts_texts fun z hz => g z (List.mem_cons_of_mem _ hz))
theorem each_perm {us vs : List Value} (p : vs.Perm us) : ∀ {ws : List W}, PySem.W.EachIs TxV us ws → ∃ ws', ws'.Perm ws ∧ PySem.W.EachIs TxV vs ws' := by
  induction p with
  | nil => intro ws h; exact ⟨ws, .refl _, h⟩
  | cons x _ ih =>
    intro ws h
    cases h with
    | cons h1 h2 => obtain ⟨ws', p, e⟩ := ih h2; exact ⟨_ :: ws', p.cons _, .cons h1 e⟩
  | swap x y l =>
    intro ws h
    cases h with
    | cons h1 h2 => cases h2 with
      | cons h2 h3 => exact ⟨_, List.Perm.swap _ _ _, .cons h2 (.cons h1 h3)⟩
  | trans _ _ ih1 ih2 =>
    intro ws h
    obtain ⟨w1, p1, e1⟩ := ih2 h
    obtain ⟨w2, p2, e2⟩ := ih1 e1
    exact ⟨w2, p2.trans p1, e2⟩
theorem cr_sortedS (hc : X.calm = true) (hu : X.A.units + 64 < cLine) : CallR X (.builtin "sorted") (rSortedS X.w) := by
  intro pins s σ H vs us Q I r h
  obtain ⟨a, ws, rfl, ha, hb, q⟩ := h
  rw [Vals.ref1 r]
  obtain ⟨o, es, ep, t, ho, hex, hd, hg, nd, hm, hz, hft, hri, hle⟩ : TxS X.w s.heap a (ws.map mkS) ws.length := (I.hok a _ ha).1
  refine Calls.call_function_entry PyProof.Rows.kind_sorted PyProof.Rows.plain_sorted PyProof.Rows.entry_sorted (PyProof.Rows.args_sorted1 _) ?_
  unfold Builtin.«sorted»
  refine wpAny_bind (m := checkCount "sorted" 1 1 _) (wpAny_pure ?_)
  refine wpAny_bind (collect_set (A := X.A.in1) (I.ok.hd hc) ⟨o, ho, hex.1, hd⟩ hft (by omega) hri hle fun s1 vs k1 hz1 g1 o1 pm => ?_)
  obtain ⟨bs, pb, eb⟩ := each_perm pm (ts_texts hg)
  have ebl : bs.map mkS = bs.map fun b => mkS b := rfl
  have pk : ∀ x : W, x ∈ bs ↔ x ∈ ws := fun x => by
    rw [pb.mem_iff]
    constructor
    · intro h
      obtain ⟨e, he, rfl⟩ := List.mem_map.mp h
      obtain ⟨y, hy, e2⟩ := List.mem_map.mp ((hm (keyT e)).mpr (List.mem_map.mpr ⟨e, he, rfl⟩))
      rw [← e2]
      exact hy
    · intro h
      obtain ⟨e, he, e2⟩ := List.mem_map.mp ((hm (mkS x)).mp (List.mem_map.mpr ⟨x, h, rfl⟩))
      refine List.mem_map.mpr ⟨e, he, ?_⟩
      rw [e2]
  have nb : bs.Nodup := by
    refine pb.nodup_iff.mpr ?_
    have : (es.toList.map keyT).map (fun z : Str => z.cps.toList) = es.toList.map fun e => (keyT e).cps.toList := by rw [List.map_map]; rfl
    rw [← this]
    exact List.pairwise_map.mpr (nd.imp fun h e => h (congrArg (fun z : List Nat => (⟨z.toArray⟩ : Str)) e))
  have hsu : srt bs = uni ws := rising_eq (rising_of (srt_le _) ((srt_perm _).symm.nodup nb)) (rising_uni _) fun x => by rw [mem_srt, mem_uni, pk]
  have hlen : bs.length = es.size := by rw [pb.length_eq, List.length_map, Array.length_toList]
  have hvl : vs.length = bs.length := eb.length
  have hsL : bs.length ≤ sizeLine := by
    rw [hlen, sizeLine_eq]
    have : scanBound ≤ 16777216 := by decide
    omega
  refine wpAny_bind (wpAny_newList ?_ (by rw [hvl]; exact hsL))
  have hoL : (s1.heap.push (seqObj "list" vs.toArray 0)).get? s1.heap.objs.size = some (seqObj "list" vs.toArray 0) := Heap.get?_push_size _ rfl
  refine wpAny_bind (wpAny_holding (PySem.W.list_sort_data (s := { s1 with heap := s1.heap.push (seqObj "list" vs.toArray 0) }) (enc := dS) hoL eb (eb.mono fun v b z => ?_) (alike_tx bs) (sortable_tx bs) hsL (fun b _ => ?_) fun out ho' eo => ?_))
  · obtain ⟨t, e⟩ := z
    exact ⟨[], by rw [e]; exact Reads.str _ _, fun z => nomatch z⟩
  · show X.A.in1.units + 1 + 0 < cLine
    have e9 : X.A.in1.units = X.A.units + 1 := rfl
    omega
  rw [le_mkS, show bs.mergeSort (fun a b : W => decide (a ≤ b)) = srt bs from rfl, hsu] at eo
  obtain ⟨c, hc'⟩ := PyProof.Rows.sortedHeap_at (vs := vs) (out := out.toArray) hoL
  have hp : s.heap.objs.size ≤ s1.heap.objs.size := hz1
  have hn : H s1.heap.objs.size = none := I.hok.fresh hp
  have hul : ((uni ws).map S).length ≤ sizeLine := by rw [List.length_map, ← hsu, srt_len]; exact hsL
  have hk : ∀ b u, s.heap.get? b = some u → (sortedHeap (s1.heap.push (seqObj "list" vs.toArray 0)) s1.heap.objs.size vs out.toArray).get? b = some u := fun b u e => by
    have q1 := k1 b u e
    have hlt := Heap.lt_size q1
    rw [sortedHeap_old (Nat.ne_of_lt hlt) (by rw [size_push']; exact Nat.lt_succ_of_lt hlt)]
    exact Heap.get?_push_of_some _ q1
  refine wpAny_pure ⟨_, rfl, .ref s1.heap.objs.size, upd H s1.heap.objs.size (.lst ((uni ws).map S)), ?_, rfl, q _ hn⟩
  have J : Inv X pins σ (upd H s1.heap.objs.size (.lst ((uni ws).map S))) { s with heap := sortedHeap (s1.heap.push (seqObj "list" vs.toArray 0)) s1.heap.objs.size vs out.toArray, gens := s1.gens, drawn := s1.drawn, toks := s1.toks } :=
    I.call (ch := []) (Un.laid hk hp hn) (I.hok.laid hk hp ⟨hul, out, c, each_tx eo, hc'⟩) (by rw [g1]; exact I.bare) (fun _ z => nomatch z)
  obtain ⟨h', gg, dd, tk, os⟩ := s1
  have e1 : gg = s.gens := g1
  have e2 : os = s.os := o1
  subst e1 e2
  exact J
def rCntS (K : PySem.W.Frag) : V → List V → Hp → VK → Prop := fun x xs H Q => ∃ (p : Addr) (ws : List W) (k : W), x = .ref p ∧ xs = [S k] ∧ SqL K H p (ws.map S) ∧ Q (.int (ws.count k : Nat)) H
theorem cnt_is {k : W} : ∀ {us : List Value} {ws : List W}, PySem.W.EachIs TxV us ws → us.countP (isStrOf (mkS k)) = ws.count k
  | _, _, .nil => rfl
  | v :: us, w :: ws, .cons ⟨t, e⟩ h => by
    rw [List.countP_cons, List.count_cons, cnt_is h]
    congr 1
    rw [e]
    have : isStrOf (mkS k) (.str (mkS w) t) = (w == k) := by
      rw [bdec]
      by_cases z : w = k
      · subst z
        simp [isStrOf]
      · rw [decide_eq_false z]
        show (_ == _ : Bool) = false
        exact beq_eq_false_iff_ne.mpr fun e => z (by first | exact mkS_inj e | exact (mkS_inj e).symm)
    rw [this]
theorem mt_lcountS : MtR X "list.count" (rCntS X.K) := by
  intro pins s σ H x xs v us Q I rx rxs h
  obtain ⟨p, ws, k, rfl, rfl, hs, q⟩ := h
  cases rx
  obtain ⟨u, rfl, ru⟩ := rxs.one
  obtain ⟨t, rfl⟩ := ru
  obtain ⟨its, rv, ⟨⟨cls, dd, data, sl⟩, n, ho, hc, hdn, hd⟩, hlen⟩ := I.list hs
  simp only at hc hd
  subst hc hd
  rw [map_S] at rv
  have hi := rv.strs
  refine call_meets PySem.F.slot_list_count ⟨_, ho, rfl⟩ PySem.F.entry_list_count (PySem.F.args_list_count_2 _ _)
    (SeqAt.list_countAt p its.toArray n dd sl (.str (mkS k) t) (isStrOf (mkS k))) ⟨ho, fun y hy => (eq_isStrOf _ t hi y (by simpa using hy)).at _ _, ?_⟩
  have ec : its.toArray.toList.countP (isStrOf (mkS k)) = ws.count k := cnt_is (tx_each hi)
  refine ⟨.int (ws.count k : Nat), H, I.tok _, ⟨s.toks, ?_⟩, q⟩
  show Value.int ((its.toArray.toList.countP (isStrOf (mkS k)) : Nat) : Int) s.toks = Value.int ((ws.count k : Nat) : Int) s.toks
  rw [ec]
end
end Pt

namespace Pt
open PySem PySem.Spec PyProof.Rows L2 Evl

/-! ### dicts of texts -/
abbrev kS (w : W) : Key := Sum.inr (mkS w)
theorem kS_inj {a b : W} (h : kS a = kS b) : a = b := mkS_inj (Sum.inr.inj h)
/-- the dict at a, as what it holds at each text -/
def DF (H : Hp) (a : Addr) (f : W → Option V) (n : Nat) : Prop := ∃ kvs : List (Key × V), H a = some (.dK kvs) ∧ (kvs.map (·.1)).Nodup ∧ (∀ k ∈ kvs.map (·.1), ∃ w, k = kS w) ∧ kvs.length ≤ n ∧ ∀ w, valV kvs (kS w) = f w
def dset (f : W → Option V) (k : W) (v : V) : W → Option V := fun w => if w = k then some v else f w
def drp (f : W → Option V) (k : W) : W → Option V := fun w => if w = k then none else f w
def nof : W → Option V := fun _ => none
section
variable {H H' : Hp} {a : Addr} {f : W → Option V} {n : Nat}
theorem DF.ex (h : DF H a f n) (e : Ex H H') : DF H' a f n := let ⟨kvs, h1, r⟩ := h; ⟨kvs, e _ _ h1, r⟩
theorem DF.mono {own : List Addr} (h : DF H a f n) (e : Ek own H H') (ha : a ∉ own) : DF H' a f n := let ⟨kvs, h1, r⟩ := h; ⟨kvs, e.1 _ _ ha h1, r⟩
theorem DF.is (h : DF H a f n) {g : W → Option V} (e : ∀ w, f w = g w) : DF H a g n := (funext e : f = g) ▸ h
theorem DF.le {m : Nat} (h : DF H a f n) (e : n ≤ m) : DF H a f m := let ⟨kvs, h1, h2, h3, h4, h5⟩ := h; ⟨kvs, h1, h2, h3, Nat.le_trans h4 e, h5⟩
theorem DF.get (h : DF H a f n) (k : W) : DGet H a (S k) (f k) := by
  obtain ⟨kvs, h1, _, _, _, h5⟩ := h
  rw [← h5 k]
  exact DGet.k (k := kS k) h1
theorem DF.isD (h : DF H a f n) : IsD H a := let ⟨kvs, h1, _⟩ := h; .inl ⟨kvs, .inl h1⟩
theorem valV_mem {kvs : List (Key × V)} {k : Key} : (valV kvs k).isSome = true ↔ k ∈ kvs.map (·.1) := by
  rw [← valV_any, List.any_eq_true]
  constructor
  · rintro ⟨p, hp, e⟩
    exact List.mem_map.mpr ⟨p, hp, of_decide_eq_true e⟩
  · intro h
    obtain ⟨p, hp, e⟩ := List.mem_map.mp h
    exact ⟨p, hp, decide_eq_true e⟩
theorem putK_keys {kvs : List (Key × V)} {k : Key} {v : V} : (putK kvs k v).map (·.1) = if (valV kvs k).isSome = true then kvs.map (·.1) else kvs.map (·.1) ++ [k] := by
  unfold putK
  rw [valV_any]
  by_cases h : (valV kvs k).isSome = true
  · rw [if_pos h, if_pos h, List.map_map]
    refine List.map_congr_left fun p _ => ?_
    show (if p.1 = k then (p.1, v) else p).1 = p.1
    split <;> rfl
  · rw [if_neg h, if_neg h, List.map_append]; rfl
theorem dput_kvs {kvs : List (Key × V)} {k : W} {v : V} (h2 : (kvs.map (·.1)).Nodup) (h3 : ∀ k ∈ kvs.map (·.1), ∃ w, k = kS w) (h4 : kvs.length ≤ n) (h5 : ∀ w, valV kvs (kS w) = f w) (h1 : H a = some (.dK (putK kvs (kS k) v))) : DF H a (dset f k v) (n + 1) := by
  refine ⟨_, h1, ?_, ?_, ?_, fun w => ?_⟩
  · rw [putK_keys]
    by_cases h : (valV kvs (kS k)).isSome = true
    · rw [if_pos h]; exact h2
    · rw [if_neg h]
      refine List.nodup_append.mpr ⟨h2, List.nodup_cons.mpr ⟨(by simp), .nil⟩, fun x hx y hy => ?_⟩
      rw [List.mem_singleton.mp hy]
      exact fun e => h (valV_mem.mpr (e ▸ hx))
  · rw [putK_keys]
    by_cases h : (valV kvs (kS k)).isSome = true
    · rw [if_pos h]; exact h3
    · rw [if_neg h]
      intro x hx
      rcases List.mem_append.mp hx with hx | hx
      · exact h3 x hx
      · exact ⟨k, List.mem_singleton.mp hx⟩
  · exact Nat.le_trans (length_putK _ _ _) (Nat.succ_le_succ h4)
  · rw [valV_put, h5]
    unfold dset
    by_cases e : w = k
    · rw [if_pos e, if_pos (by rw [e])]
    · rw [if_neg e, if_neg (fun z => e (kS_inj z))]
/-- the keys -/
theorem DF.keys (h : DF H a f n) {ws : List W} (hw : ∀ w, (f w).isSome = true ↔ w ∈ ws) : ∃ (kvs : List (Key × V)) (ks : List W), H a = some (.dK kvs) ∧ kvs.map (·.1) = ks.map kS ∧ ks.Nodup ∧ ks.length ≤ n ∧ (∀ w, w ∈ ks ↔ w ∈ ws) ∧ ∀ w, valV kvs (kS w) = f w := by
  obtain ⟨kvs, h1, h2, h3, h4, h5⟩ := h
  have : ∀ l : List Key, (∀ k ∈ l, ∃ w, k = kS w) → ∃ ks : List W, l = ks.map kS := by
    intro l
    induction l with
    | nil => exact fun _ => ⟨[], rfl⟩
    | cons k l ih =>
      intro h
      obtain ⟨w, rfl⟩ := h k List.mem_cons_self
      obtain ⟨ks, rfl⟩ := ih fun x hx => h x (List.mem_cons_of_mem _ hx)
      exact ⟨w :: ks, rfl⟩
  obtain ⟨ks, e⟩ := this _ h3
  refine ⟨kvs, ks, h1, e, ?_, ?_, fun w => ?_, h5⟩
  · rw [e] at h2
    exact (List.pairwise_map.mp h2).imp fun h z => h (by rw [z])
  · have := congrArg List.length e
    rw [List.length_map, List.length_map] at this
    omega
  · rw [← hw, ← h5, valV_mem, e]
    exact ⟨fun z => List.mem_map.mpr ⟨w, z, rfl⟩, fun z => let ⟨x, hx, e⟩ := List.mem_map.mp z; kS_inj e ▸ hx⟩
theorem uni_of {ks ws : List W} (n : ks.Nodup) (m : ∀ w, w ∈ ks ↔ w ∈ ws) : srt ks = uni ws := rising_eq (rising_of (srt_le _) ((srt_perm _).symm.nodup n)) (rising_uni _) fun x => by rw [mem_srt, mem_uni, m]
theorem uni_nodup {ks : List W} (n : ks.Nodup) : uni ks = srt ks := (uni_of n fun _ => Iff.rfl).symm
theorem uni_len_le (ws : List W) : (uni ws).length ≤ ws.length := by
  rw [uni, srt_len]
  induction ws with
  | nil => exact Nat.le_refl _
  | cons x r ih =>
    unfold once
    split
    · exact Nat.le_succ_of_le ih
    · exact Nat.succ_le_succ ih
end
def rSortedD : List V → Hp → VK → Prop := fun xs H Q => ∃ (a : Addr) (kvs : List (Key × V)) (ks : List Str), xs = [.ref a] ∧ Rd H a (.dK kvs) ∧ kvs.map (·.1) = ks.map Sum.inr ∧ ks.length < 64 ∧
    ∀ ys p, ys.Perm ks → sortedS ys = true → H p = none → Q (.ref p) (upd H p (.lst (ys.map V.str)))
section
variable {X : Cx} {K : PySem.W.Frag}
theorem k_sortedD (hc : X.calm = true) : CallR X (.builtin "sorted") rSortedD := call_sortedD hc
theorem k_sortedL (hu : X.A.units + 64 < cLine) (h : X.K = K := by rfl) : CallR X (.builtin "sorted") (rSortedL K) := h ▸ cr_sortedL hu
theorem k_sortedS {w : World} (hc : X.calm = true) (hu : X.A.units + 64 < cLine) (h : X.w = w := by rfl) : CallR X (.builtin "sorted") (rSortedS w) := h ▸ cr_sortedS hc hu
theorem k_setT {w : World} (hc : X.calm = true) (h : X.w = w := by rfl) : CallR X (.type "set") (rSetT w) := h ▸ cr_setT hc
end
section
variable {K : PySem.W.Frag} {σ : L2.St} {H H' : Hp} {ta td ty tx tv te : TE} {a : Addr} {f : W → Option V} {n : Nat} {D : Ends} {tz : TS} {w : World}
theorem ev_dget2 {k : W} {z : V} (hd : Ev td σ H (.ref a)) (hD : DF H a f n) (hy : Ev ty σ H (S k)) (hx : Ev tx σ H z) : Ev (tDGet2 td ty tx) σ H ((f k).getD z) := fun H1 e1 Q q =>
  hd H1 e1 _ fun H2 e2 => ⟨a, rfl, (hD.ex (e1.trans e2)).isD, hy H2 (e1.trans e2) _ fun H3 e3 => hx H3 ((e1.trans e2).trans e3) _ fun H4 e4 => ⟨_, (hD.ex (((e1.trans e2).trans e3).trans e4)).get k, q H4 ((e2.trans e3).trans e4)⟩⟩
theorem ev_dget {k : W} {v : V} (hd : Ev td σ H (.ref a)) (hD : DF H a f n) (hy : Ev ty σ H (S k)) (hk : f k = some v) : Ev (tDGet td ty) σ H v := fun H1 e1 Q q =>
  hd H1 e1 _ fun H2 e2 => hy H2 (e1.trans e2) _ fun H3 e3 => ⟨a, v, rfl, by rw [← hk]; exact (hD.ex ((e1.trans e2).trans e3)).get k, q H3 (e2.trans e3)⟩
theorem ev_din {k : W} (hd : Ev td σ H (.ref a)) (hD : DF H a f n) (hy : Ev ty σ H (S k)) : Ev (tDIn ty td) σ H (.bl (f k).isSome) := fun H1 e1 Q q =>
  hy H1 e1 _ fun H2 e2 => hd H2 (e1.trans e2) _ fun H3 e3 => ⟨a, _, rfl, (hD.ex ((e1.trans e2).trans e3)).get k, q H3 (e2.trans e3)⟩
theorem ev_dnotin {k : W} (hd : Ev td σ H (.ref a)) (hD : DF H a f n) (hy : Ev ty σ H (S k)) : Ev (tDNotIn ty td) σ H (.bl (!(f k).isSome)) := fun H1 e1 Q q =>
  hy H1 e1 _ fun H2 e2 => hd H2 (e1.trans e2) _ fun H3 e3 => ⟨a, _, rfl, (hD.ex ((e1.trans e2).trans e3)).get k, q H3 (e2.trans e3)⟩
/-- d[k] = v -/
theorem s_dput {k : W} {P : V → Hp → Prop} (hv : EvP tv σ H P) (hd : Ev td σ H (.ref a)) (hD : DF H a f n) (hn : n < sizeLine) (hy : Ev ty σ H (S k))
    (q : ∀ v H1 H2 kvs kvs', Ex H H1 → P v H1 → Ex H1 H2 → H2 a = some (.dK kvs) → DF (upd H2 a (.dK kvs')) a (dset f k v) (n + 1) → D.nx σ (upd H2 a (.dK kvs'))) : sDPut td ty tv D σ H :=
  hv H (Ex.refl H) _ fun v H1 e1 p => hd H1 e1 _ fun H2 e2 => hy H2 (e1.trans e2) _ fun H3 e3 => by
    obtain ⟨kvs, h1, h2, h3, h4, h5⟩ := hD.ex ((e1.trans e2).trans e3)
    exact ⟨a, _, rfl, DPut.k (k := kS k) (v := v) h1 (by omega), q v H1 H3 kvs _ e1 p (e2.trans e3) h1 (dput_kvs h2 h3 h4 h5 upd_same)⟩
theorem q_dnew {g : Nat} (k : ∀ a, H a = none → DF (upd H a (.dK [])) a nof 0 → tz D (σ.set g (some (.ref a))) (upd H a (.dK []))) : tSeq (tAsg tDNewK (gName g)) tz D σ H := fun p hp =>
  k p hp ⟨[], upd_same, List.Pairwise.nil, (fun _ h => nomatch h), Nat.le_refl _, fun _ => rfl⟩
theorem evf_sortedD {ws : List W} (hd : Ev te σ H (.ref a)) (hD : DF H a f n) (hn : n < 64) (hw : ∀ w, (f w).isSome = true ↔ w ∈ ws) : EvF (tCB rSortedD (tCons te tNil)) σ H ((uni ws).map dS) := evf_cb (eap_cons hd.p mono_V eap_nil) fun vs H2 e2 hp Q q => by
  obtain ⟨v, r, rfl, rfl, rfl⟩ := hp
  obtain ⟨kvs, ks, h1, h2, h3, h4, h5, _⟩ := (hD.ex e2).keys hw
  refine ⟨a, kvs, ks.map mkS, rfl, .inl h1, by rw [h2, List.map_map]; rfl, by rw [List.length_map]; omega, fun ys p py sy np => ?_⟩
  have e := sortedS_srt (ys := ys) (ws := ks) py sy
  rw [e, uni_of h3 h5]
  exact q p _ np (Ex.new np) ⟨_, upd_same, its_strs _⟩
theorem evf_sortedL {ws : List W} (h : EvP te σ H (isL (ws.map dS))) : EvF (tCB (rSortedL K) (tCons te tNil)) σ H ((srt ws).map dS) := evf_cb (eap_cons h mono_L eap_nil) fun vs H2 e2 hp Q q => by
  obtain ⟨v, r, rfl, ⟨a, rfl, us, h1, h2⟩, rfl⟩ := hp
  exact ⟨a, ws, rfl, by rw [← h2.strs]; exact sq_of h1, fun p np => q p _ np (Ex.new np) ⟨_, upd_same, its_strs _⟩⟩
theorem evp_set {ws : List W} (h : EvP te σ H (isL (ws.map dS))) (hn : ws.length + 1 < scanBound) : EvP (tCB (rSetT w) (tCons te tNil)) σ H (fun v H' => ∃ a, v = .ref a ∧ H' a = some (TO w a ws)) := evp_cb (eap_cons h mono_L eap_nil) fun vs H2 e2 hp Q q => by
  obtain ⟨v, r, rfl, ⟨a, rfl, us, h1, h2⟩, rfl⟩ := hp
  exact ⟨a, ws, rfl, by rw [← h2.strs]; exact h1, hn, fun p np => q _ _ (Ex.new np) ⟨p, rfl, upd_same⟩⟩
/-- sorted(set(texts)) -/
theorem evf_sortedS {ws : List W} (h : EvP te σ H (isL (ws.map dS))) (hn : ws.length + 1 < scanBound) : EvF (tCB (rSortedS w) (tCons (tCB (rSetT w) (tCons te tNil)) tNil)) σ H ((uni ws).map dS) := evf_cb (eap_cons (evp_set h hn) (fun v H1 H2 e => fun ⟨a, e1, h1⟩ => ⟨a, e1, e _ _ h1⟩) eap_nil) fun vs H2 e2 hp Q q => by
  obtain ⟨v, r, rfl, ⟨a, rfl, h1⟩, rfl⟩ := hp
  exact ⟨a, ws, rfl, h1, by omega, fun p np => q p _ np (Ex.new np) ⟨_, upd_same, its_strs _⟩⟩
theorem ev_count {ws : List W} {k : W} {ta : TE} (ho : EvP te σ H (isL (ws.map dS))) (hk : Ev ta σ H (S k)) : Ev (tBM K "list" (rCntS K) te (tCons ta tNil)) σ H (.int (ws.count k : Nat)) := fun H1 e Q q =>
  ho H1 e _ fun v H2 e2 ⟨a, ev, us, h1, h2⟩ => by
    subst ev
    refine ⟨.inl ⟨rfl, us, sq_of h1⟩, hk H2 (e.trans e2) _ fun H3 e3 => ⟨a, ws, k, rfl, rfl, ?_, q H3 (e2.trans e3)⟩⟩
    rw [← h2.strs]
    exact sq_of (e3 _ _ h1)
/-- xs.append(x), xs.extend(list) -/
theorem s_append {l : Addr} {ds : List PyData} {d : PyData} {to : TE} (ho : Ev to σ H (.ref l)) (hl : Ls H l ds) (he : EvP te σ H (isI d)) (hz : ds.length ≤ 100000)
    (k : ∀ H1 xs xs', Ex H H1 → H1 l = some (.lst xs) → Ls (upd H1 l (.lst xs')) l (ds ++ [d]) → D.nx σ (upd H1 l (.lst xs'))) : tDrop (tBM K "list" rAppend to (tCons te tNil)) D σ H :=
  ho H (Ex.refl H) _ fun H1 e1 => by
    obtain ⟨us, g1, g2⟩ := hl.ex e1
    refine ⟨.inl ⟨rfl, us, sq_of g1⟩, he H1 e1 _ fun v H2 e2 hv => ⟨l, us, v, rfl, rfl, e2 _ _ g1, ?_, ?_⟩⟩
    · have := g2.length
      have : 100000 < sizeLine := by decide
      omega
    · refine k H2 us _ (e1.trans e2) (e2 _ _ g1) ⟨_, upd_same, ?_⟩
      have ek : Ek [l] H2 (upd H2 l (.lst (us ++ [v]))) := (Ek.refl H2).mut List.mem_cons_self (e2 _ _ g1) fun _ z => nomatch z
      exact Its.mono ek _ _ ((g2.ex e2).append (.cons hv .nil))
theorem s_extend {l : Addr} {ds es : List PyData} {to : TE} (ho : Ev to σ H (.ref l)) (hl : Ls H l ds) (he : EvP te σ H (isL es)) (hz : ds.length + es.length ≤ 100000)
    (k : ∀ H1 xs xs', Ex H H1 → H1 l = some (.lst xs) → Ls (upd H1 l (.lst xs')) l (ds ++ es) → D.nx σ (upd H1 l (.lst xs'))) : tDrop (tBM K "list" rExtend to (tCons te tNil)) D σ H :=
  ho H (Ex.refl H) _ fun H1 e1 => by
    obtain ⟨us, g1, g2⟩ := hl.ex e1
    refine ⟨.inl ⟨rfl, us, sq_of g1⟩, he H1 e1 _ fun v H2 e2 hv => ?_⟩
    obtain ⟨b, rfl, vs, k1, k2⟩ := hv
    refine ⟨l, b, us, vs, rfl, rfl, e2 _ _ g1, k1, ?_, ?_⟩
    · have := g2.length
      have := k2.length
      have : 100000 < sizeLine := by decide
      omega
    · refine k H2 us _ (e1.trans e2) (e2 _ _ g1) ⟨_, upd_same, ?_⟩
      have ek : Ek [l] H2 (upd H2 l (.lst (us ++ vs))) := (Ek.refl H2).mut List.mem_cons_self (e2 _ _ g1) fun _ z => nomatch z
      exact Its.mono ek _ _ ((g2.ex e2).append k2)
end
end Pt

namespace Pt
open PySem PySem.Spec PyProof.Rows L2 Evl

/-! ### pieces and counts -/
abbrev Cs := List (W × Nat)
theorem u1 {n : Nat} (h : n + 64 < cLine) : n + 1 < cLine := by omega
theorem sz5 {n : Nat} (h : n ≤ 100000) : n < sizeLine := by
  have : 100000 < sizeLine := by decide
  omega
theorem k_count {X : Cx} {K : PySem.W.Frag} (h : X.K = K := by rfl) : MtR X "list.count" (rCntS K) := h ▸ mt_lcountS
/-- the pieces of a word, as they stand -/
def pcs (w : W) (n : Nat) : List W := (List.range (w.length + 1 - n)).map fun i => (w.take (i + n)).drop i
theorem pcs_len (w : W) (n : Nat) : (pcs w n).length = w.length + 1 - n := by rw [pcs, List.length_map, List.length_range]
/-- each with how often, rising -/
def tally (ws : List W) : Cs := (uni ws).map fun w => (w, ws.count w)
def dP (p : W × Nat) : PyData := .tuple [dS p.1, dN p.2]
theorem eqD_P : EqD dP := eqD_pair eqD_str eqD_nat
def cf (ws : List W) : W → Option V := fun w => if w ∈ ws then some (vN (ws.count w)) else none
theorem cf_nil : nof = cf [] := rfl
theorem cf_get (ws : List W) (p : W) : (cf ws p).getD (.int 0) = vN (ws.count p) := by
  unfold cf
  by_cases h : p ∈ ws
  · rw [if_pos h]; rfl
  · rw [if_neg h, List.count_eq_zero.mpr h]; rfl
theorem cf_step (ws : List W) (p : W) : dset (cf ws) p (vN (ws.count p + 1)) = cf (ws ++ [p]) := by
  funext w
  unfold dset cf
  by_cases e : w = p
  · subst e
    rw [if_pos rfl, if_pos (by simp), List.count_append, List.count_singleton_self]
  · rw [if_neg e]
    have h1 : (w ∈ ws ++ [p]) ↔ w ∈ ws := by simp [e]
    have h2 : (ws ++ [p]).count w = ws.count w := by
      rw [List.count_append, List.count_cons, List.count_nil]
      have : (p == w) = false := beq_eq_false_iff_ne.mpr fun z => e z.symm
      rw [this]; simp
    rw [h2]
    by_cases h : w ∈ ws
    · rw [if_pos h, if_pos (h1.mpr h)]
    · rw [if_neg h, if_neg fun z => h (h1.mp z)]
theorem cf_some (ws : List W) (w : W) : (cf ws w).isSome = true ↔ w ∈ ws := by
  unfold cf
  by_cases h : w ∈ ws
  · rw [if_pos h]; exact ⟨fun _ => h, fun _ => rfl⟩
  · rw [if_neg h]; exact ⟨fun z => (by cases z), fun z => absurd z h⟩
theorem cf_at {ws : List W} {w : W} (h : w ∈ ws) : cf ws w = some (vN (ws.count w)) := if_pos h
/-! ### promises -/
def spBetween : Sp := fun vs H Q _ => ∃ i a b : Int, vs = [.int i, .int a, .int b] ∧ RetV (.bl (decide (a ≤ i) && decide (i ≤ b))) H Q
def spCheckLong : Sp := fun vs H Q _ => ∃ n : Nat, vs = [.int (n : Int)] ∧ 2 ≤ n ∧ n ≤ 5 ∧ RetV .non H Q
def spPiecesOf : Sp := fun vs H Q _ => ∃ (w : W) (n : Nat), vs = [S w, .int (n : Int)] ∧ w.length ≤ 60 ∧ 2 ≤ n ∧ n ≤ 1000 ∧ RetL ((tally (pcs w n)).map dP) H Q
def spPieces : Sp := fun vs H Q _ => ∃ (w : W) (n : Nat), vs = [S w, .int (n : Int)] ∧ Word 60 w ∧ 2 ≤ n ∧ n ≤ 5 ∧ RetL ((tally (pcs w n)).map dP) H Q
def spLawPieces : Sp := fun vs H Q _ => ∃ (w : W) (n : Nat), vs = [S w, .int (n : Int)] ∧ w.length ≤ 200 ∧ 1 ≤ n ∧ n ≤ 1000 ∧ RetL ((tally (pcs w n)).map dP) H Q
def spWhole : Sp := fun vs H Q _ => ∃ i : Int, vs = [.int i] ∧ RetV (.bl true) H Q
theorem pcs_take (w : W) (n i : Nat) (h : i ≤ w.length + 1 - n) : (pcs w n).take i = (List.range i).map fun i => (w.take (i + n)).drop i := by
  rw [pcs, ← List.map_take, List.take_range, Nat.min_eq_left h]
theorem range_take_at {n i a : Nat} {α : Type} (f : Nat → α) (h : (List.range n)[i]? = some a) : (List.range (i + 1)).map f = (List.range i).map f ++ [f a] := by
  obtain ⟨rfl, _⟩ := range_at h
  rw [List.range_succ, List.map_append]; rfl
section
variable {σ : L2.St} {H : Hp} {te tf : TE}
/-- a pair of a text and a number -/
theorem evi_pair {w : W} {n : Nat} (h : Ev te σ H (S w)) (k : Ev tf σ H (vN n)) : EvP (tTup (tCons te (tCons tf tNil))) σ H (isI (dP (w, n))) := evi_tup (eai_cons (ei_str h) (eai_cons (ei_int k) eai_nil)) (show 2 ≤ 100000 by decide)
end
section
variable {K : PySem.W.Frag} {σ : L2.St} {H : Hp} {ta : TE}
theorem ev_isiL {a : Addr} {ds : List PyData} (h : Ev ta σ H (.ref a)) (hl : Ls H a ds) : Ev (tCB (rIsi K) (tCons ta (tCons (tC (.ty "list")) tNil))) σ H (.bl true) := ev_isi h ev_c (.ty "list") (fun H2 e => let ⟨vs, g, _⟩ := hl.ex e; .base (.lst g)) (kit_ty (by decide +kernel))
theorem ev_isiT {x : V} {ds : List PyData} (h : Ev ta σ H x) (hx : It H x (.tuple ds)) : Ev (tCB (rIsi K) (tCons ta (tCons (tC (.ty "tuple")) tNil))) σ H (.bl true) := by
  cases hx with
  | tup h1 h2 => exact ev_isi h ev_c (.ty "tuple") (fun H2 e => .base (.tup (e _ _ h1))) (kit_ty (by decide +kernel))
end
/-! ### what may be compared -/
theorem txt_of {w : W} (h : w.all abcd = true) : Txt0 w := fun c hc => by
  have h1 : c ∈ [97, 98, 99, 100] := of_decide_eq_true (List.all_eq_true.mp h c hc)
  have := List.all_eq_true.mp (show ([97, 98, 99, 100] : List Nat).all (fun c => decide (c < 1114112)) = true by decide) c h1
  exact of_decide_eq_true this
theorem pcs_long {w p : W} {n : Nat} (h : p ∈ pcs w n) : p.length = n := by
  obtain ⟨i, hi, rfl⟩ := List.mem_map.mp h
  rw [List.mem_range] at hi
  rw [List.length_drop, List.length_take]
  omega
theorem pcs_abcd {w p : W} {n : Nat} (hw : w.all abcd = true) (h : p ∈ pcs w n) : p.all abcd = true := by
  obtain ⟨i, hi, rfl⟩ := List.mem_map.mp h
  exact List.all_eq_true.mpr fun c hc => List.all_eq_true.mp hw c (List.mem_of_mem_take (List.mem_of_mem_drop hc))
theorem mem_tally {ws : List W} {p : W × Nat} (h : p ∈ tally ws) : p.1 ∈ ws ∧ p.2 = ws.count p.1 := by
  obtain ⟨w, hw, rfl⟩ := List.mem_map.mp h
  exact ⟨mem_uni.mp hw, rfl⟩
theorem sh_cs {c : Cs} (h : ∀ p ∈ c, p.1.all abcd = true) : Sh 2 (.list (c.map dP)) := sh_list (sha_map fun p hp => sh_tup (n := 0) fun d hd => by
  rcases List.mem_cons.mp hd with rfl | hd
  · exact sh_str (txt_of (h p hp))
  · rw [List.mem_singleton.mp hd]; exact sh_int _)
theorem sh_tally {w : W} {n : Nat} (h : w.all abcd = true) : Sh 2 (.list ((tally (pcs w n)).map dP)) := sh_cs fun p hp => pcs_abcd h (mem_tally hp).1
theorem eqv_cs (a b : Cs) : PyData.eqv (.list (a.map dP)) (.list (b.map dP)) = decide (a = b) := eqD_list eqD_P a b
/-! ### orders of the letters -/
def at4 (i : Nat) : Nat := ([97, 98, 99, 100] : List Nat).getD i 0
def inv (o : W) : W := [97, 98, 99, 100].map fun c => at4 (o.idxOf c)
theorem at4_mem {i : Nat} (h : i < 4) : at4 i ∈ ([97, 98, 99, 100] : List Nat) := by
  unfold at4
  rw [List.getD_eq_getElem?_getD, List.getElem?_eq_getElem (by exact h)]
  exact List.getElem_mem _
theorem at4_idx {c : Nat} (h : c ∈ ([97, 98, 99, 100] : List Nat)) : at4 (([97, 98, 99, 100] : List Nat).idxOf c) = c := by
  unfold at4
  rw [List.getD_eq_getElem?_getD, (idxOf_at h).1]; rfl
theorem idx_at4 {i : Nat} (h : i < 4) : ([97, 98, 99, 100] : List Nat).idxOf (at4 i) = i := by
  rcases i with _ | _ | _ | _ | i
  · rfl
  · rfl
  · rfl
  · rfl
  · omega
theorem idx_of_at {o : W} (hn : o.Nodup) {i c : Nat} (h : o[i]? = some c) : o.idxOf c = i := by
  have hc : c ∈ o := List.mem_of_getElem? h
  obtain ⟨h1, h2⟩ := List.getElem?_eq_some_iff.mp h
  obtain ⟨h3, h4⟩ := List.getElem?_eq_some_iff.mp (idxOf_at hc).1
  exact (List.getElem_inj hn).mp (h4.trans h2.symm)
theorem ord_inv {o : W} (ho : Order o) : Order (inv o) := by
  have hol : o.length = 4 := ho.length_eq
  have hn : o.Nodup := ho.symm.nodup (by decide)
  have hlt : ∀ c ∈ ([97, 98, 99, 100] : List Nat), o.idxOf c < 4 := fun c hc => hol ▸ List.idxOf_lt_length_of_mem (ho.mem_iff.mpr hc)
  refine (List.perm_ext_iff_of_nodup ?_ (by decide)).mpr fun c => ⟨fun h => ?_, fun h => ?_⟩
  · refine List.pairwise_map.mpr ((show ([97, 98, 99, 100] : List Nat).Nodup by decide).imp_of_mem fun {a b} ha hb hne e => hne ?_)
    have e2 := congrArg (fun z => ([97, 98, 99, 100] : List Nat).idxOf z) e
    simp only [idx_at4 (hlt a ha), idx_at4 (hlt b hb)] at e2
    have h1 := (idxOf_at (ho.mem_iff.mpr ha)).1
    have h2 := (idxOf_at (ho.mem_iff.mpr hb)).1
    rw [e2] at h1
    exact Option.some.inj (h1.symm.trans h2)
  · obtain ⟨d, hd, rfl⟩ := List.mem_map.mp h
    exact at4_mem (hlt d hd)
  · have hi : ([97, 98, 99, 100] : List Nat).idxOf c < 4 := List.idxOf_lt_length_of_mem h
    obtain ⟨d, hd⟩ : ∃ d, o[([97, 98, 99, 100] : List Nat).idxOf c]? = some d := ⟨_, List.getElem?_eq_getElem (by omega)⟩
    refine List.mem_map.mpr ⟨d, ho.mem_iff.mp (List.mem_of_getElem? hd), ?_⟩
    rw [idx_of_at hn hd, at4_idx h]
theorem ren_inv {o : W} (ho : Order o) {c : Nat} (hc : abcd c = true) : ren (inv o) (ren o c) = c := by
  have hol : o.length = 4 := ho.length_eq
  have hn : o.Nodup := ho.symm.nodup (by decide)
  have hcm : c ∈ [97, 98, 99, 100] := of_decide_eq_true hc
  have hi : ([97, 98, 99, 100] : List Nat).idxOf c < 4 := List.idxOf_lt_length_of_mem hcm
  have h1 : o[([97, 98, 99, 100] : List Nat).idxOf c]? = some (ren o c) := by
    unfold ren
    rw [List.getD_eq_getElem?_getD, List.getElem?_eq_getElem (by omega)]; rfl
  have h2 : ren o c ∈ [97, 98, 99, 100] := of_decide_eq_true (ren_mem ho hc)
  show (inv o).getD _ 0 = c
  rw [List.getD_eq_getElem?_getD, inv, List.getElem?_map, (idxOf_at h2).1]
  show at4 (o.idxOf (ren o c)) = c
  rw [idx_of_at hn h1, at4_idx hcm]
theorem flat_single {α β : Type} (f : α → β) (l : List α) : (l.map fun x => [f x]).flatten = l.map f := by
  induction l with
  | nil => rfl
  | cons a r ih => rw [List.map_cons, List.flatten_cons, ih]; rfl
theorem sum_single {α β : Type} (f : α → β) (l : List α) : ((l.map fun x => [f x]).map List.length).sum = l.length := by
  induction l with
  | nil => rfl
  | cons a r ih =>
    rw [List.map_cons, List.map_cons, List.sum_cons, ih]
    show 1 + r.length = r.length + 1
    omega
section
variable {K : PySem.W.Frag} {σ : L2.St} {H : Hp} {ta tb tc : TE} {D : Ends} {tz : TS} {P1 P2 P3 : V → Hp → Prop}
/-- a, b = x, y where the pair is laid -/
theorem s_tup2P {i j : Nat} (h1 : EvP ta σ H P1) (m1 : Mono P1) (h2 : EvP tb σ H P2) (m2 : Mono P2) (k : ∀ x y H1, Ex H H1 → P1 x H1 → P2 y H1 → D.nx ((σ.set i (some x)).set j (some y)) H1) : tAsg (tTup (tCons ta (tCons tb tNil))) (gTup K 2 (gCons (gName i) (gCons (gName j) gNil))) D σ H :=
  h1 H (Ex.refl H) _ fun x H1 e1 p1 => h2 H1 e1 _ fun y H2 e2 p2 => ⟨sz_of (show 2 ≤ 100000 by decide), fun a ha => by
    have e3 := Ex.new (o := .tup [x, y]) ha
    exact ⟨a, [x, y], rfl, st_of upd_same, rfl, x, _, rfl, y, _, rfl, rfl, k x y _ ((e1.trans e2).trans e3) (m1 _ _ _ (e2.trans e3) p1) (m2 _ _ _ e3 p2)⟩⟩
theorem q_tup2P {i j : Nat} (h1 : EvP ta σ H P1) (m1 : Mono P1) (h2 : EvP tb σ H P2) (m2 : Mono P2) (k : ∀ x y H1, Ex H H1 → P1 x H1 → P2 y H1 → tz D ((σ.set i (some x)).set j (some y)) H1) : tSeq (tAsg (tTup (tCons ta (tCons tb tNil))) (gTup K 2 (gCons (gName i) (gCons (gName j) gNil)))) tz D σ H := s_tup2P (D := { D with nx := tz D }) h1 m1 h2 m2 k
theorem s_tup3P {i j l : Nat} (h1 : EvP ta σ H P1) (m1 : Mono P1) (h2 : EvP tb σ H P2) (m2 : Mono P2) (h3 : EvP tc σ H P3) (m3 : Mono P3) (k : ∀ x y z H1, Ex H H1 → P1 x H1 → P2 y H1 → P3 z H1 → D.nx (((σ.set i (some x)).set j (some y)).set l (some z)) H1) : tAsg (tTup (tCons ta (tCons tb (tCons tc tNil)))) (gTup K 3 (gCons (gName i) (gCons (gName j) (gCons (gName l) gNil)))) D σ H :=
  h1 H (Ex.refl H) _ fun x H1 e1 p1 => h2 H1 e1 _ fun y H2 e2 p2 => h3 H2 (e1.trans e2) _ fun z H3 e3 p3 => ⟨sz_of (show 3 ≤ 100000 by decide), fun a ha => by
    have e4 := Ex.new (o := .tup [x, y, z]) ha
    exact ⟨a, [x, y, z], rfl, st_of upd_same, rfl, x, _, rfl, y, _, rfl, z, _, rfl, rfl, k x y z _ (((e1.trans e2).trans e3).trans e4) (m1 _ _ _ ((e2.trans e3).trans e4) p1) (m2 _ _ _ (e3.trans e4) p2) (m3 _ _ _ e4 p3)⟩⟩
end
end Pt

namespace Pt
open PySem PySem.Spec PyProof.Rows L2 Evl

/-! ### the top call: no repr is under way (so str of a list can be told) -/
abbrev topX (P : Program) (w : World) (K : PySem.W.Frag) (mg : Str → Option Value) (base : Heap) (N : List Str) (qual : Str) (sc : Scope) (f : Addr) (cdv : Value) (s : Shared) (H : Hp) (E : XK) : Cx := (cxOf CX0 P w K mg base N qual sc f cdv callerA [] s H E).nox
structure TopOk (P : Program) (w : World) (K : PySem.W.Frag) (mg : Str → Option Value) (base : Heap) (k : Nat) (f : Addr) (fd : FuncData) (x : Str) (sp : Sp) : Prop where
  run : ∀ (s : Shared) (H : Hp) (u : Value) (v : V) (Q : VK) (E : XK), Room k callerA → Env0 P w K mg base callerA [] s H → BindsTo s fd ⟨[u], []⟩ [(x, u)] → RelV v u → sp [v] H Q E →
    codeAny (model P w) callerA (.call (.ref f) ⟨[u], []⟩) (CR CX0 [] P w H s Q E) s
theorem Fun.top {P : Program} {w : World} {K : PySem.W.Frag} {mg : Str → Option Value} {base : Heap} {x qual : Str} {st : Stmt} {f : Addr} {fd : FuncData} {N : List Str} {y : Str} {k : Nat} {sp : Sp} (F : Fun K x qual st f fd) (S : FnScope N [y] (defScope st))
    (hbody : ∀ (cdv : Value) (s : Shared) (H : Hp) (v : V) (Q : VK) (E : XK), Room k (callerA.deeper (envOfC qual (defScope st) s.heap.objs.size f cdv)) → sp [v] H Q E →
      ∃ t, PSs (topX P w K mg base N qual (defScope st) f cdv s H E) (defBody st) t ∧ t { nx := fun _ H' => Q .non H', rt := Q } (start N [v]) H) : TopOk P w K mg base (k + 1) f fd y sp := by
  obtain ⟨oc, od, kV, doc, pm, an, cdv, ct, osl, rfl, lk, hcd⟩ := F.ex
  refine ⟨fun s H u v Q E room env bd rel prom => ?_⟩
  have inK : K.In s.heap := env.mod.kin.keeps fun b o e => (env.bs b o e).1
  have param : ∀ z ∈ [(y, u)], (defScope st).names.lookup z.1 = some .local ∨ ((defScope st).names.lookup z.1 = some .cell ∧ ((cellsFrom (s.heap.objs.size + 1) (defScope st).names []).lookup z.1).isSome = true) := by
    intro z hz
    rw [List.mem_singleton.mp hz]
    exact (S.par y List.mem_cons_self).imp id fun q => ⟨q, PySem.W.cellsFrom_some _ _ _ (.inl q)⟩
  refine codeAny_call_function room.depth (inK _ _ lk) rfl S.co S.gen rfl (PySem.W.codeRec_of inK hcd) (bd _ _ _ _ ?_)
  refine wpAny_newFunctionEnv_cells S.kind param fun en he s1 kp => ?_
  subst he
  refine ⟨(env.mod.nolimit.keeps fun b o e => (env.bs b o e).1).keeps kp.toInCall.keep, codeAny_func ?_⟩
  obtain ⟨t, ht, hq⟩ := hbody cdv s H v Q E (room.deeper _) prom
  have I : Inv (cxOf CX0 P w K mg base N qual (defScope st) f cdv callerA [] s H E) [] (start N [v]) H s1 := inv_start S room.hd env rfl (.cons rel .nil) kp
  have ending : ∀ {σ' : L2.St} {H' : Hp} {r : V} {c : Value} {s' : Shared}, Inv (cxOf CX0 P w K mg base N qual (defScope st) f cdv callerA [] s H E) [] σ' H' s' → RelV r c → Q r H' → CE [] P w H s Q c s' := fun J h1 h2 => ⟨_, _, J.os, J.bare, J.base, J.hok, h1, h2⟩
  refine wpAny_mono (ht.nox.run [] s1 (start N [v]) H _ I hq) (fun fl s' hs => ?_) fun e s' hs => hs
  cases fl with
  | next => exact let ⟨_, _, J, q⟩ := hs; ending (r := V.non) (c := Value.none) J rfl q
  | ret c => exact let ⟨_, _, _, J, h1, q⟩ := hs; ending J h1 q
  | brk => exact let ⟨_, _, _, q⟩ := hs; False.elim q
  | cont => exact let ⟨_, _, _, q⟩ := hs; False.elim q
/-- the head -/
theorem top_call {P : Program} {w : World} {K : PySem.W.Frag} {mg mb : Str → Option Value} {k : Nat} {fa a : Addr} {fd : FuncData} {x : Str} {sp : Sp} {s1 : Shared} {vs : List Value} {ns : List Int}
    (inK : K.In s1.heap) (nm : s1.heap.Ns mainGlobals mg) (nb : s1.heap.Ns builtinsNs mb) (bb : ∀ x : Str, x ≠ "__name__" → mb x = bootBuiltins x) (lim : s1.heap.NoLimit) (g0 : s1.gens = #[])
    (ha : s1.heap.get? a = some { cls := .type "list", data := .seq vs.toArray }) (hi : IntsAre vs ns) (hl : ns.length ≤ sizeLine) (room : Room k callerA)
    (F : ∀ base : Heap, K.In base → base.Ns mainGlobals mg → TopOk P w K mg base k fa fd x sp) (bd : ∀ (s : Shared) (u : Value), BindsTo s fd ⟨[u], []⟩ [(x, u)])
    (prom : ∀ H : Hp, SqL K H a (ns.map V.int) → sp [.ref a] H (fun v _ => v = .bl true) fun _ _ _ => False) :
    codeAny (model P w) callerA (.call (.ref fa) ⟨[.ref a], []⟩) (fun r s' => r = .ok (.ret (.bool true)) ∧ OldK s1.heap s'.heap ∧ s'.os = s1.os ∧ AllBare s'.gens) s1 := by
  let sc : Obj := { cls := .type "list", data := .seq vs.toArray }
  have vals := vals_ints hi
  have hlen := hi.length
  -- the script is tracked where it's none of the module's own objects
  let Hs : Hp := fun b => if b = a ∧ K.lookup a = none then some (.frz sc (.lst (ns.map V.int))) else none
  have hs : ∀ b o, Hs b = some o → b = a ∧ K.lookup a = none ∧ o = .frz sc (.lst (ns.map V.int)) := fun b o e => by
    by_cases c : b = a ∧ K.lookup a = none
    · have e2 : some (HO.frz sc (.lst (ns.map V.int))) = some o := (if_pos c).symm.trans e
      exact ⟨c.1, c.2, (Option.some.inj e2).symm⟩
    · have e2 : none = some o := (if_neg c).symm.trans e
      cases e2
  have hn : ∀ b, (b ≠ a ∨ K.lookup a ≠ none) → Hs b = none := fun b c => by
    cases q : Hs b with
    | none => rfl
    | some o => exact (c.elim (fun z => z (hs b o q).1) fun z => z (hs b o q).2.1).elim
  have sq : SqL K Hs a (ns.map V.int) := by
    cases q : K.lookup a with
    | none => exact .inl (.inr ⟨sc, if_pos ⟨rfl, q⟩⟩)
    | some o =>
      have e := inK a o q
      rw [ha] at e
      cases e
      exact .inr ⟨_, vs.toArray, _, q, rfl, rfl, rfl, by rw [List.size_toArray, hlen]; exact hl, by simpa using vals⟩
  have hok : HOk P w Hs s1.heap := fun b o e => by
    obtain ⟨rfl, _, rfl⟩ := hs b o e
    exact ⟨ha, by rw [List.length_map]; exact hl, vs, _, vals, ha⟩
  have keepNs : ∀ {b : Addr} {m : Str → Option Value}, s1.heap.Ns b m → (hidT s1.heap Hs).Ns b m := fun {b m} ⟨o, es, ep, e, d, r⟩ => ⟨o, es, ep, hidT_get e (hn b (.inl fun z => by
    subst z
    rw [ha] at e
    cases e
    cases d)), d, r⟩
  have inB : K.In (hidT s1.heap Hs) := fun b o e => hidT_get (inK b o e) (hn b (by
    by_cases z : b = a
    · subst z
      exact .inr (by rw [e]; simp)
    · exact .inl z))
  have env : Env0 P w K mg (hidT s1.heap Hs) callerA [] s1 Hs := ⟨rfl, ⟨inB, keepNs nm, ⟨mb, keepNs nb, bb⟩, let ⟨mc, h1, h2⟩ := lim; ⟨mc, keepNs h1, h2⟩⟩, fun b o e => of_hidT e, Nat.le_of_eq (hidT_size _ _), trivial, fun b hb => absurd (show b ∈ ([] : List Addr) from hb) (by simp), hok, .of_eq g0⟩
  refine codeAny_mono ((F _ inB (keepNs nm)).run s1 Hs (.ref a) (.ref a) _ _ room env (bd s1 (.ref a)) rfl (prom Hs sq)) fun r s' h => ?_
  match r, h with
  | .ok (.ret u), h =>
    obtain ⟨v, H', os, bare, un, hok', rel, q⟩ := h
    obtain rfl : v = .bl true := q
    obtain rfl : u = Value.bool true := rel
    refine ⟨rfl, OldK.of_keep fun b o e => ?_, os, bare⟩
    cases q : Hs b with
    | none => exact un.keep b o e q (fun z => absurd (show b ∈ ([] : List Addr) from z) (by simp)) (by simp)
    | some u =>
      obtain ⟨rfl, _, rfl⟩ := hs b u q
      have z := un.frzs b sc _ q
      rw [ha] at e
      cases e
      exact (hok' b _ z).1
  | .ok .next, h => exact False.elim h
  | .ok .brk, h => exact False.elim h
  | .ok .cont, h => exact False.elim h
  | .error e, h => exact (show False from h).elim
theorem walk_top {l : PySem.W.OpenLaw} {n k : Nat} {q : Program} {loose : List Str} {XP : (Str → Option Value) → Heap → Prop} {YP : World → Heap → Prop} {d : DefRec} {K : Params → PySem.W.Frag} {sp : World → Sp} {x : Str}
    (hn : l.most = some n) (hn2 : n ≤ sizeLine) (hdf : d.params.defaults = []) (hr : Room k callerA) (hY : ∀ (w : World) (h : Heap), YP w h → (K w.params).In h)
    (F : ∀ (w : World) (mg : Str → Option Value) (fa : Addr) (h : Heap), (K w.params).In h → h.Ns mainGlobals mg → mg d.name = some (.ref fa) →
      ∃ fd : FuncData, (∀ (s : Shared) (u : Value), BindsTo s fd ⟨[u], []⟩ [(x, u)]) ∧ ∀ base : Heap, (K w.params).In base → base.Ns mainGlobals mg → TopOk l.prog w (K w.params) mg base k fa fd x (sp w))
    (hsp : ∀ (w : World) (H : Hp) (a : Addr) (ns : List Int), ns.length ≤ n → SqL (K w.params) H a (ns.map V.int) → sp w [.ref a] H (fun v _ => v = .bl true) fun _ _ _ => False) :
    PySem.W.WalkO q loose XP YP l.row.toRowW d [] (fun f vs => PySem.call f vs) := by
  refine Att.attach_call hn hdf fun w s0 s1 mg mb fa o pm cd doc a vs ns G Y ho hd hcd hmg hobj hints hlen hg => ?_
  obtain ⟨fd, bd, hF⟩ := F w mg fa _ (hY w _ Y) G.T.g hmg
  exact top_call (hY w _ Y) G.T.g G.T.b G.T.builtins G.T.nolimit hg hobj hints (Nat.le_trans hlen hn2) hr hF bd fun H hS => hsp w H a ns hlen hS
/-! ### str of a list of data -/
def rStrD (K : PySem.W.Frag) : List V → Hp → VK → Prop := fun xs H Q => ∃ (a : Addr) (d : PyData), xs = [.ref a] ∧ Dp K H (.ref a) d ∧ d.showable = true ∧ d.hasDict = false ∧ d.shown.length ≤ sizeLine ∧ d.depth ≤ 60 ∧ Q (.str d.shown) H
theorem cr_strD {X : Cx} (hg : X.A.guards = some []) (hu : X.A.units + 64 < cLine) : CallR X (.type "str") (rStrD X.K) := by
  intro pins s σ H xs us Q I r h
  obtain ⟨a, d, rfl, hd, h1, h2, h3, h4, q⟩ := h
  rw [Vals.ref1 r]
  obtain ⟨as, rd⟩ := Dp.reads I d (.ref a) (.ref a) hd rfl
  exact str_of_reads rd h1 (PyData.noDict_hsm h2) hg (by omega) (fun _ _ e => e) (fun h' u tk k => ⟨.str d.shown, H, I.kept k, ⟨_, rfl⟩, q⟩) h3
end Pt

namespace Pt
open PySem PySem.Spec PyProof.Rows L2 Evl

/-! ### enumerate(text) -/
def IteS (x : Str) : L2.It := ⟨fun i _ => i < x.cps.size, fun i H v H' => ∃ T c, v = .ref T ∧ H T = none ∧ H' = upd H T (.tup [.int (i : Nat), .str ⟨#[c]⟩]) ∧ x.cps[i]? = some c, fun i _ => i = x.cps.size⟩
theorem draws_str {P : Program} {w : World} {A : Around} {it : Addr} {x : Str} {t : Tok} {ty : String} (hh : A.handled = none) (hty : ty = "str_ascii_iterator" ∨ ty = "str_iterator") : Draws P w A it [it] x.cps.size (SignAt x) (fun i h => h.IsStrIter it ty x t i) := by
  rcases hty with e | e
  · rw [e]; exact Draws.strAscii hh it x t
  · rw [e]; exact Draws.strWide hh it x t
theorem turn_enumS {P : Program} {w : World} {K : PySem.W.Frag} {elts : List Expr} {kk : Nat} {tpos : Pos} (e it : Addr) (x : Str) (t : Tok) (ty : String) (hty : ty = "str_ascii_iterator" ∨ ty = "str_iterator") :
    Turn P w K (.Tuple elts kk tpos) (IteS x) [e, it] e (fun i h => (∃ old, IsEnum h e it ((i : Nat) : Int) old) ∧ h.IsStrIter it ty x t i ∧ e ≠ it) where
  mem := by simp
  obj := fun i h st b hb => by
    obtain ⟨⟨old, he⟩, ⟨o, ho, hc, hd⟩, _⟩ := st
    rcases List.mem_cons.mp hb with z | z
    · subst z; exact ⟨_, he, fun v q => nomatch q⟩
    · rw [List.mem_singleton.mp z]; exact ⟨o, ho, fun v q => by rw [hd] at q; cases q⟩
  keep := fun i h h' st k => let ⟨⟨old, he⟩, ⟨o, ho, r⟩, ne⟩ := st; ⟨⟨old, k e (by simp) _ he⟩, ⟨o, k it (by simp) o ho, r⟩, ne⟩
  item := by
    intro X hP hw hK hc i pins s σ H E I hf st hg
    subst hP hw hK
    obtain ⟨⟨old, he⟩, hit, hne⟩ := st
    have hel : e < s.heap.objs.size := Heap.lt_size he
    have hil : it < s.heap.objs.size := by obtain ⟨_, q, _⟩ := hit; exact Heap.lt_size q
    have fresh := I.hok.fresh (Nat.le_refl s.heap.objs.size)
    refine wpAny_pyNext_enum_itemD (draws_str (I.ok.hd hc) hty) he hit hg hne (by simpa using hne) fun y h1 tk hy ho hit' hT hsz hk => ?_
    obtain ⟨c, u, hcx, rfl⟩ := hy
    refine ⟨_, rfl, wpAny_letOwnedTupleGo_enum (s := { s with heap := h1, toks := tk + 1 }) ho fun h2 he' sb => ?_⟩
    have hT2 : h2.get? s.heap.objs.size = some { cls := .type "tuple", data := .seq #[.int i tk, .str ⟨#[c]⟩ u] } := (sb.2 _ (Nat.ne_of_gt hel)).trans hT
    have new : ObjOk X.prog X.w (upd H s.heap.objs.size (.tup [.int (i : Nat), .str ⟨#[c]⟩])) h2 s.heap.objs.size (.tup [.int (i : Nat), .str ⟨#[c]⟩]) :=
      ⟨sz_of (show 2 ≤ 100000 by decide), [.int i tk, .str ⟨#[c]⟩ u], .cons ⟨_, rfl⟩ (.cons ⟨_, rfl⟩ .nil), ⟨_, hT2, rfl, _, rfl⟩⟩
    have keepO : ∀ b ob, b ∉ [e, it] → s.heap.get? b = some ob → h2.get? b = some ob := fun b ob hb q => (sb.2 b (fun z => hb (by simp [z]))).trans (hk b ob (fun z => hb (by simp [z])) (fun z => hb (by simp [z])) q)
    have I1 : Inv X pins σ (upd H s.heap.objs.size (.tup [.int (i : Nat), .str ⟨#[c]⟩])) { s with heap := h2, toks := tk + 1 } := I.turnedNew (ch := [e, it]) keepO hf (Nat.le_refl _) new
    refine ⟨.ref s.heap.objs.size, _, I1, rfl, ⟨_, c, rfl, fresh, rfl, hcx⟩, ⟨⟨.str ⟨#[c]⟩ u, ?_⟩, ?_, hne⟩, fun b hb => ?_⟩
    · have e1 : ((i + 1 : Nat) : Int) = (i : Int) + 1 := by omega
      rw [e1]
      exact he'
    · obtain ⟨o, q1, q2⟩ := hit'
      exact ⟨o, (sb.2 it (Ne.symm hne)).trans q1, q2⟩
    · have hb' : b < s.heap.objs.size := by
        rcases List.mem_cons.mp hb with z | z
        · rw [z]; exact hel
        · rw [List.mem_singleton.mp z]; exact hil
      rw [upd_ne (Nat.ne_of_lt hb')]
      exact (hf b hb).1
  done := by
    intro X hP hw hK hc i pins s σ H E I hf st hg
    subst hP hw hK
    obtain ⟨⟨old, he⟩, hit, hne⟩ := st
    obtain ⟨f0, f1, f2, f3, f4, f5⟩ := hf it (by simp)
    have hge : i = x.cps.size := hg
    subst hge
    exact wpAny_pyNext_enum_endD (draws_str (I.ok.hd hc) hty) he hit fun h' eb => ⟨rfl, I.turned (t' := s.toks) (fun b o hb q => eb b o hb q) f0 f1 f3 f4 f5⟩
  self := fun A i s Q E st h => let ⟨⟨_, he⟩, _⟩ := st; wpAny_pyIter_enum he h
def iEnumS (ta : TA) : TI := fun σ H R => ta σ H fun vs H1 => ∃ x, vs = [.str x] ∧ R (IteS x) H1
theorem pi_enumS {X : Cx} {e : Expr} {ta : TA} {p pos tpos : Pos} {elts : List Expr} {kk : Nat} (hg : Gl X "enumerate") (hm : X.mg "enumerate" = none) (ha : PA X [e] ta) (hs : starEach [e] X.env = [(false, eval e X.env)] := by rfl) :
    PI X (.Tuple elts kk tpos) (.Call (.Name "enumerate" p) [e] [] pos) (iEnumS ta) := by
  refine ⟨fun pins s σ H R I h => ?_⟩
  refine Call_ (ld_blt I hg hm boot_enumerate (PyProof.Rows.callWith_type1 (thn (ha.run pos pins s σ H _ I h) fun us s1 ⟨vs, H1, I1, r1, q1⟩ => ?_) hs rfl))
  obtain ⟨x, ex, q⟩ := q1
  subst ex
  obtain ⟨u, rfl, ru⟩ := r1.one
  obtain ⟨t, rfl⟩ := ru
  refine call_enumerate_str fun h' he hit hsz hk => wpAny_pyIter_enum he ?_
  have I2 : Inv X pins σ H1 { s1 with heap := h' } := I1.kept (t' := s1.toks) hk
  refine ⟨s1.heap.objs.size + 1, [s1.heap.objs.size + 1, s1.heap.objs.size], _, _, H1, rfl, I2, turn_enumS (s1.heap.objs.size + 1) s1.heap.objs.size x t (strIterType x) (by unfold strIterType; split <;> simp), ⟨⟨.none, he⟩, hit, Nat.succ_ne_self _⟩, fun b hb => ?_, q⟩
  have hle : s1.heap.objs.size ≤ b := by
    rcases List.mem_cons.mp hb with z | z
    · rw [z]; exact Nat.le_add_right _ _
    · rw [List.mem_singleton.mp z]; exact Nat.le_refl _
  exact I1.fpOk hle (I1.hok.fresh hle)
theorem wk_enumS {own : List Addr} {σ : L2.St} {H : Hp} {w : W} {te : TE} (h : Ev te σ H (S w)) : Wk own (iEnumS (tCons te tNil)) σ H (List.range w.length) (fun i x H' => ∃ c, w[i]? = some c ∧ It H' x (.tuple [dN i, dS [c]])) := fun H1 e R r =>
  h H1 e _ fun H2 e2 => ⟨mkS w, rfl, r _ H2 e2 fun H3 k i => by
    have ez : (mkS w).cps.size = w.length := by simp
    refine ⟨fun a ha => ?_, fun hi => ?_⟩
    · obtain ⟨rfl, hi⟩ := range_at ha
      refine ⟨(by show a < (mkS w).cps.size; rw [ez]; exact hi), fun x H' y => ?_⟩
      obtain ⟨T, c, rfl, hT, rfl, hc⟩ := y
      have hc' : w[a]? = some c := by
        have h9 : w.toArray[a]? = some c := hc
        rwa [List.getElem?_toArray] at h9
      exact ⟨Ex.new hT, c, hc', .tup upd_same (.cons (.int _) (.cons (.str _) .nil))⟩
    · rw [hi, List.length_range]
      exact ez.symm⟩
end Pt

namespace Pt
open PySem PySem.Spec PyProof.Rows L2 Evl

/-! ### all rows of letters -/
abbrev ab4 : List Nat := [97, 98, 99, 100]
def rows : Nat → List W
  | 0 => [[]]
  | n + 1 => (rows n).flatMap fun r => ab4.map fun c => r ++ [c]
theorem rows_len (n : Nat) : (rows n).length = 4 ^ n := by
  induction n with
  | zero => rfl
  | succ n ih =>
    rw [rows, List.length_flatMap]
    have : ∀ l : List W, (l.map fun r => (ab4.map fun c => r ++ [c]).length).sum = 4 * l.length := fun l => by
      induction l with
      | nil => rfl
      | cons a l ih =>
        rw [List.map_cons, List.sum_cons, ih]
        show 4 + 4 * l.length = 4 * (l.length + 1)
        omega
    rw [this, ih, Nat.pow_succ, Nat.mul_comm]
theorem mem_rows {n : Nat} : ∀ {r : W}, r ∈ rows n ↔ r.length = n ∧ r.all abcd = true := by
  induction n with
  | zero =>
    intro r
    rw [rows, List.mem_singleton]
    exact ⟨fun h => by subst h; exact ⟨rfl, rfl⟩, fun h => List.eq_nil_of_length_eq_zero h.1⟩
  | succ n ih =>
    intro r
    rw [rows, List.mem_flatMap]
    constructor
    · rintro ⟨p, hp, h⟩
      obtain ⟨c, hc, rfl⟩ := List.mem_map.mp h
      obtain ⟨h1, h2⟩ := ih.mp hp
      refine ⟨by rw [List.length_append, h1]; rfl, ?_⟩
      rw [List.all_append, h2]
      show (true && (abcd c && true)) = true
      rw [show abcd c = true from decide_eq_true hc]; rfl
    · rintro ⟨h1, h2⟩
      have hne : r ≠ [] := fun e => by subst e; cases h1
      rw [← List.dropLast_concat_getLast hne] at h1 h2 ⊢
      rw [List.all_append] at h2
      obtain ⟨h3, h4⟩ := Bool.and_eq_true_iff.mp h2
      refine ⟨_, ih.mpr ⟨?_, h3⟩, List.mem_map.mpr ⟨_, ?_, rfl⟩⟩
      · rw [List.length_append] at h1
        exact Nat.succ.inj h1
      · have h5 : (abcd (r.getLast hne) && true) = true := h4
        rw [Bool.and_true] at h5
        exact of_decide_eq_true h5
/-- those that stand scattered, each with how often -/
def rowsC (w : W) (n : Nat) : Cs := ((rows n).map fun r => (r, sc w r)).filter fun p => decide (0 < p.2)
/-! ### how many in all -/
def ch : Nat → Nat → Nat
  | _, 0 => 1
  | 0, _ + 1 => 0
  | n + 1, k + 1 => ch n (k + 1) + ch n k
theorem ch_zero (n : Nat) : ch n 0 = 1 := by cases n <;> rfl
theorem ch_none {n : Nat} : ∀ {k : Nat}, n < k → ch n k = 0 := by
  induction n with
  | zero => intro k h; cases k with
    | zero => exact absurd h (by omega)
    | succ k => rfl
  | succ n ih => intro k h; cases k with
    | zero => exact absurd h (by omega)
    | succ k => rw [ch, ih (by omega), ih (by omega)]
theorem ch_abs (n : Nat) : ∀ k : Nat, ch (n + 1) (k + 1) * (k + 1) = (n + 1) * ch n k := by
  induction n with
  | zero =>
    intro k
    cases k with
    | zero => rfl
    | succ k => rw [ch_none (n := 0 + 1) (by omega), ch_none (n := 0) (by omega), Nat.zero_mul, Nat.mul_zero]
  | succ n ih =>
    intro k
    rw [show ch (n + 1 + 1) (k + 1) = ch (n + 1) (k + 1) + ch (n + 1) k from rfl, Nat.add_mul, ih k]
    cases k with
    | zero => rw [ch_zero, ch_zero]; omega
    | succ j =>
      have h := ih j
      have e : ch (n + 1) (j + 1) * (j + 1 + 1) = ch (n + 1) (j + 1) * (j + 1) + ch (n + 1) (j + 1) := Nat.mul_succ _ _
      rw [e, h, ← Nat.add_assoc, ← Nat.mul_add, show ch n (j + 1) + ch n j = ch (n + 1) (j + 1) from rfl]
      exact (Nat.succ_mul (n + 1) _).symm
theorem ch_mul (n k : Nat) : ch n (k + 1) * (k + 1) = ch n k * (n - k) := by
  by_cases hk : n < k
  · rw [ch_none (by omega : n < k + 1), ch_none hk, Nat.zero_mul, Nat.zero_mul]
  · have h := ch_abs n k
    rw [show ch (n + 1) (k + 1) = ch n (k + 1) + ch n k from rfl, Nat.add_mul] at h
    have e : (n + 1) * ch n k = ch n k * (n - k) + ch n k * (k + 1) := by
      rw [← Nat.mul_add, Nat.mul_comm]
      congr 1
      omega
    omega
theorem sum_flat {α : Type} (f : α → List Nat) (l : List α) : (l.flatMap f).sum = (l.map fun x => (f x).sum).sum := by
  induction l with
  | nil => rfl
  | cons a r ih => rw [List.flatMap_cons, List.sum_append, ih]; rfl
theorem sum_pick {c : Nat} (hc : c ∈ ab4) (x : Nat) : (ab4.map fun d => if c = d then x else 0).sum = x := by
  simp only [ab4, List.mem_cons, List.not_mem_nil, or_false] at hc
  rcases hc with rfl | rfl | rfl | rfl <;> simp
theorem rows_sum_rev : ∀ (u : W), u.all abcd = true → ∀ n, ((rows n).map (sc u.reverse)).sum = ch u.length n
  | [], _, 0 => rfl
  | [], _, n + 1 => by
    have : ∀ l : List W, (∀ r ∈ l, r ≠ []) → (l.map (sc [])).sum = 0 := fun l => by
      induction l with
      | nil => exact fun _ => rfl
      | cons r l ih =>
        intro h
        rw [List.map_cons, List.sum_cons, ih fun x hx => h x (List.mem_cons_of_mem _ hx)]
        cases r with
        | nil => exact absurd rfl (h [] List.mem_cons_self)
        | cons a r => rfl
    exact this _ fun r hr e => by
      have := (mem_rows.mp hr).1
      subst e
      cases this
  | c :: u, _, 0 => by
    show sc _ [] + 0 = _
    rw [sc_nil, ch_zero]
  | c :: u, h, n + 1 => by
    have h' : (abcd c && u.all abcd) = true := h
    obtain ⟨hc, hu⟩ := Bool.and_eq_true_iff.mp h'
    have i1 := rows_sum_rev u hu (n + 1)
    have i2 := rows_sum_rev u hu n
    rw [List.reverse_cons, List.length_cons, ch, ← i1, ← i2, rows, List.map_flatMap, List.map_flatMap, sum_flat, sum_flat, ← sum_map_add]
    congr 1
    refine List.map_congr_left fun q _ => ?_
    rw [List.map_map, List.map_map]
    have e : (sc (u.reverse ++ [c]) ∘ fun d => q ++ [d]) = fun d => sc u.reverse (q ++ [d]) + if c = d then sc u.reverse q else 0 := by
      funext d
      exact sc_snoc _ _ _ _
    rw [e, sum_map_add, sum_pick (of_decide_eq_true hc)]
    rfl
theorem rows_sum {w : W} (hw : w.all abcd = true) (n : Nat) : ((rows n).map (sc w)).sum = ch w.length n := by
  have := rows_sum_rev w.reverse (by rw [List.all_reverse]; exact hw) n
  rwa [List.reverse_reverse, List.length_reverse] at this
theorem rowsC_sum {w : W} (hw : w.all abcd = true) (n : Nat) : ((rowsC w n).map (·.2)).sum = ch w.length n := by
  rw [← rows_sum hw, rowsC]
  generalize rows n = l
  induction l with
  | nil => rfl
  | cons r l ih =>
    rw [List.map_cons, List.map_cons, List.sum_cons, ← ih, List.filter_cons]
    by_cases h : 0 < sc w r
    · rw [if_pos (by simpa using h)]; rfl
    · rw [if_neg (by simpa using h)]
      show _ = sc w r + _
      omega
theorem mem_rowsC {w : W} {n : Nat} {p : W × Nat} (h : p ∈ rowsC w n) : p.1 ∈ rows n ∧ p.2 = sc w p.1 ∧ 0 < p.2 := by
  obtain ⟨h1, h2⟩ := List.mem_filter.mp h
  obtain ⟨r, hr, rfl⟩ := List.mem_map.mp h1
  exact ⟨hr, rfl, of_decide_eq_true h2⟩
theorem rowsC_len (w : W) (n : Nat) : (rowsC w n).length ≤ 4 ^ n := by
  refine Nat.le_trans (List.length_filter_le _ _) ?_
  rw [List.length_map, rows_len]
  exact Nat.le_refl _
/-! ### what can be shown -/
structure ShowOk (d : PyData) : Prop where
  s : d.showable = true
  n : d.hasDict = false
  z : d.shown.length ≤ sizeLine
  d : d.depth ≤ 60
theorem log_small {n : Nat} (h : n < 10 ^ 12) : n.log2 < 41 := by
  by_cases h0 : n = 0
  · subst h0; decide
  · exact (Nat.log2_lt h0).mpr (Nat.lt_trans h (by decide))
theorem show_cs {c : Cs} (h : ∀ p ∈ c, p.1.all abcd = true ∧ p.1.length ≤ 60 ∧ p.2 < 10 ^ 12) (hl : c.length ≤ 1000) : ShowOk (.list (c.map dP)) := by
  have sh : Sh 2 (.list (c.map dP)) := sh_cs fun p hp => (h p hp).1
  have all : ∀ {c : Cs}, (∀ p ∈ c, p.1.all abcd = true ∧ p.1.length ≤ 60 ∧ p.2 < 10 ^ 12) → PyData.showableAll (c.map dP) = true ∧ PyData.weightAll (c.map dP) ≤ c.length * 200 ∧ PyData.intsShortAll 13 (c.map dP) = true := by
    intro c
    induction c with
    | nil => exact fun _ => ⟨rfl, Nat.zero_le _, rfl⟩
    | cons p c ih =>
      intro h
      obtain ⟨i1, i2, i3⟩ := ih fun x hx => h x (List.mem_cons_of_mem _ hx)
      obtain ⟨h1, h2, h3⟩ := h p List.mem_cons_self
      have hlog := log_small h3
      refine ⟨?_, ?_, ?_⟩
      · show (PyData.showable (dP p) && _) = true
        rw [i1]
        show ((true && (decide (((p.2 : Int)).natAbs.log2 < 1920) && true)) && true) = true
        rw [decide_eq_true (by rw [Int.natAbs_natCast]; omega)]; rfl
      · show PyData.weight (dP p) + 1 + _ ≤ _
        have hw : PyData.weight (dP p) ≤ 110 := by
          show (p.1.toArray.size + 1 + ((if ((p.2 : Int)) == 0 then 0 else ((p.2 : Int)).natAbs.log2 + 1) + 1 + 0)) ≤ 110
          rw [List.size_toArray, Int.natAbs_natCast]
          split <;> omega
        rw [List.length_cons]
        omega
      · show (PyData.intsShort 13 (dP p) && _) = true
        rw [i3]
        show ((true && (decide ((PyData.shown (.int (p.2 : Int))).length ≤ 13) && true)) && true) = true
        rw [decide_eq_true (PyData.shown_int_le (by rw [Int.natAbs_natCast]; exact h3))]; rfl
  obtain ⟨h1, h2, h3⟩ := all h
  refine ⟨h1, PyData.hasDict_of_canLay _ sh.1, ?_, Nat.le_trans sh.2 (by decide)⟩
  refine Nat.le_trans (shown_le13 ?_ h3) (by decide)
  unfold PyData.layable0
  rw [sh.1, decide_eq_true (Nat.le_trans sh.2 (by decide)), decide_eq_true]
  · rfl
  · show PyData.weightAll _ ≤ _
    have : 2 ^ 20 = 1048576 := by decide
    omega
section
variable {K : PySem.W.Frag} {σ : L2.St} {H : Hp} {te : TE}
theorem ev_strD {ds : List PyData} (h : EvP te σ H (isL ds)) (s : ShowOk (.list ds)) : Ev (tCB (rStrD K) (tCons te tNil)) σ H (.str (PyData.list ds).shown) := ev_cbV (eap_cons h mono_L eap_nil) fun vs H2 e2 hp Q q => by
  obtain ⟨v, r, rfl, ⟨a, rfl, hl⟩, rfl⟩ := hp
  exact ⟨a, _, rfl, hl.dp, s.s, s.n, s.z, s.d, q⟩
end
theorem k_strD {X : Cx} {K : PySem.W.Frag} (hg : X.A.guards = some []) (hu : X.A.units + 64 < cLine) (h : X.K = K := by rfl) : CallR X (.type "str") (rStrD K) := h ▸ cr_strD hg hu
/-! ### promises -/
def spRowsTo : Sp := fun vs H Q _ => ∃ n : Nat, vs = [vN n] ∧ n ≤ 8 ∧ RetL ((rows n).map dS) H Q
def spRowsOf : Sp := fun vs H Q _ => ∃ (w : W) (n : Nat), vs = [S w, vN n] ∧ Word 60 w ∧ n ≤ 3 ∧ RetL ((rowsC w n).map dP) H Q
def spLawScattered : Sp := fun vs H Q _ => ∃ (w q : W), vs = [S w, S q] ∧ w.length ≤ 1000 ∧ q.length ≤ 1000 ∧ RetV (vN (sc w q)) H Q
def spLawChosen : Sp := fun vs H Q _ => ∃ (n k : Nat), vs = [vN n, vN k] ∧ n ≤ 60 ∧ k ≤ 10 ∧ RetV (vN (ch n k)) H Q
def wys (w q : W) : List Nat := (List.range (w.length + 1)).map fun i => sc (w.take i) q
theorem wys_get (w q : W) {i : Nat} (h : i ≤ w.length) : (wys w q)[i]? = some (sc (w.take i) q) := by
  rw [wys, List.getElem?_map, List.getElem?_range (by omega)]; rfl
theorem wys_nil (w : W) : wys w [] = List.replicate (w.length + 1) 1 := by
  refine List.eq_replicate_iff.mpr ⟨by simp [wys], fun b hb => ?_⟩
  obtain ⟨i, hi, rfl⟩ := List.mem_map.mp hb
  exact sc_nil _
end Pt

namespace Pt
open PySem PySem.Spec PyProof.Rows L2 Evl
theorem take_succ_map {α β : Type} (f : α → List β) {l : List α} {i : Nat} {a : α} (h : l[i]? = some a) : (l.take (i + 1)).flatMap f = (l.take i).flatMap f ++ f a := by
  rw [List.take_add_one, h, List.flatMap_append]
  simp
theorem flat4_len (l : List W) : (l.flatMap fun r => ab4.map fun c => r ++ [c]).length = 4 * l.length := by
  induction l with
  | nil => rfl
  | cons a l ih => rw [List.flatMap_cons, List.length_append, ih]; show 4 + 4 * l.length = 4 * (l.length + 1); omega
theorem rows_len8 {n : Nat} (h : n ≤ 8) : (rows n).length ≤ 65536 := by
  rw [rows_len]
  exact Nat.pow_le_pow_right (by decide) h
/-- all rows of so many letters, row by row -/
theorem rows_walk {K : PySem.W.Frag} {tl : TE} {n : Nat} {H : Hp} {Q : VK} {D : Ends} (htl : ∀ σ H, Ev tl σ H (S ab4)) (hn : n ≤ 8) (hD : D.rt = Q) (q : RetL ((rows n).map dS) H Q) :
    tSeq (tAsg (tLst (tCons (tC (S [])) tNil)) (gName 1)) (tSeq (tFor (iRng1 (tCons (tVar 0) tNil)) (gName 2) (tSeq (tAsg (tLst tNil) (gName 3)) (tSeq
      (tFor (iU K (tVar 1)) (gName 4) (tDrop (tBM K "list" rExtend (tVar 3) (tCons (tLc (iU K tl) (gName 5) tYes (tOp rAddU (tVar 4) (tVar 5)) [5]) tNil)))) (tAsg (tVar 3) (gName 1))))) (tRet (tVar 1))) D [some (vN n), none, none, none, none, none] H := by
  refine q_asgF (evf_lst (ds := (rows 0).map dS) (eai_cons (ei_str (ev_s [])) eai_nil) (by decide)) fun a0 H1 n0 e1 hl0 => ?_
  refine q_wk (own := []) (wk_rng1 (n := (n : Int)) (ea_cons (ev_var rfl) ea_nil) (by omega)) (fun i σ' H' => ∃ y2 y3 y4 y5 a, σ' = [some (vN n), some (.ref a), y2, y3, y4, y5] ∧ H a = none ∧ Ls H' a ((rows i).map dS)) (fun H2 e2 => ⟨_, _, _, _, a0, rfl, n0, hl0.ex e2⟩) ?_ ?_
  · rintro H2 e2 i c σ' H' x H3 hc k ⟨y2, y3, y4, y5, a, rfl, na, hL⟩ e3 rfl
    obtain ⟨rfl, hi⟩ := range_at hc
    have hi' : c < n := by omega
    have hlen := rows_len8 (n := c) (by omega)
    have hlen1 := rows_len8 (n := c + 1) (by omega)
    have eH : Ex H H' := (e1.trans e2).trans k.ex
    refine q_asgF (evf_lst (ds := []) eai_nil (by decide)) fun l H4 nl e4 hl => ?_
    have nlH : H l = none := fresh_back (eH.trans e3) nl
    have hL4 := (hL.ex e3).ex e4
    have hne : a ≠ l := fun z => by
      obtain ⟨us, g, _⟩ := hL.ex e3
      rw [z, nl] at g
      cases g
    refine q_wk (own := [l]) (wkU_list (ev_var rfl) hL4 (by simpa using hne)).typed (fun j σ' H' => ∃ y4 y5, σ' = [some (vN n), some (.ref a), some (vN c), some (.ref l), y4, y5] ∧ Ls H' l ((((rows c).take j).flatMap fun r => ab4.map fun d => r ++ [d]).map dS)) (fun H5 e5 => ⟨_, _, rfl, hl.ex e5⟩) ?_ ?_
    · rintro H5 e5 j r σ' H6 x H7 hr k6 ⟨y4, y5, rfl, hM⟩ e7 hx
      have hx := hx.str_inv
      subst hx
      have hrl : r.length = c := (mem_rows.mp (List.mem_of_getElem? hr)).1
      have hjl := flat4_len ((rows c).take j)
      have hjl2 := (List.getElem?_eq_some_iff.mp hr).1
      have hrl1 := rows_len (c + 1)
      have hrl2 := rows_len c
      refine s_extend (es := (ab4.map fun d => r ++ [d]).map dS) (ev_var rfl) (hM.ex e7) (EvF.l ?_) ?_ fun H8 us us' e8 h8 hL8 => ⟨?_, _, _, rfl, ?_⟩
      · rw [List.map_map]
        refine evf_map _ (wkU_str (own := []) (htl _ _)) (by decide) (fun _ => rfl) fun d x H9 hd e9 hy => ?_
        subst hy
        exact ei_str (ev_addS (ev_var rfl) (ev_var rfl) (by show r.length + 1 ≤ _; omega))
      · rw [List.length_map, List.length_map, List.length_map, hjl, List.length_take]
        show 4 * _ + 4 ≤ _
        rw [Nat.pow_succ] at hrl1
        omega
      · exact ((k6.then e7).then e8).mut List.mem_cons_self h8 fun _ z => nomatch z
      · rw [take_succ_map _ hr, List.map_append]
        exact hL8
    · rintro H5 e5 σ' H6 k6 ⟨y4, y5, rfl, hM⟩
      rw [List.take_length] at hM
      have e46 : Ek [l] H3 H6 := ((Ek.of e4).then e5).trans k6
      refine s_asg (ev_var rfl) fun H7 e7 => ⟨(k.then e3).trans ((e46.less nl).then e7), _, _, _, _, l, rfl, nlH, ?_⟩
      exact hM.ex e7
  · rintro H2 e2 σ' H' k ⟨y2, y3, y4, y5, a, rfl, na, hL⟩
    rw [List.length_range, Int.toNat_natCast] at hL
    subst hD
    exact s_ret (ev_var rfl) fun H3 e3 => q a H3 na (((e1.trans e2).trans k.ex).trans e3) (hL.ex e3)
/-- how a row stands scattered, by the row's letters -/
theorem lscat_walk {K : PySem.W.Frag} {wd row : W} {H : Hp} {Q : VK} {D : Ends} (hw : wd.length ≤ 1000) (hq : row.length ≤ 1000) (hD : D.rt = Q) (q : RetV (vN (sc wd row)) H Q) :
    tSeq (tAsg (tOp rMulU (tLst (tCons (tC (.int 1)) tNil)) (tOp rAddU (tCB (rLenU K) (tCons (tVar 0) tNil)) (tC (.int 1)))) (gName 2)) (tSeq (tFor (iU K (tVar 1)) (gName 3) (tSeq (tAsg (tLst (tCons (tC (.int 0)) tNil)) (gName 4)) (tSeq
      (tFor (iEnumS (tCons (tVar 0) tNil)) (gTup K 2 (gCons (gName 5) (gCons (gName 6) gNil))) (tDrop (tBM K "list" rAppend (tVar 4) (tCons (tOp rAddU (tOp (rIx K) (tVar 4) (tUn (rU fun i => .int (-i)) (tC (.int 1)))) (tIf (tB (tOp (rEqU K) (tVar 6) (tVar 3))) (tOp (rIx K) (tVar 2) (tVar 5)) (tC (.int 0)))) tNil))))
      (tAsg (tVar 4) (gName 2))))) (tRet (tOp (rIx K) (tVar 2) (tUn (rU fun i => .int (-i)) (tC (.int 1)))))) D [some (S wd), some (S row), none, none, none, none, none] H := by
  refine q_asgF (ds := (wys wd []).map dN) ?_ fun a0 H1 n0 e1 hl0 => ?_
  · rw [wys_nil, List.map_replicate, show wd.length + 1 = ((wd.length : Int) + 1).toNat by omega]
    exact evf_rep1 (d := dI 1) (evf_lst (eai_cons (ei_int ev_c) eai_nil) (by decide)).l (ev_addI (ev_lenS (ev_var rfl) (by omega)) ev_c) (by omega)
  refine q_wk (own := []) (wkU_str (ev_var rfl)) (fun i σ' H' => ∃ y3 y4 y5 y6 a, σ' = [some (S wd), some (S row), some (.ref a), y3, y4, y5, y6] ∧ Ls H' a ((wys wd (row.take i)).map dN)) (fun H2 e2 => ⟨_, _, _, _, a0, rfl, by rw [List.take_zero]; exact hl0.ex e2⟩) ?_ ?_
  · rintro H2 e2 i c σ' H' x H3 hc k ⟨y3, y4, y5, y6, a, rfl, hL⟩ e3 rfl
    have hi := (List.getElem?_eq_some_iff.mp hc).1
    have hrow : row.take (i + 1) = row.take i ++ [c] := by rw [List.take_add_one, hc]; rfl
    refine q_asgF (evf_lst (ds := [dN 0]) (eai_cons (ei_int ev_c) eai_nil) (by decide)) fun l H4 nl e4 hl => ?_
    have hL4 := (hL.ex e3).ex e4
    have hne : a ≠ l := fun z => by
      obtain ⟨us, g, _⟩ := hL.ex e3
      rw [z, nl] at g
      cases g
    refine q_wk (own := [l]) (wk_enumS (ev_var rfl)) (fun j σ' H' => ∃ y5 y6, σ' = [some (S wd), some (S row), some (.ref a), some (S [c]), some (.ref l), y5, y6] ∧ Ls H' l (((wys wd (row.take (i + 1))).take (j + 1)).map dN)) (fun H5 e5 => ⟨_, _, rfl, ?_⟩) ?_ ?_
    · have h1 := wys_get wd (row.take (i + 1)) (Nat.zero_le _)
      rw [List.take_zero, hrow] at h1
      have h0 : sc [] (row.take i ++ [c]) = 0 := by
        cases row.take i with
        | nil => rfl
        | cons a b => rfl
      rw [h0] at h1
      rw [hrow, List.take_add_one, List.take_zero, h1]
      exact hl.ex e5
    · rintro H5 e5 j a3 σ' H6 x H7 ha k6 ⟨y5, y6, rfl, hM⟩ e7 ⟨d, hd, hx⟩
      obtain ⟨rfl, hj⟩ := range_at ha
      refine g_two hx fun v1 v2 i1 i2 => ?_
      have i1 := i1.int_inv
      have i2 := i2.str_inv
      subst i1 i2
      have hstep : sc (wd.take (a3 + 1)) (row.take (i + 1)) = sc (wd.take a3) (row.take (i + 1)) + if d = c then sc (wd.take a3) (row.take i) else 0 := by
        rw [List.take_add_one (l := wd), hd, hrow]
        exact sc_snoc _ _ _ _
      have g1 := wys_get wd (row.take (i + 1)) (i := a3) (by omega)
      have g2 := wys_get wd (row.take (i + 1)) (i := a3 + 1) (by omega)
      have g3 := wys_get wd (row.take i) (i := a3) (by omega)
      have hlen : ((wys wd (row.take (i + 1))).take (a3 + 1)).length = a3 + 1 := by
        rw [List.length_take, wys, List.length_map, List.length_range]; omega
      have hlast : atI (((wys wd (row.take (i + 1))).take (a3 + 1)).map dN) (-1) = some (dN (sc (wd.take a3) (row.take (i + 1)))) := by
        rw [List.take_add_one, g1, List.map_append]
        exact atI_last _ _
      have hM7 := hM.ex e7
      have hL7 : Ls H7 a ((wys wd (row.take i)).map dN) := (((hL4.ex e5).mono k6 (by simpa using hne)).ex e7)
      refine s_append (d := dN (sc (wd.take (a3 + 1)) (row.take (i + 1)))) (ev_var rfl) hM7 (ei_int (ev_is (ev_addI (EvP.int (evi_ixL (evl_var rfl hM7) (ev_neg ev_c) hlast)) (ev_if (v := vN (if d = c then sc (wd.take a3) (row.take i) else 0)) (b := decide (d = c)) (et_is (et_test (ev_eqS (i := [d]) (j := [c]) (ev_var rfl) (ev_var rfl))) (decide_eq_decide.mpr ⟨fun z => List.head_eq_of_cons_eq z, fun z => by rw [z]⟩)) (fun hb => ?_) fun hb => ?_)) ?_)) ?_ fun H8 us us' e8 h8 hL8 => ⟨?_, _, _, rfl, ?_⟩
      · rw [if_pos (of_decide_eq_true hb)]
        exact EvP.int (evi_ixL (evl_var rfl hL7) (ev_var rfl) (atI_nat (by rw [List.getElem?_map, g3]; rfl)))
      · rw [if_neg (of_decide_eq_false hb)]
        exact ev_c
      · rw [hstep, Int.natCast_add]
      · rw [List.length_map, hlen]; omega
      · exact ((k6.then e7).then e8).mut List.mem_cons_self h8 fun _ z => nomatch z
      · rw [List.take_add_one (i := a3 + 1), g2, List.map_append]
        exact hL8
    · rintro H5 e5 σ' H6 k6 ⟨y5, y6, rfl, hM⟩
      have hlen : (wys wd (row.take (i + 1))).length = (List.range wd.length).length + 1 := by rw [wys, List.length_map, List.length_range, List.length_range]
      rw [← hlen, List.take_length] at hM
      have e46 : Ek [l] H3 H6 := ((Ek.of e4).then e5).trans k6
      exact s_asg (ev_var rfl) fun H7 e7 => ⟨(k.then e3).trans ((e46.less nl).then e7), _, _, _, _, l, rfl, hM.ex e7⟩
  · rintro H2 e2 σ' H' k ⟨y3, y4, y5, y6, a, rfl, hL⟩
    rw [List.take_length] at hL
    subst hD
    have g := wys_get wd row (Nat.le_refl _)
    rw [List.take_length] at g
    have hlast : atI ((wys wd row).map dN) (-1) = some (dN (sc wd row)) := by
      have e9 : wys wd row = (wys wd row).take wd.length ++ [sc wd row] := by
        have h1 : (wys wd row).take (wd.length + 1) = wys wd row := List.take_of_length_le (by rw [wys, List.length_map, List.length_range]; exact Nat.le_refl _)
        have h2 : (wys wd row).take (wd.length + 1) = (wys wd row).take wd.length ++ (wys wd row)[wd.length]?.toList := List.take_add_one
        rw [h1, g] at h2
        exact h2
      rw [e9, List.map_append]
      exact atI_last _ _
    exact s_ret (EvP.int (evi_ixL (evl_var rfl hL) (ev_neg ev_c) hlast)) fun H3 e3 => q H3 (((e1.trans e2).trans k.ex).trans e3)
theorem ch_le (n : Nat) : ∀ k, ch n k ≤ 2 ^ n := by
  induction n with
  | zero => intro k; cases k with
    | zero => exact Nat.le_refl 1
    | succ k => exact Nat.zero_le _
  | succ n ih =>
    intro k
    cases k with
    | zero => rw [ch_zero]; exact Nat.one_le_two_pow
    | succ k =>
      have h1 := ih (k + 1)
      have h2 := ih k
      rw [ch, Nat.pow_succ]
      omega
theorem natSum {α : Type} (f : α → Nat) (l : List α) : (l.map fun x => ((f x : Nat) : Int)).sum = (((l.map f).sum : Nat) : Int) := by
  induction l with
  | nil => rfl
  | cons a l ih => rw [List.map_cons, List.sum_cons, ih, List.map_cons, List.sum_cons, Int.natCast_add]
theorem pick_sub (w : W) (lo hi : Option Int) (k : Int) {c : Nat} (h : c ∈ pick w lo hi k) : c ∈ w := by
  obtain ⟨i, _, e⟩ := List.mem_filterMap.mp h
  exact List.mem_of_getElem? e
theorem pick_step {w : W} {k : Int} (hk : 1 ≤ k) : (pick w none none k).length ≤ w.length := by
  unfold pick
  refine Nat.le_trans (List.length_filterMap_le _ _) ?_
  unfold Builtin.Str.strSliceIndices sliceRange
  rw [List.length_map, List.length_range]
  simp only [if_pos (show k > 0 by omega)]
  by_cases h : (0 : Int) < (w.length : Int)
  · rw [if_pos h]
    have h1 : ((w.length : Int) - 0 + k - 1) / k ≤ (w.length : Int) := Int.ediv_le_of_le_mul (by omega) (by
      have := Int.mul_nonneg (show 0 ≤ (w.length : Int) - 1 by omega) (show 0 ≤ k - 1 by omega)
      rw [Int.sub_mul, Int.mul_sub] at this
      omega)
    omega
  · rw [if_neg h]
    exact Nat.zero_le _
theorem pick_word {m : Nat} {w : W} (h : Word m w) {n : Nat} {k : Int} (hk : 1 ≤ k) (e : m ≤ n) : Word n (pick w none none k) := h.sub (fun c hc => pick_sub _ _ _ _ hc) (Nat.le_trans (pick_step hk) (Nat.le_trans h.1 e))
end Pt

namespace Pt
open PySem PySem.Spec PyProof.Rows L2 Evl

/-! ### counts -/
abbrev keys (c : Cs) : List W := c.map (·.1)
def cnt (c : Cs) (w : W) : Nat := ((c.filter fun p => decide (p.1 = w)).map (·.2)).sum
def tot (c : Cs) : Cs := (uni (keys c)).map fun w => (w, cnt c w)
def cfS (c : Cs) : W → Option V := fun w => if w ∈ keys c then some (vN (cnt c w)) else none
theorem cnt_nil (w : W) : cnt [] w = 0 := rfl
theorem cnt_cons (p : W × Nat) (c : Cs) (w : W) : cnt (p :: c) w = (if p.1 = w then p.2 else 0) + cnt c w := by
  unfold cnt
  rw [List.filter_cons]
  by_cases h : p.1 = w
  · rw [if_pos (by simpa using h), if_pos h]; rfl
  · rw [if_neg (by simpa using h), if_neg h, Nat.zero_add]
theorem cnt_app (c d : Cs) (w : W) : cnt (c ++ d) w = cnt c w + cnt d w := by
  induction c with
  | nil => rw [List.nil_append, cnt_nil, Nat.zero_add]
  | cons p c ih => rw [List.cons_append, cnt_cons, cnt_cons, ih, Nat.add_assoc]
theorem cnt_none {c : Cs} {w : W} (h : w ∉ keys c) : cnt c w = 0 := by
  induction c with
  | nil => rfl
  | cons p c ih =>
    have h1 : p.1 ≠ w := fun e => h (List.mem_map.mpr ⟨p, List.mem_cons_self, e⟩)
    rw [cnt_cons, if_neg h1, ih fun z => h (List.mem_cons_of_mem _ z)]
theorem cnt_at {c : Cs} (hn : (keys c).Nodup) {p : W × Nat} (hp : p ∈ c) : cnt c p.1 = p.2 := by
  induction c with
  | nil => cases hp
  | cons q c ih =>
    obtain ⟨h1, h2⟩ := List.nodup_cons.mp hn
    rw [cnt_cons]
    rcases List.mem_cons.mp hp with rfl | hp
    · rw [if_pos rfl, cnt_none h1, Nat.add_zero]
    · have hne : q.1 ≠ p.1 := fun e => h1 (by show q.1 ∈ _; rw [e]; exact List.mem_map.mpr ⟨p, hp, rfl⟩)
      rw [if_neg hne, ih h2 hp, Nat.zero_add]
theorem cfS_get (c : Cs) (p : W) : (cfS c p).getD (.int 0) = vN (cnt c p) := by
  unfold cfS
  by_cases h : p ∈ keys c
  · rw [if_pos h]; rfl
  · rw [if_neg h, cnt_none h]; rfl
theorem cfS_step (c : Cs) (p : W × Nat) : dset (cfS c) p.1 (vN (cnt c p.1 + p.2)) = cfS (c ++ [p]) := by
  funext w
  unfold dset cfS
  rw [cnt_app, cnt_cons, cnt_nil]
  by_cases e : w = p.1
  · subst e
    rw [if_pos rfl, if_pos (by simp [keys]), if_pos rfl, Nat.add_zero]
  · have hne : p.1 ≠ w := fun z => e z.symm
    rw [if_neg e, if_neg hne, Nat.add_zero]
    have h1 : (w ∈ keys (c ++ [p])) ↔ w ∈ keys c := by simp [keys, e]
    by_cases h : w ∈ keys c
    · rw [if_pos h, if_pos (h1.mpr h)]
    · rw [if_neg h, if_neg fun z => h (h1.mp z)]
theorem cfS_some (c : Cs) (w : W) : (cfS c w).isSome = true ↔ w ∈ keys c := by
  unfold cfS
  by_cases h : w ∈ keys c
  · rw [if_pos h]; exact ⟨fun _ => h, fun _ => rfl⟩
  · rw [if_neg h]; exact ⟨fun z => (by cases z), fun z => absurd z h⟩
theorem cfS_at {c : Cs} {w : W} (h : w ∈ keys c) : cfS c w = some (vN (cnt c w)) := if_pos h
theorem keys_tot (c : Cs) : keys (tot c) = uni (keys c) := by
  show ((uni (keys c)).map _).map _ = _
  rw [List.map_map]
  exact List.map_id _
theorem keys_tally (ws : List W) : keys (tally ws) = uni ws := by
  show ((uni ws).map _).map _ = _
  rw [List.map_map]
  exact List.map_id _
theorem cnt_tot (c : Cs) (w : W) : cnt (tot c) w = cnt c w := by
  by_cases h : w ∈ keys c
  · exact cnt_at (p := (w, cnt c w)) (by rw [keys_tot]; exact nodup_uni _) (List.mem_map.mpr ⟨w, mem_uni.mpr h, rfl⟩)
  · rw [cnt_none h, cnt_none (by rw [keys_tot, mem_uni]; exact h)]
theorem cnt_tally (ws : List W) (w : W) : cnt (tally ws) w = ws.count w := by
  by_cases h : w ∈ ws
  · exact cnt_at (p := (w, ws.count w)) (by rw [keys_tally]; exact nodup_uni _) (List.mem_map.mpr ⟨w, mem_uni.mpr h, rfl⟩)
  · rw [List.count_eq_zero.mpr h, cnt_none (by rw [keys_tally, mem_uni]; exact h)]
/-- counts that rise are told by what they count -/
theorem cs_ext {c d : Cs} (hc : Rising (keys c)) (hd : Rising (keys d)) (hk : ∀ w, w ∈ keys c ↔ w ∈ keys d) (hn : ∀ w, cnt c w = cnt d w) : c = d := by
  have e : keys c = keys d := rising_eq hc hd hk
  have key : ∀ {c : Cs}, Rising (keys c) → c = (keys c).map fun w => (w, cnt c w) := fun {c} h => by
    show c = (c.map _).map _
    rw [List.map_map]
    have : c.map ((fun w => (w, cnt c w)) ∘ fun p => p.1) = c.map id := List.map_congr_left fun p hp => by
      show (p.1, cnt c p.1) = p
      rw [cnt_at h.nodup hp]
    rw [this, List.map_id]
  rw [key hc, key hd, e]
  exact List.map_congr_left fun w _ => by rw [hn]
theorem rising_tot (c : Cs) : Rising (keys (tot c)) := by rw [keys_tot]; exact rising_uni _
theorem rising_tally (ws : List W) : Rising (keys (tally ws)) := by rw [keys_tally]; exact rising_uni _
theorem tot_tallies (a b : List W) : tot (tally a ++ tally b) = tally (a ++ b) :=
  cs_ext (rising_tot _) (rising_tally _) (fun w => by rw [keys_tot, keys_tally, mem_uni, mem_uni, keys, List.map_append, List.mem_append, List.mem_append]; exact or_congr (by rw [← mem_uni (xs := a), ← keys_tally]) (by rw [← mem_uni (xs := b), ← keys_tally]))
    fun w => by rw [cnt_tot, cnt_app, cnt_tally, cnt_tally, cnt_tally, List.count_append]
/-- how many in all -/
def many (c : Cs) : Nat := (c.map (·.2)).sum
theorem many_app (c d : Cs) : many (c ++ d) = many c + many d := by rw [many, List.map_append, List.sum_append]; rfl
theorem sum_pick1 {L : List W} (hn : L.Nodup) {k : W} (hk : k ∈ L) (x : Nat) : (L.map fun w => if k = w then x else 0).sum = x := by
  induction L with
  | nil => cases hk
  | cons a L ih =>
    obtain ⟨h1, h2⟩ := List.nodup_cons.mp hn
    rw [List.map_cons, List.sum_cons]
    rcases List.mem_cons.mp hk with rfl | hk
    · rw [if_pos rfl]
      have : ∀ l : List W, k ∉ l → (l.map fun w => if k = w then x else 0).sum = 0 := fun l => by
        induction l with
        | nil => exact fun _ => rfl
        | cons b l ih =>
          intro h
          have hne : k ≠ b := fun e => h (by rw [e]; exact List.mem_cons_self)
          rw [List.map_cons, List.sum_cons, if_neg hne, ih fun z => h (List.mem_cons_of_mem _ z)]
      rw [this L h1, Nat.add_zero]
    · have hne : k ≠ a := fun e => h1 (by rw [← e]; exact hk)
      rw [if_neg hne, ih h2 hk, Nat.zero_add]
theorem many_by {L : List W} (hn : L.Nodup) : ∀ {c : Cs}, (∀ k ∈ keys c, k ∈ L) → (L.map (cnt c)).sum = many c
  | [], _ => by
    have : ∀ l : List W, (l.map fun _ => 0).sum = 0 := fun l => by
      induction l with
      | nil => rfl
      | cons a l ih => rw [List.map_cons, List.sum_cons, ih]
    exact this L
  | p :: c, h => by
    have e : cnt (p :: c) = fun w => (if p.1 = w then p.2 else 0) + cnt c w := funext fun w => cnt_cons p c w
    rw [e, sum_map_add, sum_pick1 hn (h p.1 List.mem_cons_self), many_by hn fun k hk => h k (List.mem_cons_of_mem _ hk)]
    rfl
theorem many_tot (c : Cs) : many (tot c) = many c := by
  rw [← many_by (nodup_uni (keys c)) (c := c) fun k hk => mem_uni.mpr hk]
  rw [many, tot, List.map_map]
  rfl
theorem many_tally (ws : List W) : many (tally ws) = ws.length := by
  have h := many_by (nodup_uni ws) (c := ws.map fun w => (w, 1)) fun k hk => by
    obtain ⟨p, hp, rfl⟩ := List.mem_map.mp hk
    obtain ⟨w, hw, rfl⟩ := List.mem_map.mp hp
    exact mem_uni.mpr hw
  have e : ∀ w, cnt (ws.map fun w => (w, 1)) w = ws.count w := fun w => by
    clear h
    induction ws with
    | nil => rfl
    | cons a l ih =>
      rw [List.map_cons, cnt_cons, ih, List.count_cons, Nat.add_comm]
      congr 1
      by_cases z : a = w
      · rw [if_pos z, z]; simp
      · rw [if_neg z]; simp [z]
  have e2 : many (ws.map fun w => (w, 1)) = ws.length := by
    clear h e
    induction ws with
    | nil => rfl
    | cons a l ih =>
      show 1 + many (l.map fun w => (w, 1)) = l.length + 1
      rw [ih]; omega
  rw [funext e, e2] at h
  rw [← h, many, tally, List.map_map]
  rfl
/-- what counts must be -/
structure Good (n : Nat) (c : Cs) : Prop where
  ne : c ≠ []
  lo : 2 ≤ n
  hi : n ≤ 5
  at' : ∀ p ∈ c, p.1.length = n ∧ p.1.all abcd = true ∧ 1 ≤ p.2
  up : Rising (keys c)
  le : many c ≤ 56
theorem le_many {c : Cs} {p : W × Nat} (h : p ∈ c) : p.2 ≤ many c := by
  induction c with
  | nil => cases h
  | cons q c ih =>
    show p.2 ≤ q.2 + many c
    rcases List.mem_cons.mp h with rfl | h
    · omega
    · have := ih h; omega
theorem len_many {c : Cs} (h : ∀ p ∈ c, 1 ≤ p.2) : c.length ≤ many c := by
  induction c with
  | nil => exact Nat.le_refl _
  | cons q c ih =>
    show c.length + 1 ≤ q.2 + many c
    have h1 := h q List.mem_cons_self
    have h2 := ih fun x hx => h x (List.mem_cons_of_mem _ hx)
    omega
theorem Good.len {n : Nat} {c : Cs} (g : Good n c) : c.length ≤ 56 := Nat.le_trans (len_many fun p hp => (g.at' p hp).2.2) g.le
theorem Good.sh {n : Nat} {c : Cs} (g : Good n c) : Sh 2 (.list (c.map dP)) := sh_cs fun p hp => (g.at' p hp).2.1
theorem good_tally {n : Nat} {ws : List W} (h2 : 2 ≤ n) (h5 : n ≤ 5) (hne : ws ≠ []) (h : ∀ w ∈ ws, w.length = n ∧ w.all abcd = true) (hl : ws.length ≤ 56) : Good n (tally ws) where
  ne := fun e => by
    obtain ⟨w, hw⟩ := List.exists_mem_of_ne_nil ws hne
    have : w ∈ keys (tally ws) := by rw [keys_tally, mem_uni]; exact hw
    rw [e] at this
    cases this
  lo := h2
  hi := h5
  at' := fun p hp => by
    obtain ⟨h1, h2⟩ := mem_tally hp
    exact ⟨(h _ h1).1, (h _ h1).2, by rw [h2]; exact List.count_pos_iff.mpr h1⟩
  up := rising_tally ws
  le := by rw [many_tally]; exact hl
theorem good_pcs {n : Nat} {w : W} (h2 : 2 ≤ n) (h5 : n ≤ 5) (hn : n ≤ w.length) (ha : w.all abcd = true) (hl : w.length ≤ 57) : Good n (tally (pcs w n)) :=
  good_tally h2 h5 (fun e => by have := congrArg List.length e; rw [pcs_len] at this; simp at this; omega) (fun p hp => ⟨pcs_long hp, pcs_abcd ha hp⟩) (by rw [pcs_len]; omega)
/-- a word laid over another one by a knot: the pieces of both -/
theorem pcs_lap {u v : W} {n : Nat} (h2 : 2 ≤ n) (hu : n ≤ u.length) (hv : n - 1 ≤ v.length) (hk : v.take (n - 1) = u.drop (u.length - n + 1)) : pcs (u ++ v.drop (n - 1)) n = pcs u n ++ pcs v n := by
  have hx : u ++ v.drop (n - 1) = u.take (u.length - n + 1) ++ v := by
    have h1 : u = u.take (u.length - n + 1) ++ v.take (n - 1) := by rw [hk, List.take_append_drop]
    conv => lhs; rw [h1, List.append_assoc, List.take_append_drop]
  have hlen : (u ++ v.drop (n - 1)).length + 1 - n = (u.length - n + 1) + (v.length + 1 - n) := by
    rw [List.length_append, List.length_drop]; omega
  rw [pcs, hlen, List.range_add, List.map_append, List.map_map]
  congr 1
  · rw [pcs, show u.length + 1 - n = u.length - n + 1 by omega]
    refine List.map_congr_left fun i hi => ?_
    rw [List.mem_range] at hi
    rw [List.take_append_of_le_length (by omega)]
  · rw [pcs]
    refine List.map_congr_left fun i hi => ?_
    show ((u ++ v.drop (n - 1)).take (u.length - n + 1 + i + n)).drop (u.length - n + 1 + i) = _
    rw [hx]
    have hl : (u.take (u.length - n + 1)).length = u.length - n + 1 := by rw [List.length_take]; omega
    rw [show u.length - n + 1 + i + n = (u.take (u.length - n + 1)).length + (i + n) by omega, List.take_length_add_append, show u.length - n + 1 + i = (u.take (u.length - n + 1)).length + i by omega, List.drop_length_add_append]
theorem cfS_more (p : W × Nat) (c : Cs) (k : Nat) : dset (cfS (p :: c)) p.1 (vN (cnt (p :: c) p.1 + k)) = cfS ((p.1, p.2 + k) :: c) := by
  funext w
  unfold dset cfS
  rw [cnt_cons, cnt_cons, cnt_cons]
  by_cases e : w = p.1
  · subst e
    have hk : p.1 ∈ keys ((p.1, p.2 + k) :: c) := List.mem_cons_self
    rw [if_pos rfl, if_pos hk]
    simp only [if_true]
    congr 2
    omega
  · have hne : ¬ p.1 = w := fun z => e z.symm
    rw [if_neg e, if_neg hne]
    show _ = if w ∈ keys ((p.1, p.2 + k) :: c) then some (vN ((if p.1 = w then p.2 + k else 0) + _)) else none
    rw [if_neg hne]
    rfl
/-- what is left of counts behind a piece's -/
theorem tot_left {c d : Cs} {g : W × Nat} (h : ∀ p ∈ c ++ d, 1 ≤ p.2) : ((uni (keys (c ++ (d ++ [g])))).filter fun w => decide (0 < cnt (c ++ d) w)).map (fun w => (w, cnt (c ++ d) w)) = tot (c ++ d) := by
  rw [tot]
  congr 1
  refine rising_eq (List.Pairwise.filter _ (rising_uni _)) (rising_uni _) fun w => ?_
  rw [List.mem_filter, mem_uni, mem_uni]
  constructor
  · rintro ⟨_, h2⟩
    exact Classical.byContradiction fun z => by
      rw [cnt_none z] at h2
      cases h2
  · intro hw
    refine ⟨by rw [← List.append_assoc, keys, List.map_append]; exact List.mem_append_left _ hw, decide_eq_true ?_⟩
    obtain ⟨p, hp, rfl⟩ := List.mem_map.mp hw
    have h1 := h p hp
    have : ∀ {e : Cs}, p ∈ e → p.2 ≤ cnt e p.1 := fun {e} => by
      induction e with
      | nil => intro z; cases z
      | cons q e ih =>
        intro z
        rw [cnt_cons]
        rcases List.mem_cons.mp z with rfl | z
        · rw [if_pos rfl]; omega
        · have := ih z; omega
    have := this hp
    omega
theorem good_tot {n : Nat} {c d : Cs} (g : Good n c) (h : Good n d) (hm : many c + many d ≤ 56) : Good n (tot (c ++ d)) where
  ne := fun e => by
    obtain ⟨p, hp⟩ := List.exists_mem_of_ne_nil c g.ne
    have : p.1 ∈ keys (tot (c ++ d)) := by rw [keys_tot, mem_uni]; exact List.mem_map.mpr ⟨p, List.mem_append_left _ hp, rfl⟩
    rw [e] at this
    cases this
  lo := g.lo
  hi := g.hi
  at' := fun p hp => by
    obtain ⟨w, hw, rfl⟩ := List.mem_map.mp hp
    obtain ⟨q, hq, rfl⟩ := List.mem_map.mp (mem_uni.mp hw)
    have hall : ∀ q ∈ c ++ d, q.1.length = n ∧ q.1.all abcd = true ∧ 1 ≤ q.2 := fun q hq => (List.mem_append.mp hq).elim (g.at' q) (h.at' q)
    refine ⟨(hall q hq).1, (hall q hq).2.1, ?_⟩
    have h1 := (hall q hq).2.2
    have : ∀ {e : Cs}, q ∈ e → q.2 ≤ cnt e q.1 := fun {e} => by
      induction e with
      | nil => intro z; cases z
      | cons r e ih =>
        intro z
        rw [cnt_cons]
        rcases List.mem_cons.mp z with rfl | z
        · rw [if_pos rfl]; omega
        · have := ih z; omega
    exact Nat.le_trans h1 (this hq)
  up := rising_tot _
  le := by rw [many_tot, many_app]; exact hm
theorem good_more {n k : Nat} {p : W × Nat} {c : Cs} (g : Good n (p :: c)) (hm : many (p :: c) + k ≤ 56) : Good n ((p.1, p.2 + k) :: c) where
  ne := by simp
  lo := g.lo
  hi := g.hi
  at' := fun q hq => by
    rcases List.mem_cons.mp hq with rfl | hq
    · have := g.at' p List.mem_cons_self
      exact ⟨this.1, this.2.1, Nat.le_trans this.2.2 (Nat.le_add_right _ _)⟩
    · exact g.at' q (List.mem_cons_of_mem _ hq)
  up := g.up
  le := by
    have e : many (p :: c) = p.2 + many c := rfl
    show p.2 + k + many c ≤ 56
    omega
theorem good_init {n : Nat} {p : W × Nat} {d : Cs} (g : Good n (d ++ [p])) (h : d ≠ []) : Good n d where
  ne := h
  lo := g.lo
  hi := g.hi
  at' := fun q hq => g.at' q (List.mem_append_left _ hq)
  up := by
    have := g.up
    rw [keys, List.map_append] at this
    exact (List.pairwise_append.mp this).1
  le := by
    have := g.le
    rw [many_app] at this
    omega
/-- sums over counts, weighed -/
def wsum (φ : W → Nat) (c : Cs) : Nat := (c.map fun p => φ p.1 * p.2).sum
theorem sum_pick2 {L : List W} (hn : L.Nodup) {k : W} (hk : k ∈ L) (φ : W → Nat) (x : Nat) : (L.map fun w => φ w * if k = w then x else 0).sum = φ k * x := by
  have e : (fun w => φ w * if k = w then x else 0) = fun w => if k = w then φ k * x else 0 := funext fun w => by
    by_cases h : k = w
    · subst h; rw [if_pos rfl, if_pos rfl]
    · rw [if_neg h, if_neg h, Nat.mul_zero]
  rw [e]
  exact sum_pick1 hn hk _
theorem wsum_by {L : List W} (hn : L.Nodup) (φ : W → Nat) : ∀ {c : Cs}, (∀ k ∈ keys c, k ∈ L) → (L.map fun w => φ w * cnt c w).sum = wsum φ c
  | [], _ => by
    have : ∀ l : List W, (l.map fun w => φ w * cnt [] w).sum = 0 := fun l => by
      induction l with
      | nil => rfl
      | cons a l ih => rw [List.map_cons, List.sum_cons, ih, cnt_nil]; rfl
    exact this L
  | p :: c, h => by
    have e : (fun w => φ w * cnt (p :: c) w) = fun w => φ w * (if p.1 = w then p.2 else 0) + φ w * cnt c w := funext fun w => by rw [cnt_cons, Nat.mul_add]
    rw [e, sum_map_add, sum_pick2 hn (h p.1 List.mem_cons_self), wsum_by hn φ fun k hk => h k (List.mem_cons_of_mem _ hk)]
    rfl
theorem wsum_tot (φ : W → Nat) (c : Cs) : wsum φ (tot c) = wsum φ c := by
  rw [← wsum_by (nodup_uni (keys c)) φ (c := c) fun k hk => mem_uni.mpr hk, wsum, tot, List.map_map]
  rfl
def ones (ws : List W) : Cs := ws.map fun w => (w, 1)
theorem keys_ones (ws : List W) : keys (ones ws) = ws := by
  show (ws.map _).map _ = _
  rw [List.map_map]
  exact List.map_id _
theorem cnt_ones (ws : List W) (w : W) : cnt (ones ws) w = ws.count w := by
  induction ws with
  | nil => rfl
  | cons a l ih =>
    show cnt ((a, 1) :: ones l) w = _
    rw [cnt_cons, ih, List.count_cons, Nat.add_comm]
    congr 1
    by_cases z : a = w
    · rw [if_pos z, z]; simp
    · rw [if_neg z]; simp [z]
theorem tot_ones (ws : List W) : tot (ones ws) = tally ws := by
  rw [tot, keys_ones, tally]
  exact List.map_congr_left fun w _ => by rw [cnt_ones]
/-- each piece turned into another -/
def turn (g : W → W) (c : Cs) : Cs := c.map fun p => (g p.1, p.2)
theorem cnt_turn (g : W → W) (c : Cs) (w : W) : cnt (turn g c) w = wsum (fun v => if g v = w then 1 else 0) c := by
  induction c with
  | nil => rfl
  | cons p c ih =>
    have e1 : cnt (turn g (p :: c)) w = (if g p.1 = w then p.2 else 0) + cnt (turn g c) w := cnt_cons _ _ _
    have e2 : wsum (fun v => if g v = w then 1 else 0) (p :: c) = (if g p.1 = w then 1 else 0) * p.2 + wsum (fun v => if g v = w then 1 else 0) c := rfl
    rw [e1, e2, ih]
    by_cases h : g p.1 = w
    · rw [if_pos h, if_pos h, Nat.one_mul]
    · rw [if_neg h, if_neg h, Nat.zero_mul]
theorem cnt_turn_tally (g : W → W) (ws : List W) (w : W) : cnt (turn g (tally ws)) w = (ws.map g).count w := by
  rw [cnt_turn, ← tot_ones, wsum_tot, ← cnt_turn, ← cnt_ones]
  congr 1
  show (ws.map _).map _ = (ws.map g).map _
  rw [List.map_map, List.map_map]
  rfl
theorem keys_turn (g : W → W) (c : Cs) : keys (turn g c) = (keys c).map g := by
  show (c.map _).map _ = (c.map _).map _
  rw [List.map_map, List.map_map]
  rfl
/-- shorter pieces are the longer ones without their last letters, and the word's last ones -/
theorem pcs_short {u : W} {n : Nat} (h1 : 1 ≤ n) (hn : n + 1 ≤ u.length) : pcs u n = (pcs u (n + 1)).map List.dropLast ++ [u.drop (u.length - n)] := by
  rw [pcs, show u.length + 1 - n = (u.length + 1 - (n + 1)) + 1 by omega, List.range_succ, List.map_append, pcs, List.map_map]
  congr 1
  · refine List.map_congr_left fun i hi => ?_
    rw [List.mem_range] at hi
    show (u.take (i + n)).drop i = ((u.take (i + (n + 1))).drop i).dropLast
    rw [List.dropLast_eq_take, List.length_drop, List.length_take, List.drop_take, List.drop_take, List.take_take]
    congr 1
    omega
  · show [(u.take (u.length + 1 - (n + 1) + n)).drop (u.length + 1 - (n + 1))] = _
    rw [show u.length + 1 - (n + 1) + n = u.length by omega, List.take_length, show u.length + 1 - (n + 1) = u.length - n by omega]
theorem tot_short {u : W} {n : Nat} (h1 : 1 ≤ n) (hn : n + 1 ≤ u.length) : tot ((u.drop (u.length - n), 1) :: turn List.dropLast (tally (pcs u (n + 1)))) = tally (pcs u n) :=
  cs_ext (rising_tot _) (rising_tally _) (fun w => by
    rw [keys_tot, keys_tally, mem_uni, mem_uni, pcs_short h1 hn, List.mem_append, List.mem_singleton]
    show w ∈ u.drop _ :: keys (turn _ _) ↔ _
    rw [List.mem_cons, keys_turn, keys_tally, List.mem_map, List.mem_map, or_comm]
    refine or_congr ⟨fun ⟨v, hv, e⟩ => ⟨v, mem_uni.mp hv, e⟩, fun ⟨v, hv, e⟩ => ⟨v, mem_uni.mpr hv, e⟩⟩ Iff.rfl) fun w => by
    rw [cnt_tot, cnt_tally, cnt_cons, cnt_turn_tally, pcs_short h1 hn, List.count_append, Nat.add_comm]
    congr 1
    show (if u.drop (u.length - n) = w then 1 else 0) = _
    by_cases z : u.drop (u.length - n) = w
    · rw [if_pos z, z]; simp
    · rw [if_neg z]; simp [z]
def spCounted (K : PySem.W.Frag) : Sp := fun vs H Q _ => ∃ (x : V) (p : W × Nat), vs = [x] ∧ It H x (dP p) ∧ 2 ≤ p.1.length ∧ p.1.length ≤ 5 ∧ p.1.all abcd = true ∧ 1 ≤ p.2 ∧ p.2 ≤ 56 ∧ RetV (.bl true) H Q
def spCheckCounts : Sp := fun vs H Q _ => ∃ (a : Addr) (n : Nat) (c : Cs), vs = [.ref a] ∧ Ls H a (c.map dP) ∧ Good n c ∧ RetV .non H Q
def spTogether : Sp := fun vs H Q _ => ∃ (a b : Addr) (n : Nat) (c d : Cs), vs = [.ref a, .ref b] ∧ Ls H a (c.map dP) ∧ Ls H b (d.map dP) ∧ Good n c ∧ Good n d ∧ many c + many d ≤ 56 ∧ RetL ((tot (c ++ d)).map dP) H Q
section
variable {K : PySem.W.Frag} {own : List Addr} {σ : L2.St} {H : Hp} {ta tb te : TE} {ds es : List PyData}
theorem ev_lenT {ds : List PyData} (ha : EvP ta σ H (isI (.tuple ds))) : Ev (tCB (rLenU K) (tCons ta tNil)) σ H (.int (ds.length : Int)) := ev_cbV (eap_cons ha mono_I eap_nil) fun vs H2 _ hp Q q => by
  obtain ⟨v, r, rfl, hi, rfl⟩ := hp
  cases hi with
  | tup h1 h2 => exact ⟨_, ds.length, rfl, .inr ⟨_, st_of h1, h2.length.symm⟩, q⟩
/-- zip of two lists, in a pair's names -/
theorem wk_zip (h : EvAP (tCons ta (tCons tb tNil)) σ H (fun vs H2 => ∃ a b, vs = [.ref a, .ref b] ∧ a ∉ own ∧ b ∉ own ∧ Ls H2 a ds ∧ Ls H2 b es)) (hl : es.length ≤ ds.length) {m : Nat} (hm : es.length = m) : Wk own (iZip K (tCons ta (tCons tb tNil))) σ H (List.range m) (fun i x H' => ∃ d e, ds[i]? = some d ∧ es[i]? = some e ∧ It H' x (.tuple [d, e])) := fun H1 e R r =>
  h H1 e _ fun vs H2 e2 ⟨a, b, ev, na, nb, ha, hb⟩ => by
    subst hm
    obtain ⟨us, g1, g2⟩ := ha
    obtain ⟨ws, k1, k2⟩ := hb
    refine ⟨a, b, us, ws, ev, sq_of g1, sq_of k1, r _ H2 e2 fun H3 k i => ?_⟩
    have g1' := k.1 a _ na g1
    have k1' := k.1 b _ nb k1
    have g2' := Its.mono k _ _ g2
    have k2' := Its.mono k _ _ k2
    refine ⟨fun d hd => ?_, fun hi => ⟨us, ws, sq_of g1', sq_of k1', .inr (by rw [k2.length, hi, List.length_range]; exact Nat.le_refl _)⟩⟩
    obtain ⟨rfl, hi⟩ := range_at hd
    obtain ⟨x, hx, ix⟩ := g2'.at (List.getElem?_eq_getElem (show d < ds.length by omega))
    obtain ⟨y, hy, iy⟩ := k2'.at (List.getElem?_eq_getElem hi)
    refine ⟨⟨us, ws, x, y, sq_of g1', sq_of k1', hx, hy⟩, fun v H' yl => ?_⟩
    obtain ⟨T, x', y', rfl, hT, rfl, q1, q2⟩ := yl
    have e1 := (q1 us (sq_of g1')).symm.trans hx
    have e3 := (q2 ws (sq_of k1')).symm.trans hy
    cases e1
    cases e3
    exact ⟨Ex.new hT, _, _, List.getElem?_eq_getElem (by omega), List.getElem?_eq_getElem hi, .tup upd_same (.cons (ix.ex (Ex.new hT)) (.cons (iy.ex (Ex.new hT)) .nil))⟩
end
section
variable {K : PySem.W.Frag} {σ : L2.St} {H : Hp} {wi : TI} {te : TE} {vs : List Nat}
/-- over zipped pairs -/
theorem evf_map_z {i j : Nat} {xs : List Nat} {ds es : List PyData} {d : Nat → PyData} (W : Wk [] wi σ H xs (fun i x H' => ∃ d e, ds[i]? = some d ∧ es[i]? = some e ∧ It H' x (.tuple [d, e]))) (hz : xs.length ≤ 100000) (hw : ∀ x y, wipe (((wipe σ vs).set i (some x)).set j (some y)) vs = wipe σ vs)
    (hs : ∀ a d1 d2 x y H3, a ∈ xs → Ex H H3 → ds[a]? = some d1 → es[a]? = some d2 → It H3 x d1 → It H3 y d2 → EvP te (((wipe σ vs).set i (some x)).set j (some y)) H3 (isI (d a))) : EvF (tLc wi (gTup K 2 (gCons (gName i) (gCons (gName j) gNil))) tYes te vs) σ H (xs.map d) := by
  have := evf_lc (tt := tYes) (te := te) (vs := vs) (g := gTup K 2 (gCons (gName i) (gCons (gName j) gNil))) (fun _ => true) d W hz (fun H2 e i a x H3 ha e3 hy => by
    obtain ⟨d1, d2, h1, h2, hi⟩ := hy
    exact g_two hi fun v1 v2 k1 k2 => ⟨Ex.refl _, hw _ _, et_yes, fun _ => hs a d1 d2 v1 v2 H3 (List.mem_of_getElem? ha) (e.trans e3) h1 h2 k1 k2⟩) gm_two
  rw [List.filter_eq_self.mpr (fun _ _ => rfl)] at this
  exact this
end
end Pt

namespace Pt
open PySem PySem.Spec PyProof.Rows L2 Evl

def rListL (K : PySem.W.Frag) : List V → Hp → VK → Prop := fun xs H Q => ∃ p ys, xs = [.ref p] ∧ (SqL K H p ys ∨ SqT K H p ys) ∧ ∀ l, H l = none → Q (.ref l) (upd H l (.lst ys))
def rLenD : List V → Hp → VK → Prop := fun xs H Q => ∃ a kvs, xs = [V.ref a] ∧ H a = some (.dK kvs) ∧ Q (.int kvs.length) H
theorem k_listL {X : Cx} {K : PySem.W.Frag} (h : X.K = K := by rfl) : CallR X (.type "list") (rListL K) := h ▸ call_list_of
theorem k_lenD {X : Cx} : CallR X (.builtin "len") rLenD := call_lenD
section
variable {X : Cx} {K : PySem.W.Frag}
theorem k_bm0 {o : Expr} {T id : String} {name : Str} {apos cpos : Pos} {to : TE} {r : V → List V → Hp → VK → Prop} (pa : PlainAttrs T) (slot : Slot T name id) (hty : typeOf (.builtin id) = pure (.type "method_descriptor")) (hm : MtR X id r) (ho : PE X o to) (hK : X.K = K := by rfl)
    (hbase : attributeBase o name X.env (eval o X.env) = eval o X.env := by rfl) (hline : (apos.endLine == cpos.line) = true := by rfl) : PE X (.Call (.Attribute o name apos) [] [] cpos) (tBM0 K T r to) := hK ▸ pe_bm0 pa slot hty hm ho hbase hline
end
section
variable {K : PySem.W.Frag} {σ : L2.St} {H H' : Hp} {ta tb te ti to : TE} {a : Addr} {f : W → Option V} {n : Nat} {D : Ends} {tz : TS} {ds : List PyData}
theorem evf_listL (h : EvP te σ H (isL ds)) : EvF (tCB (rListL K) (tCons te tNil)) σ H ds := evf_cb (eap_cons h mono_L eap_nil) fun vs H2 e2 hp Q q => by
  obtain ⟨v, r, rfl, ⟨a, rfl, us, h1, h2⟩, rfl⟩ := hp
  exact ⟨a, us, rfl, .inl (sq_of h1), fun l nl => q l _ nl (Ex.new nl) ⟨us, upd_same, h2.ex (Ex.new nl)⟩⟩
theorem ev_lenD {ws : List W} (h : Ev te σ H (.ref a)) (hD : DF H a f n) (hw : ∀ w, (f w).isSome = true ↔ w ∈ ws) : Ev (tCB rLenD (tCons te tNil)) σ H (.int ((uni ws).length : Nat)) := ev_cbV (eap_cons h.p mono_V eap_nil) fun vs H2 e2 hp Q q => by
  obtain ⟨v, r, rfl, rfl, rfl⟩ := hp
  obtain ⟨kvs, ks, h1, h2, h3, h4, h5, _⟩ := (hD.ex e2).keys hw
  have e : kvs.length = (uni ws).length := by
    have := congrArg List.length h2
    rw [List.length_map, List.length_map] at this
    rw [this, ← uni_of h3 h5, srt_len]
  exact ⟨a, kvs, rfl, h1, by rw [e]; exact q⟩
/-- an item of a list, whatever it is -/
theorem ev_ixV {l : Addr} {vs : List V} {j : Nat} {v : V} (hl : H l = some (.lst vs)) (ho : Ev to σ H (.ref l)) (hi : Ev ti σ H (.int (j : Int))) (hj : vs[j]? = some v) : Ev (tOp (rIx K) to ti) σ H v := fun H1 e1 Q q => ho H1 e1 _ fun H2 e2 => hi H2 (e1.trans e2) _ fun H3 e3 =>
  .inl ⟨l, vs, (j : Int), v, rfl, rfl, sq_of (((e1.trans e2).trans e3) _ _ hl), atI_nat hj, q H3 (e2.trans e3)⟩
/-- {k: v} -/
theorem q_disp1 {g : Nat} {tk tv : TE} {k : W} {v : V} (hk : ∀ H1, Ex H H1 → Ev tk σ H1 (S k)) (hv : ∀ H1, Ex H H1 → Ev tv σ H1 v) (q : ∀ a H1, H a = none → Ek [a] H H1 → DF H1 a (dset nof k v) 1 → tz D (σ.set g (some (.ref a))) H1) : tSeq (tAsg (tDisp [(tk, tv)]) (gName g)) tz D σ H := fun p hp => by
  have e0 : Ex H (upd H p (.dK [])) := Ex.new hp
  refine hk _ e0 _ (Ex.refl _) _ fun H2 e2 => hv _ (e0.trans e2) _ (Ex.refl _) _ fun H3 e3 => ?_
  have hp3 : H3 p = some (.dK []) := (e2.trans e3) _ _ upd_same
  refine ⟨hp3, [(kS k, v)], rfl, (show 1 ≤ 15 by decide), q p _ hp ?_ ?_⟩
  · exact ((((Ek.refl H).put hp).then e2).then e3).mut List.mem_cons_self hp3 fun _ z => nomatch z
  · exact dput_kvs (kvs := []) .nil (fun _ h => nomatch h) (Nat.le_refl 0) (fun w => rfl) (by exact upd_same)
/-- x = xs.pop() -/
theorem q_pop {g : Nat} {l : Addr} {d : PyData} (ho : Ev to σ H (.ref l)) (hl : Ls H l (ds ++ [d])) (q : ∀ v H1 us us', Ex H H1 → H1 l = some (.lst us) → Ls (upd H1 l (.lst us')) l ds → It (upd H1 l (.lst us')) v d → tz D (σ.set g (some v)) (upd H1 l (.lst us'))) : tSeq (tAsg (tBM0 K "list" rPop to) (gName g)) tz D σ H :=
  ho H (Ex.refl H) _ fun H1 e1 => by
    obtain ⟨us, g1, g2⟩ := hl.ex e1
    have hz : us.length = ds.length + 1 := by rw [g2.length, List.length_append]; rfl
    obtain ⟨v, hv, iv⟩ := g2.at (i := ds.length) (d := d) (by simp)
    have ek : Ek [l] H1 (upd H1 l (.lst us.dropLast)) := (Ek.refl H1).mut List.mem_cons_self g1 fun _ z => nomatch z
    refine ⟨.inl ⟨rfl, us, sq_of g1⟩, l, us, v, rfl, rfl, g1, by rw [hz]; exact hv, q v H1 us _ e1 g1 ⟨_, upd_same, ?_⟩ (It.mono ek _ _ iv)⟩
    have := (Its.mono ek _ _ g2).take ds.length
    rw [List.take_append_of_le_length (Nat.le_refl _), List.take_length] at this
    have e9 : us.dropLast = us.take ds.length := by rw [List.dropLast_eq_take, hz]; rfl
    rw [← e9] at this
    exact this
/-- xs[j] = x -/
theorem q_setI {l : Addr} {j : Nat} {d : PyData} (hv : EvP te σ H (isI d)) (ho : Ev to σ H (.ref l)) (hi : Ev ti σ H (.int (j : Int))) (hl : Ls H l ds) (hj : j < ds.length) (q : ∀ H1 us us', Ex H H1 → H1 l = some (.lst us) → Ls (upd H1 l (.lst us')) l (ds.set j d) → tz D σ (upd H1 l (.lst us'))) : tSeq (tAsg te (gSub to ti rSetL)) tz D σ H :=
  hv H (Ex.refl H) _ fun v H1 e1 iv => ho H1 e1 _ fun H2 e2 => hi H2 (e1.trans e2) _ fun H3 e3 => by
    obtain ⟨us, g1, g2⟩ := hl.ex ((e1.trans e2).trans e3)
    have ek : Ek [l] H3 (upd H3 l (.lst (us.set j v))) := (Ek.refl H3).mut List.mem_cons_self g1 fun _ z => nomatch z
    refine ⟨l, us, (j : Int), j, rfl, rfl, g1, ixN_nat (by rw [g2.length]; exact hj), q H3 us _ ((e1.trans e2).trans e3) g1 ⟨_, upd_same, ?_⟩⟩
    exact Its.set (It.mono ek _ _ (It.ex iv (e2.trans e3))) j (Its.mono ek _ _ g2)
/-- a, b = a pair -/
theorem q_unpack {i j : Nat} {d1 d2 : PyData} (h : EvP te σ H (isI (.tuple [d1, d2]))) (q : ∀ x y H1, Ex H H1 → It H1 x d1 → It H1 y d2 → tz D ((σ.set i (some x)).set j (some y)) H1) : tSeq (tAsg te (gTup K 2 (gCons (gName i) (gCons (gName j) gNil)))) tz D σ H :=
  h H (Ex.refl H) _ fun v H1 e1 hi => g_two hi fun v1 v2 k1 k2 => q v1 v2 H1 e1 k1 k2
end
section
variable {K : PySem.W.Frag} {σ : L2.St} {H H' : Hp} {ta tb te td ty tv : TE} {a : Addr} {f : W → Option V} {n : Nat} {D : Ends} {tz : TS} {ds es : List PyData}
theorem q_dput {k : W} {P : V → Hp → Prop} (hv : EvP tv σ H P) (hd : Ev td σ H (.ref a)) (hD : DF H a f n) (hn : n < sizeLine) (hy : Ev ty σ H (S k))
    (q : ∀ v H1 H2 kvs kvs', Ex H H1 → P v H1 → Ex H1 H2 → H2 a = some (.dK kvs) → DF (upd H2 a (.dK kvs')) a (dset f k v) (n + 1) → tz D σ (upd H2 a (.dK kvs'))) : tSeq (sDPut td ty tv) tz D σ H := s_dput (D := { D with nx := tz D }) hv hd hD hn hy q
theorem q_append {l : Addr} {d : PyData} {to : TE} (ho : Ev to σ H (.ref l)) (hl : Ls H l ds) (he : EvP te σ H (isI d)) (hz : ds.length ≤ 100000)
    (k : ∀ H1 xs xs', Ex H H1 → H1 l = some (.lst xs) → Ls (upd H1 l (.lst xs')) l (ds ++ [d]) → tz D σ (upd H1 l (.lst xs'))) : tSeq (tDrop (tBM K "list" rAppend to (tCons te tNil))) tz D σ H := s_append (D := { D with nx := tz D }) ho hl he hz k
/-- two lists in one -/
abbrev isLL (ds es : List PyData) : V → Hp → Prop := fun v H => ∃ h p q, v = .ref h ∧ H h = some (.lst [.ref p, .ref q]) ∧ Ls H p ds ∧ Ls H q es
theorem mono_LL : Mono (isLL ds es) := fun _ _ _ e ⟨h, p, q, h1, h2, h3, h4⟩ => ⟨h, p, q, h1, e _ _ h2, h3.ex e, h4.ex e⟩
theorem dp_LL : ∀ x H, isLL ds es x H → Dp K H x (.list [.list ds, .list es]) := fun x H ⟨h, p, q, h1, h2, h3, h4⟩ => by
  subst h1
  exact .lst (sq_of h2) (.cons h3.dp (.cons h4.dp .nil))
theorem evp_LL (h1 : EvP ta σ H (isL ds)) (h2 : EvP tb σ H (isL es)) : EvP (tLst (tCons ta (tCons tb tNil))) σ H (isLL ds es) := fun H1 e Q q =>
  h1 H1 e _ fun x H2 e2 ⟨p, ep, lp⟩ => h2 H2 (e.trans e2) _ fun y H3 e3 ⟨r, er, lr⟩ => ⟨sz_of (show 2 ≤ 100000 by decide), fun l nl => by
    subst ep er
    exact q _ _ ((e2.trans e3).trans (Ex.new nl)) ⟨l, p, r, rfl, upd_same, (lp.ex e3).ex (Ex.new nl), lr.ex (Ex.new nl)⟩⟩
theorem q_LL {g : Nat} (h1 : EvF ta σ H ds) (h2 : EvF tb σ H es) (k : ∀ h p q H1, H h = none → H p = none → H q = none → p ≠ q → p ≠ h → q ≠ h → Ex H H1 → H1 h = some (.lst [.ref p, .ref q]) → Ls H1 p ds → Ls H1 q es → tz D (σ.set g (some (.ref h))) H1) : tSeq (tAsg (tLst (tCons ta (tCons tb tNil))) (gName g)) tz D σ H :=
  h1 H (Ex.refl H) _ fun p H2 np e2 lp => h2 H2 e2 _ fun r H3 nr e3 lr => ⟨sz_of (show 2 ≤ 100000 by decide), fun l nl => by
    have lp3 := lp.ex e3
    obtain ⟨us, g1, _⟩ := id lp
    obtain ⟨us2, g2, _⟩ := id lp3
    obtain ⟨us3, g3, _⟩ := id lr
    refine k l p r _ (fresh_back (e2.trans e3) nl) np (fresh_back e2 nr) (fun z => ?_) (fun z => ?_) (fun z => ?_) ((e2.trans e3).trans (Ex.new nl)) upd_same (lp3.ex (Ex.new nl)) (lr.ex (Ex.new nl))
    · rw [z, nr] at g1; cases g1
    · rw [z, nl] at g2; cases g2
    · rw [z, nl] at g3; cases g3⟩
end
theorem ls_upd {H : Hp} {a b : Addr} {ds : List PyData} {o : HO} (h : Ls H a ds) (hb : a ≠ b) {u : HO} (hu : H b = some u) (ht : ∀ xs, u ≠ .tup xs) : Ls (upd H b o) a ds := h.mono (own := [b]) ((Ek.refl H).mut List.mem_cons_self hu ht) (by simpa using hb)
theorem at_upd {H : Hp} {a b : Addr} {o u : HO} (h : H a = some u) (hb : a ≠ b) : upd H b o a = some u := by rw [upd_ne hb]; exact h
theorem df_upd {H : Hp} {a b : Addr} {f : W → Option V} {n : Nat} {o : HO} (h : DF H a f n) (hb : a ≠ b) : DF (upd H b o) a f n := let ⟨kvs, h1, r⟩ := h; ⟨kvs, at_upd h1 hb, r⟩
theorem Good.shown {n : Nat} {c : Cs} (g : Good n c) : ShowOk (.list (c.map dP)) := show_cs (fun p hp => ⟨(g.at' p hp).2.1, by have := (g.at' p hp).1; have := g.hi; omega, by have := le_many hp; have := g.le; omega⟩) (by have := g.len; omega)
theorem cut_m1 (w : W) : cut w none (some (-1)) = w.dropLast := by
  unfold cut
  have e : HT.sIx w.length w.length (some (-1)) = w.length - 1 := by
    show (if (-1 : Int) < 0 then ((-1 : Int) + (w.length : Int)).toNat else min (-1 : Int).toNat w.length) = _
    rw [if_pos (by decide)]
    omega
  rw [e, HT.sIx_none, List.drop_zero, List.dropLast_eq_take]
  rfl
section
variable {K : PySem.W.Frag} {σ : L2.St} {H H' : Hp} {te : TE} {td : TE} {a : Addr} {n : Nat}
/-- w[:-1] -/
theorem ev_initS {w : W} {thi : L2.TO} (h : Ev te σ H (S w)) (h2 : EvO thi σ H (some (-1))) (hw : w.length ≤ 100000) : Ev (tSl (rSlU K) te tNoPart thi) σ H (S w.dropLast) := by
  have := ev_slS (K := K) h eo_none h2 hw
  rw [cut_m1] at this
  exact this
/-- [(piece, found[piece]) for piece in sorted(found)] -/
theorem evf_dictL {j sd : Nat} {c : Cs} {vs : List Nat} {f : W → Option V} (hd : Ev (tVar sd) σ H (.ref a)) (hd2 : ∀ x, (((wipe σ vs).set j (some x)))[sd]? = some (some (.ref a))) (hj : ∀ x, (((wipe σ vs).set j (some x)))[j]? = some (some x)) (hD : DF H a f n) (hn : n < 64) (hf : ∀ w, f w = cfS c w) (hl : c.length ≤ 1000) (hw : ∀ x, wipe ((wipe σ vs).set j (some x)) vs = wipe σ vs) : EvF (tLc (iU K (tCB rSortedD (tCons (tVar sd) tNil))) (gName j) tYes (tTup (tCons (tVar j) (tCons (tDGet (tVar sd) (tVar j)) tNil))) vs) σ H ((tot c).map dP) := by
  have e : f = cfS c := funext hf
  subst e
  rw [tot, List.map_map]
  refine evf_map _ (wkU_new (own := []) (evf_sortedD (ws := keys c) hd hD hn (cfS_some _)) (fun _ h => nomatch h)).typed (Nat.le_trans (uni_len_le _) (by rw [List.length_map]; omega)) hw fun p x H6 hp e6 hy => ?_
  have hx := hy.str_inv
  subst hx
  exact evi_pair (ev_var (hj _)) (ev_dget (ev_var (hd2 _)) (hD.ex e6) (ev_var (hj _)) (cfS_at (mem_uni.mp hp)))
end
end Pt

namespace Pt
open PySem PySem.Spec PyProof.Rows L2 Evl
def topS (i : Nat) : Stmt := PySem.Challenge.pw_piecetally_k03_whole_together.main.body.getD i (.Pass ⟨0, 0, 0, 0⟩)
abbrev s_is_between : Stmt := topS 12
abbrev N_is_between : List Str := ["thing", "least", "most"]
theorem sc_is_between : FnScope N_is_between ["thing", "least", "most"] (defScope s_is_between) := ⟨rfl, rfl, rfl, by decide +kernel, rfl, by decide +kernel, by decide +kernel⟩
abbrev s_is_word : Stmt := topS 13
abbrev N_is_word : List Str := ["thing", "most", "one"]
theorem sc_is_word : FnScope N_is_word ["thing", "most"] (defScope s_is_word) := ⟨rfl, rfl, rfl, by decide +kernel, rfl, by decide +kernel, by decide +kernel⟩
abbrev s_check_word : Stmt := topS 14
abbrev N_check_word : List Str := ["word"]
theorem sc_check_word : FnScope N_check_word ["word"] (defScope s_check_word) := ⟨rfl, rfl, rfl, by decide +kernel, rfl, by decide +kernel, by decide +kernel⟩
abbrev s_check_long : Stmt := topS 15
abbrev N_check_long : List Str := ["long"]
theorem sc_check_long : FnScope N_check_long ["long"] (defScope s_check_long) := ⟨rfl, rfl, rfl, by decide +kernel, rfl, by decide +kernel, by decide +kernel⟩
abbrev s_pieces_of : Stmt := topS 16
abbrev N_pieces_of : List Str := ["word", "long", "found", "at", "piece"]
theorem sc_pieces_of : FnScope N_pieces_of ["word", "long"] (defScope s_pieces_of) := ⟨rfl, rfl, rfl, by decide +kernel, rfl, by decide +kernel, by decide +kernel⟩
abbrev s_pieces : Stmt := topS 17
abbrev N_pieces : List Str := ["word", "long"]
theorem sc_pieces : FnScope N_pieces ["word", "long"] (defScope s_pieces) := ⟨rfl, rfl, rfl, by decide +kernel, rfl, by decide +kernel, by decide +kernel⟩
abbrev s_is_counted : Stmt := topS 20
abbrev N_is_counted : List Str := ["thing"]
theorem sc_is_counted : FnScope N_is_counted ["thing"] (defScope s_is_counted) := ⟨rfl, rfl, rfl, by decide +kernel, rfl, by decide +kernel, by decide +kernel⟩
abbrev s_check_counts : Stmt := topS 21
abbrev N_check_counts : List Str := ["counts", "pair", "piece", "often", "one", "other"]
theorem sc_check_counts : FnScope N_check_counts ["counts"] (defScope s_check_counts) := ⟨rfl, rfl, rfl, by decide +kernel, rfl, by decide +kernel, by decide +kernel⟩
abbrev s_together : Stmt := topS 22
abbrev N_together : List Str := ["one", "other", "found", "piece", "often"]
theorem sc_together : FnScope N_together ["one", "other"] (defScope s_together) := ⟨rfl, rfl, rfl, by decide +kernel, rfl, by decide +kernel, by decide +kernel⟩
abbrev s__law_cell_at : Stmt := topS 24
abbrev N__law_cell_at : List Str := ["_law_script", "_law_k"]
theorem sc__law_cell_at : FnScope N__law_cell_at ["_law_script", "_law_k"] (defScope s__law_cell_at) := ⟨rfl, rfl, rfl, by decide +kernel, rfl, by decide +kernel, by decide +kernel⟩
abbrev s__law_draw : Stmt := topS 25
abbrev N__law_draw : List Str := ["_law_cell", "_law_k", "_law_most", "_law_primes"]
theorem sc__law_draw : FnScope N__law_draw ["_law_cell", "_law_k", "_law_most"] (defScope s__law_draw) := ⟨rfl, rfl, rfl, by decide +kernel, rfl, by decide +kernel, by decide +kernel⟩
abbrev s__law_number : Stmt := topS 26
abbrev N__law_number : List Str := ["_law_cell", "_law_k", "_law_limit", "_law_d"]
theorem sc__law_number : FnScope N__law_number ["_law_cell", "_law_k", "_law_limit"] (defScope s__law_number) := ⟨rfl, rfl, rfl, by decide +kernel, rfl, by decide +kernel, by decide +kernel⟩
abbrev s__law_word : Stmt := topS 27
abbrev N__law_word : List Str := ["_law_script", "_law_by", "_law_most", "_law_cell", "_law_many", "_law_wide", "_law_found", "_law_k", "_law_number_here", "_law_letter"]
theorem sc__law_word : FnScope N__law_word ["_law_script", "_law_by", "_law_most"] (defScope s__law_word) := ⟨rfl, rfl, rfl, by decide +kernel, rfl, by decide +kernel, by decide +kernel⟩
abbrev s__law_pieces : Stmt := topS 28
abbrev N__law_pieces : List Str := ["_law_word_here", "_law_long", "_law_every", "_law_at", "_law_piece"]
theorem sc__law_pieces : FnScope N__law_pieces ["_law_word_here", "_law_long"] (defScope s__law_pieces) := ⟨rfl, rfl, rfl, by decide +kernel, rfl, by decide +kernel, by decide +kernel⟩
abbrev s_law : Stmt := topS 29
abbrev N_law : List Str := ["_law_script", "_law_by", "_law_long", "_law_word_here", "_law_more", "_law_one", "_law_other", "_law_handed", "_law_due", "_law_piece", "_law_often", "_law_found", "_law_shorter", "_law_gone", "_law_left"]
theorem sc_law : FnScope N_law ["_law_script"] (defScope s_law) := ⟨rfl, rfl, rfl, by decide +kernel, rfl, by decide +kernel, by decide +kernel⟩
section
variable {P : Program} {w : World} {K : PySem.W.Frag} {mg : Str → Option Value} {base : Heap}
theorem ok_is_word (B : Bl mg) {f : Addr} {fd : FuncData} (F : Fun K "is_word" "is_word" s_is_word f fd) {tL : Tok} (g_LETTERS : mg "LETTERS" = some (.str ⟨#[97, 98, 99, 100]⟩ tL)) : FnOk P w K mg base CX0 1 f fd ["thing", "most"] spIsWord := by
  refine F.ok sc_is_word (fun vs H Q E h => ?_) (fun cdv A outer s H vs Q E hr h => ?_)
  · obtain ⟨w, m, rfl, _⟩ := h
    rfl
  · obtain ⟨w, m, rfl, hl, q⟩ := h
    refine ⟨_, (pss_one (ps_ret (pe_and (pe_callB (k_isi (K := K)) (by rfl) B.isinstance (by decide +kernel) (pa_cons (pv 0) (pa_cons (pe_bltn (v := .ty "str") (by rfl) B.str boot_str rfl) pa_nil))) (pe_and (pe_cmpR op_le (pe_callB (k_len (K := K)) (by rfl) B.len (by decide +kernel) (pa_cons (pv 0) pa_nil)) (pv 1) (nomark _)) (pe_one (pe_callB (k_all (K := K) rfl) (by rfl) B.all (by decide +kernel) (pa_cons (pe_lc (own := [("one", 2)]) (g := gName 2) rfl sc_is_word.nd (k_it (K := K) (pv 0)) (blkOk_by (own := [("one", 2)]) (N := N_is_word) (sc := defScope s_is_word) (by decide +kernel)) (fun _ _ _ _ _ => (pg_name (i := 2) sc_is_word.nd rfl (by first | exact Or.inl rfl | exact Or.inr rfl))) (fun _ _ _ _ _ => pts_nil) (fun _ _ _ _ _ => (pe_cmpR (k_in (K := K)) (pv 2) (pe_gS g_LETTERS) (by rfl)))) pa_nil))))))), ?_⟩
    refine s_ret (v := .bl (decide (w.length ≤ m) && w.all abcd)) ?_ fun H1 e1 => q H1 e1
    refine ev_is (ev_andV (a := true) (ev_isi (ev_var rfl) ev_c (.ty "str") (fun _ _ => .base (.str _)) (kit_ty (by decide +kernel))) fun _ =>
      ev_andV (ev_leI (ev_lenS (ev_var rfl) hl) (ev_var rfl)) fun _ => ev_allM (f := abcd) (evf_map _ (wkU_str (ev_var rfl)) hl (fun _ => rfl) fun c x H3 _ _ hy => ?_)) ?_
    · subst hy
      exact ei_bl (ev_inS (ev_var rfl) ev_c)
    · congr 1
      rw [Bool.true_and]
      congr 1
      exact decide_eq_decide.mpr (by omega)
theorem ok_check_word (B : Bl mg) {f fW : Addr} {fd fdW : FuncData} (F : Fun K "check_word" "check_word" s_check_word f fd) {tL : Tok} (g_LONGEST : mg "LONGEST" = some (.int 60 tL)) (G_is_word : DefOk P w K mg base CX0 "is_word" 1 ["thing", "most"] spIsWord fW fdW) : FnOk P w K mg base CX0 2 f fd ["word"] spCheckWord := by
  refine F.ok sc_check_word (fun vs H Q E h => ?_) (fun cdv A outer s H vs Q E hr h => ?_)
  · obtain ⟨w, rfl, _⟩ := h
    rfl
  · obtain ⟨w, rfl, hw, q⟩ := h
    refine ⟨_, (pss_one (ps_if (pt_not (pt_val (pe_call G_is_word.ok (hr.mono (by decide)) (by rfl) G_is_word.mg G_is_word.kp G_is_word.b .nil pass0 (pa_cons (pv 0) (pa_cons (pe_gI g_LONGEST) pa_nil)))))
        (pss_one ps_never)
        pss_nil)), ?_⟩
    refine s_when (b := false) ?_ (fun hb => nomatch hb) fun _ H1 e1 => q H1 e1
    refine et_is (et_not (et_B (b := true) (ev_call (ea_cons (ev_var rfl) (ea_cons ev_c ea_nil)) fun H1 e1 Q1 q1 E1 => ⟨w, 60, rfl, Nat.le_trans hw.1 (by decide), fun H2 e2 => ?_⟩))) rfl
    have := q1 H2 e2
    rw [decide_eq_true hw.1, hw.2]
    exact this
theorem ok_is_between (B : Bl mg) {f : Addr} {fd : FuncData} (F : Fun K "is_between" "is_between" s_is_between f fd) : FnOk P w K mg base CX0 1 f fd ["thing", "least", "most"] spBetween := by
  refine F.ok sc_is_between (fun vs H Q E h => ?_) (fun cdv A outer s H vs Q E hr h => ?_)
  · obtain ⟨i, a, b, rfl, _⟩ := h
    rfl
  · obtain ⟨i, a, b, rfl, q⟩ := h
    refine ⟨_, (pss_one (ps_ret (pe_and (pe_callB (k_isi (K := K)) (by rfl) B.isinstance (by decide +kernel) (pa_cons (pv 0) (pa_cons (pe_bltn (v := .ty "int") (by rfl) B.int boot_int rfl) pa_nil))) (pe_and (pe_not (pe_callB (k_isi (K := K)) (by rfl) B.isinstance (by decide +kernel) (pa_cons (pv 0) (pa_cons (pe_bltn (v := .ty "bool") (by rfl) B.bool boot_bool rfl) pa_nil)))) (pe_one (pe_chain op_le op_le (pv 1) (pv 0) (pv 2))))))), ?_⟩
    refine s_ret (v := .bl (decide (a ≤ i) && decide (i ≤ b))) ?_ fun H1 e1 => q H1 e1
    exact ev_is (ev_andV (a := true) (ev_isi (ev_var rfl) ev_c (.ty "int") (fun _ _ => .base (.int _)) (kit_ty (by decide +kernel))) fun _ => ev_andV (a := true) (ev_notV (a := false) (ev_isi (ev_var rfl) ev_c (.ty "bool") (fun _ _ => .base (.int _)) (kit_ty (by decide +kernel)))) fun _ =>
      ev_chain (ev_var rfl) (ev_var rfl) (fun _ => ev_var rfl) (fun H2 Q q => ⟨a, i, rfl, rfl, q⟩) fun _ H2 Q q => ⟨i, b, rfl, rfl, q⟩) rfl
theorem ok_check_long (B : Bl mg) {f fI : Addr} {fd fdI : FuncData} (F : Fun K "check_long" "check_long" s_check_long f fd) {tS tL : Tok} (g_SHORTEST_PIECE : mg "SHORTEST_PIECE" = some (.int 2 tS)) (g_LONGEST_PIECE : mg "LONGEST_PIECE" = some (.int 5 tL)) (G_is_between : DefOk P w K mg base CX0 "is_between" 1 ["thing", "least", "most"] spBetween fI fdI) : FnOk P w K mg base CX0 2 f fd ["long"] spCheckLong := by
  refine F.ok sc_check_long (fun vs H Q E h => ?_) (fun cdv A outer s H vs Q E hr h => ?_)
  · obtain ⟨n, rfl, _⟩ := h
    rfl
  · obtain ⟨n, rfl, h2, h5, q⟩ := h
    refine ⟨_, (pss_one (ps_if (pt_not (pt_val (pe_call G_is_between.ok (hr.mono (by decide)) (by rfl) G_is_between.mg G_is_between.kp G_is_between.b .nil pass0 (pa_cons (pv 0) (pa_cons (pe_gI g_SHORTEST_PIECE) (pa_cons (pe_gI g_LONGEST_PIECE) pa_nil))))))
        (pss_one ps_never)
        pss_nil)), ?_⟩
    refine s_when (b := false) ?_ (fun hb => nomatch hb) fun _ H1 e1 => q H1 e1
    refine et_is (et_not (et_B (b := true) (ev_call (ea_cons (ev_var rfl) (ea_cons ev_c (ea_cons ev_c ea_nil))) fun H1 e1 Q1 q1 E1 => ⟨n, 2, 5, rfl, fun H2 e2 => ?_⟩))) rfl
    have := q1 H2 e2
    rw [decide_eq_true (show (2 : Int) ≤ n by omega), decide_eq_true (show (n : Int) ≤ 5 by omega)]
    exact this
theorem ok_pieces_of (B : Bl mg) {f : Addr} {fd : FuncData} (F : Fun K "pieces_of" "pieces_of" s_pieces_of f fd) : FnOk P w K mg base CX0 1 f fd ["word", "long"] spPiecesOf := by
  refine F.ok sc_pieces_of (fun vs H Q E h => ?_) (fun cdv A outer s H vs Q E hr h => ?_)
  · obtain ⟨w, q, rfl, _⟩ := h
    rfl
  · obtain ⟨wd, n, rfl, hw, hn, hn5, q⟩ := h
    have hu64 := hr.units
    refine ⟨_, (pss_cons (ps_set (i := 2) sc_pieces_of.nd rfl (by first | exact Or.inl rfl | exact Or.inr rfl) pe_dnewK)
      (pss_cons (ps_for PassesOwn.never rfl (pi_range1 (by rfl) B.range (pa_cons (pe_op op_addU (pe_op op_sub (pe_callB (k_len (K := K)) (by rfl) B.len (by decide +kernel) (pa_cons (pv 0) pa_nil)) (pv 1)) pe_int) pa_nil)) (pg_name (i := 3) sc_pieces_of.nd rfl (by first | exact Or.inl rfl | exact Or.inr rfl))
        (pss_cons (ps_set (i := 4) sc_pieces_of.nd rfl (by first | exact Or.inl rfl | exact Or.inr rfl) (pe_slice (k_sl (K := K)) (pv 0) (po_some (pv 3)) (po_some (pe_op op_addU (pv 3) (pv 1)))))
        (pss_one (ps_dput (u1 hu64) (pv 2) (pv 4) (pe_op op_addU (pe_dget2 (u1 hu64) (pv 2) (pv 4) pe_int ⟨by rfl, by rfl, by rfl, by rfl⟩) pe_int) (by rfl)))))
      (pss_one (ps_ret (pe_lc (own := [("piece", 4)]) (g := gName 4) rfl sc_pieces_of.nd (k_it (K := K) (pe_callB (k_sortedD rfl) (by rfl) B.sorted (by decide +kernel) (pa_cons (pv 2) pa_nil))) (blkOk_by (own := [("piece", 4)]) (N := N_pieces_of) (sc := defScope s_pieces_of) (by decide +kernel)) (fun _ _ _ _ _ => (pg_name (i := 4) sc_pieces_of.nd rfl (by first | exact Or.inl rfl | exact Or.inr rfl))) (fun _ _ _ _ _ => pts_nil) (fun _ _ _ _ _ => (pe_tup (pa_cons (pv 4) (pa_cons (pe_dget (u1 hu64) (pv 2) (pv 4) (fun _ _ => rfl)) pa_nil))))))))), ?_⟩
    refine q_dnew fun a na hD => ?_
    refine q_wk (own := [a]) (wk_rng1 (n := (wd.length : Int) - n + 1) (ea_cons (ev_addI (ev_subI (ev_lenS (ev_var rfl) (by omega)) (ev_var rfl)) ev_c) ea_nil) (by omega)) (fun i σ' H' => ∃ y3 y4, σ' = [some (S wd), some (vN n), some (.ref a), y3, y4] ∧ DF H' a (cf ((pcs wd n).take i)) i) (fun H2 e2 => ⟨none, none, rfl, by rw [List.take_zero]; exact hD.ex e2⟩) ?_ ?_
    · rintro H2 e2 i c σ' H' x H3 hc k ⟨y3, y4, rfl, hL⟩ e3 rfl
      obtain ⟨rfl, hi⟩ := range_at hc
      have hi' : c < wd.length + 1 - n := by omega
      refine q_asg (ev_subS (i := c) (j := c + n) (ev_var rfl) (eo_some (ev_var rfl)) (eo_some (ev_is (ev_addI (ev_var rfl) (ev_var rfl)) (by rw [Int.natCast_add]))) (by omega)) fun H4 e4 => ?_
      have hL4 := (hL.ex e3).ex e4
      refine s_dput (P := isV (vN (((pcs wd n).take c).count ((wd.take (c + n)).drop c) + 1))) (ev_is (ev_addI (i := ((((pcs wd n).take c).count ((wd.take (c + n)).drop c) : Nat) : Int)) (ev_is (ev_dget2 (ev_var rfl) hL4 (ev_var rfl) ev_c) (cf_get _ _)) ev_c) rfl).p (ev_var rfl) hL4 (sz5 (by omega)) (ev_var rfl) ?_
      rintro v H5 H6 kvs kvs' e5 rfl e6 h6 hF
      rw [cf_step] at hF
      refine ⟨((((k.then e3).then e4).then e5).then e6).mut List.mem_cons_self h6 (fun _ z => nomatch z), _, _, rfl, ?_⟩
      rw [pcs_take _ _ _ (by omega), range_take_at _ hc, ← pcs_take _ _ _ (by omega)]
      exact hF
    · rintro H2 e2 σ' H' k ⟨y3, y4, rfl, hL⟩
      have el : (List.range ((wd.length : Int) - n + 1).toNat).length = (pcs wd n).length := by rw [List.length_range, pcs_len]; omega
      rw [el, List.take_length] at hL
      have ex : Ex H H' := (((((Ek.refl H).put na).then e2).trans k).less na).ex
      refine s_retF (ds := (tally (pcs wd n)).map dP) ?_ fun p H4 n4 e4 l4 => q p H4 ?_ ?_ l4
      · rw [tally, List.map_map]
        refine evf_map _ (wkU_new (own := []) (evf_sortedD (ws := pcs wd n) (ev_var rfl) hL (by rw [pcs_len]; omega) (cf_some _)) (fun _ h => nomatch h)).typed (Nat.le_trans (uni_len_le _) (by rw [pcs_len]; omega)) (fun _ => rfl) fun p x H4 hp e4 hy => ?_
        have hx := hy.str_inv
        subst hx
        exact evi_pair (ev_var rfl) (ev_dget (ev_var rfl) (hL.ex e4) (ev_var rfl) (cf_at (mem_uni.mp hp)))
      · exact fresh_back ex n4
      · exact ex.trans e4
theorem ok_pieces (B : Bl mg) {f fC fL fO : Addr} {fd fdC fdL fdO : FuncData} (F : Fun K "pieces" "pieces" s_pieces f fd) (G_check_word : DefOk P w K mg base CX0 "check_word" 2 ["word"] spCheckWord fC fdC) (G_check_long : DefOk P w K mg base CX0 "check_long" 2 ["long"] spCheckLong fL fdL) (G_pieces_of : DefOk P w K mg base CX0 "pieces_of" 1 ["word", "long"] spPiecesOf fO fdO) : FnOk P w K mg base CX0 3 f fd ["word", "long"] spPieces := by
  refine F.ok sc_pieces (fun vs H Q E h => ?_) (fun cdv A outer s H vs Q E hr h => ?_)
  · obtain ⟨w, q, rfl, _⟩ := h
    rfl
  · obtain ⟨wd, n, rfl, hw, h2, h5, q⟩ := h
    refine ⟨_, (pss_cons (ps_expr (pe_call G_check_word.ok (hr.mono (by decide)) (by rfl) G_check_word.mg G_check_word.kp G_check_word.b .nil pass0 (pa_cons (pv 0) pa_nil)))
      (pss_cons (ps_expr (pe_call G_check_long.ok (hr.mono (by decide)) (by rfl) G_check_long.mg G_check_long.kp G_check_long.b .nil pass0 (pa_cons (pv 1) pa_nil)))
      (pss_one (ps_ret (pe_call G_pieces_of.ok (hr.mono (by decide)) (by rfl) G_pieces_of.mg G_pieces_of.kp G_pieces_of.b .nil pass0 (pa_cons (pv 0) (pa_cons (pv 1) pa_nil))))))), ?_⟩
    refine q_drop (v := .non) (ev_call (ea_cons (ev_var rfl) ea_nil) fun H1 e1 Q1 q1 E1 => ⟨wd, rfl, hw, q1⟩) fun H1 e1 => ?_
    refine q_drop (v := .non) (ev_call (ea_cons (ev_var rfl) ea_nil) fun H1 e1 Q1 q1 E1 => ⟨n, rfl, h2, h5, q1⟩) fun H2 e2 => ?_
    exact s_retF (evf_call (EvA.p (ea_cons (ev_var rfl) (ea_cons (ev_var rfl) ea_nil))) fun vs H3 e3 hp Q E q1 => ⟨wd, n, by rw [hp]; rfl, hw.1, h2, by omega, q1⟩) fun p H3 n3 e3 l3 => q p H3 (fresh_back (e1.trans e2) n3) ((e1.trans e2).trans e3) l3
theorem ok__law_pieces (B : Bl mg) {f : Addr} {fd : FuncData} (F : Fun K "_law_pieces" "_law_pieces" s__law_pieces f fd) : FnOk P w K mg base CX0 1 f fd ["_law_word_here", "_law_long"] spLawPieces := by
  refine F.ok sc__law_pieces (fun vs H Q E h => ?_) (fun cdv A outer s H vs Q E hr h => ?_)
  · obtain ⟨w, q, rfl, _⟩ := h
    rfl
  · obtain ⟨wd, n, rfl, hw, hn, hn5, q⟩ := h
    have hu64 := hr.units
    refine ⟨_, (pss_cons (ps_set (i := 2) sc__law_pieces.nd rfl (by first | exact Or.inl rfl | exact Or.inr rfl) (pe_lc (own := [("_law_at", 3)]) (g := gName 3) rfl sc__law_pieces.nd (pi_range1 (by rfl) B.range (pa_cons (pe_op op_addU (pe_op op_sub (pe_callB (k_len (K := K)) (by rfl) B.len (by decide +kernel) (pa_cons (pv 0) pa_nil)) (pv 1)) pe_int) pa_nil)) (blkOk_by (own := [("_law_at", 3)]) (N := N__law_pieces) (sc := defScope s__law_pieces) (by decide +kernel)) (fun _ _ _ _ _ => (pg_name (i := 3) sc__law_pieces.nd rfl (by first | exact Or.inl rfl | exact Or.inr rfl))) (fun _ _ _ _ _ => pts_nil) (fun _ _ _ _ _ => (pe_slice (k_sl (K := K)) (pv 0) (po_some (pv 3)) (po_some (pe_op op_addU (pv 3) (pv 1)))))))
      (pss_one (ps_ret (pe_lc (own := [("_law_piece", 4)]) (g := gName 4) rfl sc__law_pieces.nd (k_it (K := K) (pe_callB (k_sortedS (w := w) rfl hu64) (by rfl) B.sorted (by decide +kernel) (pa_cons (pe_callTy (k_setT (w := w) rfl) (by rfl) B.set boot_set (pa_cons (pv 2) pa_nil)) pa_nil))) (blkOk_by (own := [("_law_piece", 4)]) (N := N__law_pieces) (sc := defScope s__law_pieces) (by decide +kernel)) (fun _ _ _ _ _ => (pg_name (i := 4) sc__law_pieces.nd rfl (by first | exact Or.inl rfl | exact Or.inr rfl))) (fun _ _ _ _ _ => pts_nil) (fun _ _ _ _ _ => (pe_tup (pa_cons (pv 4) (pa_cons (k_bm (K := K) PySem.F.plainAttrs_list PySem.F.slot_list_count PySem.F.type_list_count (k_count (K := K)) (pv 2) (pa_cons (pv 4) pa_nil)) pa_nil)))))))), ?_⟩
    refine q_asgF (ds := (pcs wd n).map dS) ?_ fun a H1 na e1 hl => ?_
    · rw [pcs, List.map_map, show wd.length + 1 - n = ((wd.length : Int) - n + 1).toNat by omega]
      refine evf_map _ (wk_rng1 (own := []) (n := (wd.length : Int) - n + 1) (ea_cons (ev_addI (ev_subI (ev_lenS (ev_var rfl) (by omega)) (ev_var rfl)) ev_c) ea_nil) (by omega)) (by rw [List.length_range]; omega) (fun _ => rfl) fun i x H4 hp e4 hy => ?_
      subst hy
      exact ei_str (ev_subS (i := i) (j := i + n) (ev_var rfl) (eo_some (ev_var rfl)) (eo_some (ev_is (ev_addI (ev_var rfl) (ev_var rfl)) (by rw [Int.natCast_add]))) (by omega))
    · refine s_retF (ds := (tally (pcs wd n)).map dP) ?_ fun p H4 n4 e4 l4 => q p H4 (fresh_back e1 n4) (e1.trans e4) l4
      rw [tally, List.map_map]
      refine evf_map _ (wkU_new (own := []) (evf_sortedS (evl_var rfl hl) (by rw [pcs_len]; unfold scanBound; omega)) (fun _ h => nomatch h)).typed (Nat.le_trans (uni_len_le _) (by rw [pcs_len]; omega)) (fun _ => rfl) fun p x H4 hp e4 hy => ?_
      have hx := hy.str_inv
      subst hx
      exact evi_pair (ev_var rfl) (ev_count (evl_var rfl (hl.ex e4)) (ev_var rfl))
theorem ok_is_counted (B : Bl mg) {f fW fI : Addr} {fd fdW fdI : FuncData} (F : Fun K "is_counted" "is_counted" s_is_counted f fd) {tL tS tM : Tok} (g_LONGEST_PIECE : mg "LONGEST_PIECE" = some (.int 5 tL)) (g_SHORTEST_PIECE : mg "SHORTEST_PIECE" = some (.int 2 tS)) (g_MOST : mg "MOST" = some (.int 56 tM)) (G_is_word : DefOk P w K mg base CX0 "is_word" 1 ["thing", "most"] spIsWord fW fdW) (G_is_between : DefOk P w K mg base CX0 "is_between" 1 ["thing", "least", "most"] spBetween fI fdI) : FnOk P w K mg base CX0 2 f fd ["thing"] (spCounted K) := by
  refine F.ok sc_is_counted (fun vs H Q E h => ?_) (fun cdv A outer s H vs Q E hr h => ?_)
  · obtain ⟨x, p, rfl, _⟩ := h
    rfl
  · obtain ⟨x, p, rfl, hx, h2, h5, ha, h1, h56, q⟩ := h
    have hu64 := hr.units
    refine ⟨_, (pss_cons (ps_if (PW.pt (pw_or (pt_not (pt_val (pe_callB (k_isi (K := K)) (by rfl) B.isinstance (by decide +kernel) (pa_cons (pv 0) (pa_cons (pe_bltn (v := .ty "tuple") (by rfl) B.tuple boot_tuple rfl) pa_nil))))) (pw_or (pt_cmpR (k_ne (K := K) hu64) (pe_callB (k_len (K := K)) (by rfl) B.len (by decide +kernel) (pa_cons (pv 0) pa_nil)) pe_int (nomark _)) (pw_or1 (pt_not (pt_val (pe_call G_is_word.ok (hr.mono (by decide)) (by rfl) G_is_word.mg G_is_word.kp G_is_word.b .nil pass0 (pa_cons (pe_ix (k_ix (K := K)) (pv 0) pe_int (fun _ _ => rfl)) (pa_cons (pe_gI g_LONGEST_PIECE) pa_nil)))))))))
        (pss_one (ps_ret pe_bl))
        pss_nil)
      (pss_one (ps_ret (pe_and (pe_cmpR op_geU (pe_callB (k_len (K := K)) (by rfl) B.len (by decide +kernel) (pa_cons (pe_ix (k_ix (K := K)) (pv 0) pe_int (fun _ _ => rfl)) pa_nil)) (pe_gI g_SHORTEST_PIECE) (nomark _)) (pe_one (pe_call G_is_between.ok (hr.mono (by decide)) (by rfl) G_is_between.mg G_is_between.kp G_is_between.b .nil pass0 (pa_cons (pe_ix (k_ix (K := K)) (pv 0) pe_int (fun _ _ => rfl)) (pa_cons pe_int (pa_cons (pe_gI g_MOST) pa_nil))))))))), ?_⟩
    have e0 : ∀ {H1 : Hp} {σ : L2.St}, Ex H H1 → σ[0]? = some (some x) → Ev (tOp (rIx K) (tVar 0) (tC (.int 0))) σ H1 (S p.1) := fun e h => EvP.str (evi_ixT (ds := [dS p.1, dN p.2]) (evi_var h (hx.ex e)) ev_c rfl)
    have e1 : ∀ {H1 : Hp} {σ : L2.St}, Ex H H1 → σ[0]? = some (some x) → Ev (tOp (rIx K) (tVar 0) (tC (.int 1))) σ H1 (vN p.2) := fun e h => EvP.int (evi_ixT (ds := [dS p.1, dN p.2]) (evi_var h (hx.ex e)) ev_c rfl)
    refine q_when (b := false) (et_is (et_or (a := false) (b := false) (et_is (et_not (et_B (b := true) (ev_isiT (ev_var rfl) hx))) rfl) fun _ => et_is (et_or (a := false) (b := false) (et_is (et_test (ev_neI (i := 2) (ev_lenT (ds := [dS p.1, dN p.2]) (evi_var rfl hx)) ev_c)) rfl) fun _ => et_is (et_not (et_B (b := true) (ev_call (ea_cons (e0 (Ex.refl _) rfl) (ea_cons ev_c ea_nil)) fun H1 e1 Q1 q1 E1 => ⟨p.1, 5, rfl, by omega, fun H2 e2 => ?_⟩))) rfl) rfl) rfl) (fun hb => nomatch hb) fun _ H1 e1' => ?_
    · have := q1 H2 e2
      rw [decide_eq_true h5, ha]
      exact this
    · refine s_ret (v := .bl true) (ev_is (ev_andV (a := true) (ev_is (ev_geI (ev_lenS (e0 e1' rfl) (by omega)) ev_c) (by rw [decide_eq_true (by omega)])) fun _ => ev_call (z := .bl true) (ea_cons (e1 e1' rfl) (ea_cons ev_c (ea_cons ev_c ea_nil))) fun H2 e2 Q2 q2 E2 => ⟨p.2, 1, 56, rfl, fun H3 e3 => ?_⟩) rfl) fun H2 e2 => q H2 (e1'.trans e2)
      rw [decide_eq_true (show (1 : Int) ≤ p.2 by omega), decide_eq_true (show (p.2 : Int) ≤ 56 by omega)]
      exact q2 H3 e3
theorem ok_check_counts (B : Bl mg) {f fC : Addr} {fd fdC : FuncData} (F : Fun K "check_counts" "check_counts" s_check_counts f fd) {tM : Tok} (g_MOST : mg "MOST" = some (.int 56 tM)) (G_is_counted : DefOk P w K mg base CX0 "is_counted" 2 ["thing"] (spCounted K) fC fdC) : FnOk P w K mg base CX0 3 f fd ["counts"] spCheckCounts := by
  refine F.ok sc_check_counts (fun vs H Q E h => ?_) (fun cdv A outer s H vs Q E hr h => ?_)
  · obtain ⟨a, n, c, rfl, _⟩ := h
    rfl
  · obtain ⟨a, n, c, rfl, hl, g, q⟩ := h
    have hu64 := hr.units
    refine ⟨_, (pss_cons (ps_if (PW.pt (pw_or (pt_not (pt_val (pe_callB (k_isi (K := K)) (by rfl) B.isinstance (by decide +kernel) (pa_cons (pv 0) (pa_cons (pe_bltn (v := .ty "list") (by rfl) B.list boot_list rfl) pa_nil))))) (pw_or (pt_cmpR (k_eq (K := K) hu64) (pv 0) (pe_lst pa_nil) (nomark _)) (pw_or1 (pt_not (pt_val (pe_callB (k_all (K := K) rfl) (by rfl) B.all (by decide +kernel) (pa_cons (pe_lc (own := [("pair", 1)]) (g := gName 1) rfl sc_check_counts.nd (k_it (K := K) (pv 0)) (blkOk_by (own := [("pair", 1)]) (N := N_check_counts) (sc := defScope s_check_counts) (by decide +kernel)) (fun _ _ _ _ _ => (pg_name (i := 1) sc_check_counts.nd rfl (by first | exact Or.inl rfl | exact Or.inr rfl))) (fun _ _ _ _ _ => pts_nil) (fun _ _ _ _ _ => (pe_call G_is_counted.ok (hr.mono (by decide)) (by rfl) G_is_counted.mg G_is_counted.kp G_is_counted.b .nil pass0 (pa_cons (pv 1) pa_nil)))) pa_nil))))))))
        (pss_one ps_never)
        pss_nil)
      (pss_cons (ps_if (pt_val (pe_callB (k_any (K := K) rfl) (by rfl) B.any (by decide +kernel) (pa_cons (pe_lc (own := [("piece", 2), ("often", 3)]) (g := gTup _ 2 (gCons (gName 2) (gCons (gName 3) (gNil)))) rfl sc_check_counts.nd (k_it (K := K) (pv 0)) (blkOk_by (own := [("piece", 2), ("often", 3)]) (N := N_check_counts) (sc := defScope s_check_counts) (by decide +kernel)) (fun _ _ _ _ _ => (pg_tup rfl (pgs_cons (pg_name (i := 2) sc_check_counts.nd rfl (by first | exact Or.inl rfl | exact Or.inr rfl)) (pgs_cons (pg_name (i := 3) sc_check_counts.nd rfl (by first | exact Or.inl rfl | exact Or.inr rfl)) pgs_nil)))) (fun _ _ _ _ _ => pts_nil) (fun _ _ _ _ _ => (pe_cmpR (k_ne (K := K) hu64) (pe_callB (k_len (K := K)) (by rfl) B.len (by decide +kernel) (pa_cons (pv 2) pa_nil)) (pe_callB (k_len (K := K)) (by rfl) B.len (by decide +kernel) (pa_cons (pe_ix (k_ix (K := K)) (pe_ix (k_ix (K := K)) (pv 0) pe_int (fun _ _ => rfl)) pe_int (fun _ _ => rfl)) pa_nil)) (nomark _)))) pa_nil)))
        (pss_one ps_never)
        pss_nil)
      (pss_cons (ps_if (pt_val (pe_callB (k_any (K := K) rfl) (by rfl) B.any (by decide +kernel) (pa_cons (pe_lc (own := [("one", 4), ("other", 5)]) (g := gTup _ 2 (gCons (gName 4) (gCons (gName 5) (gNil)))) rfl sc_check_counts.nd (pi_zip (by rfl) B.zip (pa_cons (pv 0) (pa_cons (pe_slice (k_sl (K := K)) (pv 0) (po_some pe_int) po_none) pa_nil))) (blkOk_by (own := [("one", 4), ("other", 5)]) (N := N_check_counts) (sc := defScope s_check_counts) (by decide +kernel)) (fun _ _ _ _ _ => (pg_tup rfl (pgs_cons (pg_name (i := 4) sc_check_counts.nd rfl (by first | exact Or.inl rfl | exact Or.inr rfl)) (pgs_cons (pg_name (i := 5) sc_check_counts.nd rfl (by first | exact Or.inl rfl | exact Or.inr rfl)) pgs_nil)))) (fun _ _ _ _ _ => pts_nil) (fun _ _ _ _ _ => (pe_cmpR op_geU (pe_ix (k_ix (K := K)) (pv 4) pe_int (fun _ _ => rfl)) (pe_ix (k_ix (K := K)) (pv 5) pe_int (fun _ _ => rfl)) (nomark _)))) pa_nil)))
        (pss_one ps_never)
        pss_nil)
      (pss_one (ps_if (pt_cmpR op_gt (pe_callB (k_sum (K := K) rfl) (by rfl) B.sum (by decide +kernel) (pa_cons (pe_lc (own := [("piece", 2), ("often", 3)]) (g := gTup _ 2 (gCons (gName 2) (gCons (gName 3) (gNil)))) rfl sc_check_counts.nd (k_it (K := K) (pv 0)) (blkOk_by (own := [("piece", 2), ("often", 3)]) (N := N_check_counts) (sc := defScope s_check_counts) (by decide +kernel)) (fun _ _ _ _ _ => (pg_tup rfl (pgs_cons (pg_name (i := 2) sc_check_counts.nd rfl (by first | exact Or.inl rfl | exact Or.inr rfl)) (pgs_cons (pg_name (i := 3) sc_check_counts.nd rfl (by first | exact Or.inl rfl | exact Or.inr rfl)) pgs_nil)))) (fun _ _ _ _ _ => pts_nil) (fun _ _ _ _ _ => (pv 3))) pa_nil)) (pe_gI g_MOST) (nomark _))
        (pss_one ps_never)
        pss_nil))))), ?_⟩
    have hlen := g.len
    obtain ⟨p0, c0, rfl⟩ : ∃ p0 c0, c = p0 :: c0 := by
      cases c with
      | nil => exact absurd rfl g.ne
      | cons p c => exact ⟨p, c, rfl⟩
    have hlen0 : c0.length ≤ 55 := by have : c0.length + 1 ≤ 56 := hlen; omega
    refine q_when (b := false) (et_is (et_or (a := false) (b := false) (et_is (et_not (et_B (b := true) (ev_isiL (ev_var rfl) hl))) rfl) fun _ => et_is (et_or (a := false) (b := false) (et_is (et_test (b := false) (ev_is (ev_eqD (evl_var rfl hl) mono_L (evf_lst (ds := []) eai_nil (by decide)).l dp_L dp_L g.sh (sh_list (n := 0) fun _ h => nomatch h)) rfl)) rfl) fun _ => et_is (et_not (et_B (b := true) (ev_is (ev_allM (xs := p0 :: c0) (f := fun _ => true) (evf_map _ (wkU_list (own := []) (ev_var rfl) hl (by simp)).typed (by omega) (fun _ => rfl) fun p x H1 hp e1 hy => ei_bl (ev_call (z := .bl true) (ea_cons (ev_var rfl) ea_nil) fun H2 e2 Q2 q2 E2 => ⟨x, p, rfl, hy.ex e2, ?_, ?_, (g.at' p hp).2.1, (g.at' p hp).2.2, Nat.le_trans (le_many hp) g.le, q2⟩))) (by rw [List.all_eq_true.mpr fun _ _ => rfl])))) rfl) rfl) rfl) (fun hb => nomatch hb) fun _ H1 e1 => ?_
    · rw [(g.at' p hp).1]; exact g.lo
    · rw [(g.at' p hp).1]; exact g.hi
    have hl1 := hl.ex e1
    refine q_when (b := false) (et_B (b := false) (ev_is (ev_anyM (xs := p0 :: c0) (f := fun _ => false) (evf_map2 (d1 := fun p : W × Nat => dS p.1) (d2 := fun p => dN p.2) _ (wkU_list (own := []) (ev_var rfl) hl1 (by simp)).typed (by omega) (fun _ _ => rfl) fun p x y H2 hp e2 hx hy => ?_)) (by simp))) (fun hb => nomatch hb) fun _ H2 e2 => ?_
    · have hx := hx.str_inv
      have hy := hy.int_inv
      subst hx hy
      refine ei_bl (ev_is (ev_neI (ev_lenS (ev_var rfl) (by have := (g.at' p hp).1; have := g.hi; omega)) (ev_lenS (w := p0.1) (EvP.str (evi_ixT (ds := [dS p0.1, dN p0.2]) (evi_ixL (evl_var rfl (hl1.ex e2)) ev_c (atI_nat (j := 0) rfl)) ev_c rfl)) (by have := (g.at' p0 List.mem_cons_self).1; have := g.hi; omega))) ?_)
      rw [(g.at' p hp).1, (g.at' p0 List.mem_cons_self).1]
      simp
    have hl2 := hl1.ex e2
    refine q_when (b := false) (et_B (b := false) (ev_is (ev_anyM (xs := List.range c0.length) (f := fun _ => false) (evf_map_z (d := fun _ => dB false) (wk_zip (own := []) (ds := (p0 :: c0).map dP) (es := c0.map dP) (fun H3 e3 Q3 q3 => eap_cons (evl_var rfl hl2) mono_L (eap_cons (evf_slL (lo := some ((1 : Nat) : Int)) (evl_var rfl hl2) (eo_some ev_c) eo_none).l mono_L eap_nil) H3 e3 Q3 fun vs H4 e4 p => q3 vs H4 e4 ?_) (by simp) (List.length_map _)) (by rw [List.length_range]; omega) (fun _ _ => rfl) fun i d e x y H3 hi e3 hd he hx hy => ?_)) (by simp))) (fun hb => nomatch hb) fun _ H3 e3 => ?_
    · obtain ⟨v, r, rfl, ⟨a1, rfl, l1⟩, v2, r2, rfl, ⟨a2, rfl, l2⟩, rfl⟩ := p
      refine ⟨a1, a2, rfl, by simp, by simp, l1, ?_⟩
      rw [cut_i0] at l2
      exact l2
    · rw [List.getElem?_map] at hd he
      cases hp : (p0 :: c0)[i]? with
      | none => rw [hp] at hd; cases hd
      | some p =>
        cases hp2 : c0[i]? with
        | none => rw [hp2] at he; cases he
        | some p2 =>
          rw [hp] at hd
          rw [hp2] at he
          cases hd
          cases he
          have hp3 : (p0 :: c0)[i + 1]? = some p2 := hp2
          have hlt : p.1 < p2.1 := by
            obtain ⟨b1, b2⟩ := List.getElem?_eq_some_iff.mp hp
            obtain ⟨b3, b4⟩ := List.getElem?_eq_some_iff.mp hp3
            have := List.pairwise_iff_getElem.mp g.up i (i + 1) (by rw [List.length_map]; exact b1) (by rw [List.length_map]; exact b3) (by omega)
            rw [List.getElem_map, List.getElem_map, b2, b4] at this
            exact this
          refine ei_bl (ev_is (ev_geS (EvP.str (evi_ixT (ds := [dS p.1, dN p.2]) (evi_var rfl hx) ev_c rfl)) (EvP.str (evi_ixT (ds := [dS p2.1, dN p2.2]) (evi_var rfl hy) ev_c rfl))) ?_)
          rw [decide_eq_true hlt]; rfl
    have hl3 := hl2.ex e3
    refine s_when (b := false) (et_is (et_test (ev_gtI (i := (many (p0 :: c0) : Nat)) (ev_is (ev_sum (ns := (p0 :: c0).map fun p => ((p.2 : Nat) : Int)) ?_) (by rw [natSum]; rfl)) ev_c)) (decide_eq_false (by have := g.le; omega))) (fun hb => nomatch hb) fun _ H4 e4 => q H4 (((e1.trans e2).trans e3).trans e4)
    rw [List.map_map]
    refine evf_map2 (d1 := fun p : W × Nat => dS p.1) (d2 := fun p => dN p.2) _ (wkU_list (own := []) (ev_var rfl) hl3 (by simp)).typed (by omega) (fun _ _ => rfl) fun p x y H4 hp e4 hx hy => ?_
    have hy := hy.int_inv
    subst hy
    exact ei_int (ev_var rfl)
theorem ok_together (B : Bl mg) {f fC : Addr} {fd fdC : FuncData} (F : Fun K "together" "together" s_together f fd) {tM : Tok} (g_MOST : mg "MOST" = some (.int 56 tM)) (G_check_counts : DefOk P w K mg base CX0 "check_counts" 3 ["counts"] spCheckCounts fC fdC) : FnOk P w K mg base CX0 4 f fd ["one", "other"] spTogether := by
  refine F.ok sc_together (fun vs H Q E h => ?_) (fun cdv A outer s H vs Q E hr h => ?_)
  · obtain ⟨a, b, n, c, d, rfl, _⟩ := h
    rfl
  · obtain ⟨a, b, n, c, d, rfl, hc, hd, gc, gd, hm, q⟩ := h
    have hu64 := hr.units
    refine ⟨_, (pss_cons (ps_expr (pe_call G_check_counts.ok (hr.mono (by decide)) (by rfl) G_check_counts.mg G_check_counts.kp G_check_counts.b .nil pass0 (pa_cons (pv 0) pa_nil)))
      (pss_cons (ps_expr (pe_call G_check_counts.ok (hr.mono (by decide)) (by rfl) G_check_counts.mg G_check_counts.kp G_check_counts.b .nil pass0 (pa_cons (pv 1) pa_nil)))
      (pss_cons (ps_if (pt_cmpR (k_ne (K := K) hu64) (pe_callB (k_len (K := K)) (by rfl) B.len (by decide +kernel) (pa_cons (pe_ix (k_ix (K := K)) (pe_ix (k_ix (K := K)) (pv 0) pe_int (fun _ _ => rfl)) pe_int (fun _ _ => rfl)) pa_nil)) (pe_callB (k_len (K := K)) (by rfl) B.len (by decide +kernel) (pa_cons (pe_ix (k_ix (K := K)) (pe_ix (k_ix (K := K)) (pv 1) pe_int (fun _ _ => rfl)) pe_int (fun _ _ => rfl)) pa_nil)) (nomark _))
        (pss_one ps_never)
        pss_nil)
      (pss_cons (ps_if (pt_cmpR op_gt (pe_callB (k_sum (K := K) rfl) (by rfl) B.sum (by decide +kernel) (pa_cons (pe_lc (own := [("piece", 3), ("often", 4)]) (g := gTup _ 2 (gCons (gName 3) (gCons (gName 4) (gNil)))) rfl sc_together.nd (k_it (K := K) (pe_op op_addU (pv 0) (pv 1))) (blkOk_by (own := [("piece", 3), ("often", 4)]) (N := N_together) (sc := defScope s_together) (by decide +kernel)) (fun _ _ _ _ _ => (pg_tup rfl (pgs_cons (pg_name (i := 3) sc_together.nd rfl (by first | exact Or.inl rfl | exact Or.inr rfl)) (pgs_cons (pg_name (i := 4) sc_together.nd rfl (by first | exact Or.inl rfl | exact Or.inr rfl)) pgs_nil)))) (fun _ _ _ _ _ => pts_nil) (fun _ _ _ _ _ => (pv 4))) pa_nil)) (pe_gI g_MOST) (nomark _))
        (pss_one ps_never)
        pss_nil)
      (pss_cons (ps_set (i := 2) sc_together.nd rfl (by first | exact Or.inl rfl | exact Or.inr rfl) pe_dnewK)
      (pss_cons (ps_for PassesOwn.never rfl (k_it (K := K) (pe_op op_addU (pv 0) (pv 1))) (pg_tup rfl (pgs_cons (pg_name (i := 3) sc_together.nd rfl (by first | exact Or.inl rfl | exact Or.inr rfl)) (pgs_cons (pg_name (i := 4) sc_together.nd rfl (by first | exact Or.inl rfl | exact Or.inr rfl)) pgs_nil)))
        (pss_one (ps_dput (u1 hu64) (pv 2) (pv 3) (pe_op op_addU (pe_dget2 (u1 hu64) (pv 2) (pv 3) pe_int ⟨by rfl, by rfl, by rfl, by rfl⟩) (pv 4)) (by rfl))))
      (pss_one (ps_ret (pe_lc (own := [("piece", 3)]) (g := gName 3) rfl sc_together.nd (k_it (K := K) (pe_callB (k_sortedD rfl) (by rfl) B.sorted (by decide +kernel) (pa_cons (pv 2) pa_nil))) (blkOk_by (own := [("piece", 3)]) (N := N_together) (sc := defScope s_together) (by decide +kernel)) (fun _ _ _ _ _ => (pg_name (i := 3) sc_together.nd rfl (by first | exact Or.inl rfl | exact Or.inr rfl))) (fun _ _ _ _ _ => pts_nil) (fun _ _ _ _ _ => (pe_tup (pa_cons (pv 3) (pa_cons (pe_dget (u1 hu64) (pv 2) (pv 3) (fun _ _ => rfl)) pa_nil))))))))))))), ?_⟩
    have lc : c.length ≤ many c := len_many fun p hp => (gc.at' p hp).2.2
    have ld : d.length ≤ many d := len_many fun p hp => (gd.at' p hp).2.2
    refine q_drop (v := .non) (ev_call (ea_cons (ev_var rfl) ea_nil) fun H1 e1 Q1 q1 E1 => ⟨a, n, c, rfl, hc.ex e1, gc, q1⟩) fun H1 e1 => ?_
    refine q_drop (v := .non) (ev_call (ea_cons (ev_var rfl) ea_nil) fun H2 e2 Q1 q1 E1 => ⟨b, n, d, rfl, hd.ex (e1.trans e2), gd, q1⟩) fun H2 e2 => ?_
    have hc2 := hc.ex (e1.trans e2)
    have hd2 := hd.ex (e1.trans e2)
    have first : ∀ {c : Cs} {a : Addr} {i : Nat} {H3 : Hp} {σ : L2.St}, Good n c → Ls H3 a (c.map dP) → σ[i]? = some (some (.ref a)) → Ev (tCB (rLenU K) (tCons (tOp (rIx K) (tOp (rIx K) (tVar i) (tC (.int 0))) (tC (.int 0))) tNil)) σ H3 (vN n) := fun {c a i H3 σ} g hl hσ => by
      cases c with
      | nil => exact absurd rfl g.ne
      | cons p c =>
        have h1 := (g.at' p List.mem_cons_self).1
        refine ev_is (ev_lenS (w := p.1) (EvP.str (evi_ixT (ds := [dS p.1, dN p.2]) (evi_ixL (evl_var hσ hl) ev_c (atI_nat (j := 0) rfl)) ev_c rfl)) (by have := g.hi; omega)) (by rw [h1])
    refine q_when (b := false) (et_is (et_test (ev_neI (i := (n : Int)) (j := (n : Int)) (first gc hc2 rfl) (first gd hd2 rfl))) (by simp)) (fun hb => nomatch hb) fun _ H3 e3 => ?_
    have hcd : ∀ {H4 : Hp} {σ : L2.St}, Ex H3 H4 → σ[0]? = some (some (.ref a)) → σ[1]? = some (some (.ref b)) → EvF (tOp rAddU (tVar 0) (tVar 1)) σ H4 ((c ++ d).map dP) := fun e h0 h1 => by
      rw [List.map_append]
      exact evf_cat (evl_var h0 (hc2.ex (e3.trans e))) (evl_var h1 (hd2.ex (e3.trans e))) (by rw [List.length_map, List.length_map]; omega)
    have hlen : (c ++ d).length ≤ 56 := by rw [List.length_append]; omega
    refine q_when (b := false) (et_is (et_test (ev_gtI (i := (many (c ++ d) : Nat)) (ev_is (ev_sum (ns := (c ++ d).map fun p => ((p.2 : Nat) : Int)) ?_) (by rw [natSum]; rfl)) ev_c)) (decide_eq_false (by rw [many_app]; omega))) (fun hb => nomatch hb) fun _ H4 e4 => ?_
    · rw [List.map_map]
      refine evf_map2 (d1 := fun p : W × Nat => dS p.1) (d2 := fun p => dN p.2) _ (wkU_new (own := []) (hcd (Ex.refl _) rfl rfl) (fun _ h => nomatch h)).typed (by omega) (fun _ _ => rfl) fun p x y H4 hp e4 hx hy => ?_
      have hy := hy.int_inv
      subst hy
      exact ei_int (ev_var rfl)
    have e04 : Ex H H4 := ((e1.trans e2).trans e3).trans e4
    refine q_dnew fun l nl hD => ?_
    have exl : Ex H4 (upd H4 l (.dK [])) := Ex.new nl
    refine q_wk (own := [l]) (wkU_new (hcd (e4.trans exl) rfl rfl) (fun z hz => by rw [List.mem_singleton.mp hz, upd_same]; simp)).typed (fun i σ' H' => ∃ y3 y4, σ' = [some (.ref a), some (.ref b), some (.ref l), y3, y4] ∧ DF H' l (cfS ((c ++ d).take i)) i) (fun H5 e5 => ⟨none, none, rfl, by rw [List.take_zero]; exact hD.ex e5⟩) ?_ ?_
    · rintro H5 e5 i p σ' H6 x H7 hp k ⟨y3, y4, rfl, hL⟩ e7 hx
      refine g_two (d1 := dS p.1) (d2 := dN p.2) hx fun v1 v2 i1 i2 => ?_
      have i1 := i1.str_inv
      have i2 := i2.int_inv
      subst i1 i2
      have hi := (List.getElem?_eq_some_iff.mp hp).1
      have hL7 := hL.ex e7
      refine s_dput (P := isV (vN (cnt ((c ++ d).take i) p.1 + p.2))) (ev_is (ev_addI (i := ((cnt ((c ++ d).take i) p.1 : Nat) : Int)) (ev_is (ev_dget2 (ev_var rfl) hL7 (ev_var rfl) ev_c) (cfS_get _ _)) (ev_var rfl)) (by show _ = V.int _; rw [Int.natCast_add])).p (ev_var rfl) hL7 (sz5 (by omega)) (ev_var rfl) ?_
      rintro v H8 H9 kvs kvs' e8 rfl e9 h9 hF
      rw [cfS_step] at hF
      refine ⟨(((k.then e7).then e8).then e9).mut List.mem_cons_self h9 (fun _ z => nomatch z), _, _, rfl, ?_⟩
      rw [List.take_add_one, hp]
      exact hF
    · rintro H5 e5 σ' H' k ⟨y3, y4, rfl, hL⟩
      rw [List.take_length] at hL
      have ex : Ex H H' := e04.trans (((((Ek.refl H4).put nl).then e5).trans k).less nl).ex
      refine s_retF (ds := (tot (c ++ d)).map dP) ?_ fun p H6 n6 e6 l6 => q p H6 (fresh_back ex n6) (ex.trans e6) l6
      rw [tot, List.map_map]
      refine evf_map _ (wkU_new (own := []) (evf_sortedD (ws := keys (c ++ d)) (ev_var rfl) hL (by omega) (cfS_some _)) (fun _ h => nomatch h)).typed (Nat.le_trans (uni_len_le _) (by rw [List.length_map]; omega)) (fun _ => rfl) fun p x H6 hp e6 hy => ?_
      have hx := hy.str_inv
      subst hx
      exact evi_pair (ev_var rfl) (ev_dget (ev_var rfl) (hL.ex e6) (ev_var rfl) (cfS_at (mem_uni.mp hp)))
theorem ok__law_cell_at (B : Bl mg) {f : Addr} {fd : FuncData} (F : Fun K "_law_cell_at" "_law_cell_at" s__law_cell_at f fd) : FnOk P w K mg base CX0 1 f fd ["_law_script", "_law_k"] (spCellAt K) := by
  refine F.ok sc__law_cell_at (fun vs H Q E h => ?_) (fun cdv A outer s H vs Q E hr h => ?_)
  · obtain ⟨a, ns, k, rfl, _⟩ := h
    rfl
  · obtain ⟨a, ns, k, rfl, hS, hl, q⟩ := h
    refine ⟨_, (pss_cons (ps_if (pt_cmpR op_ltU (pv 1) (pe_callB (k_len (K := K)) (by rfl) B.len (by decide +kernel) (pa_cons (pv 0) pa_nil)) (nomark _))
        (pss_one (ps_ret (pe_ix (k_ix (K := K)) (pv 0) (pv 1) (fun _ _ => rfl))))
        pss_nil)
      (pss_one (ps_ret pe_int))), ?_⟩
    have elen : Ev (tCB (rLenU K) (tCons (tVar 0) tNil)) (start N__law_cell_at [.ref a, .int (k : Int)]) H (.int (ns.length : Int)) := ev_cbV (EvA.p (ea_cons (ev_var rfl) ea_nil)) fun vs H2 e2 hp Q q => by
      subst hp
      exact ⟨.ref a, ns.length, rfl, .inl ⟨_, ex_l e2 hS, by rw [List.length_map]⟩, q⟩
    refine q_when (et_test (ev_ltI (ev_var rfl) elen)) (fun hb H1 e1 => ?_) (fun hb H1 e1 => ?_)
    · have hk : k < ns.length := by have := of_decide_eq_true hb; omega
      refine s_ret (v := .int (ns.getD k 0)) (ev_op (ev_var rfl) (ev_var rfl) (rv_val fun H2 e2 Q2 q2 => .inl ⟨a, ns.map V.int, k, _, rfl, rfl, ex_l (e1.trans e2) hS, atI_nat ?_, q2⟩)) fun H2 e2 => q H2 (e1.trans e2)
      rw [List.getElem?_map, List.getElem?_eq_getElem hk, List.getD_eq_getElem?_getD, List.getElem?_eq_getElem hk]
      rfl
    · have hk : ns.length ≤ k := by have := of_decide_eq_false hb; omega
      refine s_ret ev_c fun H2 e2 => ?_
      have := q H2 (e1.trans e2)
      rw [List.getD_eq_getElem?_getD, List.getElem?_eq_none hk] at this
      exact this
theorem ok__law_draw (B : Bl mg) {f : Addr} {fd : FuncData} (F : Fun K "_law_draw" "_law_draw" s__law_draw f fd) : FnOk P w K mg base CX0 1 f fd ["_law_cell", "_law_k", "_law_most"] spDraw := by
  refine F.ok sc__law_draw (fun vs H Q E h => ?_) (fun cdv A outer s H vs Q E hr h => ?_)
  · obtain ⟨c, k, m, rfl, _⟩ := h
    rfl
  · obtain ⟨c, k, m, rfl, hc, hk, hm, q⟩ := h
    refine ⟨_, (pss_cons (ps_set (i := 3) sc__law_draw.nd rfl (by first | exact Or.inl rfl | exact Or.inr rfl) (pe_tup (pa_cons pe_int (pa_cons pe_int (pa_cons pe_int (pa_cons pe_int (pa_cons pe_int (pa_cons pe_int (pa_cons pe_int (pa_cons pe_int (pa_cons pe_int (pa_cons pe_int (pa_cons pe_int (pa_cons pe_int (pa_cons pe_int (pa_cons pe_int (pa_cons pe_int (pa_cons pe_int pa_nil))))))))))))))))))
      (pss_one (ps_ret (pe_op op_mod (pe_op op_mod (pe_op op_addU (pe_op op_mulU (pv 0) pe_int) (pe_op op_mulU (pv 1) pe_int)) (pe_ix (k_ix (K := K)) (pv 3) (pe_op op_mod (pv 1) pe_int) (fun _ _ => rfl))) (pv 2))))), ?_⟩
    refine q_asgP (P := isI (.tuple (primes.map dI))) (evi_tup (eai_cons (ei_int ev_c) (eai_cons (ei_int ev_c) (eai_cons (ei_int ev_c) (eai_cons (ei_int ev_c) (eai_cons (ei_int ev_c) (eai_cons (ei_int ev_c) (eai_cons (ei_int ev_c) (eai_cons (ei_int ev_c) (eai_cons (ei_int ev_c) (eai_cons (ei_int ev_c) (eai_cons (ei_int ev_c) (eai_cons (ei_int ev_c) (eai_cons (ei_int ev_c) (eai_cons (ei_int ev_c) (eai_cons (ei_int ev_c) (eai_cons (ei_int ev_c) eai_nil)))))))))))))))) (by decide)) fun v H1 e1 hv => ?_
    have hi : k % 16 < primes.length := Nat.mod_lt _ (by decide)
    obtain ⟨p, hp⟩ : ∃ p, primes[k % 16]? = some p := ⟨_, List.getElem?_eq_getElem hi⟩
    have pp : 0 < p := primes_pos p (List.mem_of_getElem? hp)
    refine s_ret (ev_modI (ev_modI (ev_addI (ev_mulI (ev_var rfl) ev_c (cmul_small (Nat.lt_trans hc (Nat.pow_lt_pow_right (by decide) (by decide))) (small_lt (by decide)))) (ev_mulI (ev_var rfl) ev_c (cmul_small (small_lt (by omega)) (small_lt (by decide)))))
      (EvP.int (i := p) (evi_ixT (evi_var rfl hv) (ev_modI (ev_var rfl) ev_c (by decide)) ?_)) pp) (ev_var rfl) hm) fun H2 e2 => ?_
    · rw [show (k : Int) % 16 = ((k % 16 : Nat) : Int) by omega]
      exact atI_nat (by rw [List.getElem?_map, hp]; rfl)
    · exact q _ (Int.emod_nonneg _ (by omega)) (Int.emod_lt_of_pos _ hm) H2 (e1.trans e2)
theorem ok__law_number (B : Bl mg) {f fD : Addr} {fd fdD : FuncData} (F : Fun K "_law_number" "_law_number" s__law_number f fd) (G__law_draw : DefOk P w K mg base CX0 "_law_draw" 1 ["_law_cell", "_law_k", "_law_most"] spDraw fD fdD) : FnOk P w K mg base CX0 2 f fd ["_law_cell", "_law_k", "_law_limit"] spNumber := by
  refine F.ok sc__law_number (fun vs H Q E h => ?_) (fun cdv A outer s H vs Q E hr h => ?_)
  · obtain ⟨c, k, m, rfl, _⟩ := h
    rfl
  · obtain ⟨c, k, m, rfl, hk, hm, hm2, q⟩ := h
    refine ⟨_, (pss_cons (ps_if (pt_cmpR op_geU (pv 0) (pe_op op_pow pe_int pe_int) (nomark _))
        (pss_cons (ps_set (i := 3) sc__law_number.nd rfl (by first | exact Or.inl rfl | exact Or.inr rfl) (pe_ix (k_ix (K := K)) (pe_tup (pa_cons pe_int (pa_cons pe_int (pa_cons pe_int (pa_cons pe_int (pa_cons pe_int pa_nil)))))) (pe_op op_mod (pv 1) pe_int) (fun _ _ => rfl)))
        (pss_one (ps_ret (pe_op op_fdivW (pe_op op_mod (pe_op op_sub (pv 0) (pe_op op_pow pe_int pe_int)) (pe_op op_mulU (pv 3) (pv 2))) (pv 3)))))
        pss_nil)
      (Evl.pss_cut (ps_if (pt_cmpR op_ltU (pv 0) (pe_un un_neg (pe_op op_pow pe_int pe_int)) (nomark _))
        (pss_one (ps_set (i := 0) sc__law_number.nd rfl (by first | exact Or.inl rfl | exact Or.inr rfl) (pe_op op_mod (pv 0) pe_int)))
        pss_nil)
      (pss_one (ps_ret (pe_op op_mod (pe_call G__law_draw.ok (hr.mono (by decide)) (by rfl) G__law_draw.mg G__law_draw.kp G__law_draw.b .nil pass0 (pa_cons (pe_op op_mulU (pe_op op_addU (pv 0) (pe_op op_mulU pe_int (pv 1))) (pe_op op_addU (pe_op op_addU (pv 0) (pe_op op_mulU pe_int (pv 1))) pe_int)) (pa_cons (pe_op op_addU (pe_op op_mod (pv 1) pe_int) pe_int) (pa_cons pe_int pa_nil)))) (pv 2)))))), ?_⟩
    refine q_when (et_test (ev_geI (ev_var rfl) (ev_pow18 ev_c ev_c))) (fun hb H1 e1 => ?_) (fun hb H1 e1 => ?_)
    · have hi : k % 5 < ([1, 7, 49, 343, 2401] : List Int).length := Nat.mod_lt _ (by decide)
      obtain ⟨d, hd⟩ : ∃ d, ([1, 7, 49, 343, 2401] : List Int)[k % 5]? = some d := ⟨_, List.getElem?_eq_getElem hi⟩
      have d0 : 0 < d ∧ d < 2402 := of_decide_eq_true (List.all_eq_true.mp (show ([1, 7, 49, 343, 2401] : List Int).all (fun d => decide (0 < d ∧ d < 2402)) = true by decide) d (List.mem_of_getElem? hd))
      refine q_asg (v := .int d) (EvP.int (evi_ixT (ds := [1, 7, 49, 343, 2401].map dI) (evi_tup (eai_cons (ei_int ev_c) (eai_cons (ei_int ev_c) (eai_cons (ei_int ev_c) (eai_cons (ei_int ev_c) (eai_cons (ei_int ev_c) eai_nil))))) (by decide)) (ev_modI (ev_var rfl) ev_c (by decide)) ?_)) fun H2 e2 => ?_
      · rw [show (k : Int) % 5 = ((k % 5 : Nat) : Int) by omega]
        exact atI_nat (by rw [List.getElem?_map, hd]; rfl)
      · have hdm : 0 < d * m := Int.mul_pos d0.1 hm
        refine s_ret (ev_fdivI (ev_modI (ev_subI (ev_var rfl) (ev_pow18 ev_c ev_c)) (ev_mulI (ev_var rfl) (ev_var rfl) (cmul_small (small_lt (by omega)) (small_lt (by omega)))) hdm) (ev_var rfl) (cdiv_small d0.1 ?_)) fun H3 e3 => q _ ?_ ?_ H3 ((e1.trans e2).trans e3)
        · exact Int.lt_trans d0.2 (by decide)
        · exact Int.ediv_nonneg (Int.emod_nonneg _ (by omega)) (by omega)
        · exact Int.ediv_lt_of_lt_mul d0.1 (by rw [Int.mul_comm m d]; exact Int.emod_lt_of_pos _ hdm)
    · have hc1 : c < 1000000000000000000 := by have := of_decide_eq_false hb; exact Int.not_le.mp this
      refine q_cutW (fun σ' H' => ∃ c' : Int, σ' = [some (.int c'), some (.int (k : Int)), some (.int m), none] ∧ c'.natAbs < 2 ^ 200 ∧ Ex H H') ?_ ?_
      · refine s_when (et_test (ev_ltI (ev_var rfl) (ev_neg (ev_pow18 ev_c ev_c)))) (fun hb2 H2 e2 => ?_) (fun hb2 H2 e2 => ⟨c, rfl, ?_, e1.trans e2⟩)
        · refine s_asg (ev_modI (ev_var rfl) ev_c (by decide)) fun H3 e3 => ⟨_, rfl, ?_, (e1.trans e2).trans e3⟩
          have h1 := Int.emod_nonneg c (b := 1000811284336359577647248616306026718125307353262274591) (by decide)
          have h2 := Int.emod_lt_of_pos c (b := 1000811284336359577647248616306026718125307353262274591) (by decide)
          have h3 : (1000811284336359577647248616306026718125307353262274591 : Int) < ((2 ^ 200 : Nat) : Int) := by decide
          omega
        · have := of_decide_eq_false hb2
          have h4 : -1000000000000000000 ≤ c := Int.not_lt.mp this
          have h5 : 1000000000000000000 < 2 ^ 200 := by decide
          omega
      · rintro σ' H2 ⟨c', rfl, hc', e2⟩
        have l1 : (c' + 977 * (k : Int)).natAbs < 2 ^ 201 := by
          have : (2 ^ 201 : Nat) = 2 * 2 ^ 200 := by decide
          have h7 : 977 * 1000 < 2 ^ 200 := by decide
          omega
        have l2 : (c' + 31 * (k : Int) + 5).natAbs < 2 ^ 201 := by
          have : (2 ^ 201 : Nat) = 2 * 2 ^ 200 := by decide
          have h7 : 977 * 1000 < 2 ^ 200 := by decide
          omega
        refine s_retP (P := fun v _ => ∃ r : Int, v = .int r ∧ 0 ≤ r ∧ r < m) (evp_op (P1 := fun v _ => ∃ r : Int, v = .int r) (evp_call (EvA.p (ea_cons (ev_mulI (ev_addI (ev_var rfl) (ev_mulI ev_c (ev_var rfl) (cmul_small (small_lt (by decide)) (small_lt (by omega))))) (ev_addI (ev_addI (ev_var rfl) (ev_mulI ev_c (ev_var rfl) (cmul_small (small_lt (by decide)) (small_lt (by omega))))) ev_c) (wide_mul l1 l2 (by decide) (by decide) (by decide)))
          (ea_cons (ev_addI (ev_modI (ev_var rfl) ev_c (by decide)) ev_c) (ea_cons ev_c ea_nil)))) fun vs H3 e3 hp Q3 E3 q3 => ?_) (fun _ _ _ _ h => h) (EvP.int (evi_var rfl (It.int m))).p ?_) fun v H3 e3 ⟨r, e, h0, h1⟩ => ?_
        · subst hp
          refine ⟨_, k % 9 + 1, 999983, ?_, Nat.lt_of_lt_of_le (wide_lt l1 l2) (Nat.pow_le_pow_right (by decide) (by decide)), by omega, by decide, fun r _ _ H4 e4 => q3 _ H4 e4 ⟨r, rfl⟩⟩
          rw [show (k : Int) % 9 + 1 = ((k % 9 + 1 : Nat) : Int) by omega]
          rfl
        · rintro x y H3 e3 ⟨r, rfl⟩ rfl Q3 q3
          exact ⟨r, m, rfl, rfl, hm, q3 _ H3 (Ex.refl _) ⟨_, rfl, Int.emod_nonneg _ (by omega), Int.emod_lt_of_pos _ hm⟩⟩
        · subst e
          exact q r h0 h1 H3 (e2.trans e3)
theorem ok__law_word (B : Bl mg) {f fC fN : Addr} {fd fdC fdN : FuncData} (F : Fun K "_law_word" "_law_word" s__law_word f fd) (G__law_cell_at : DefOk P w K mg base CX0 "_law_cell_at" 1 ["_law_script", "_law_k"] (spCellAt K) fC fdC) (G__law_number : DefOk P w K mg base CX0 "_law_number" 2 ["_law_cell", "_law_k", "_law_limit"] spNumber fN fdN) : FnOk P w K mg base CX0 3 f fd ["_law_script", "_law_by", "_law_most"] (spWord K) := by
  refine F.ok sc__law_word (fun vs H Q E h => ?_) (fun cdv A outer s H vs Q E hr h => ?_)
  · obtain ⟨a, ns, k, m, rfl, _⟩ := h
    rfl
  · obtain ⟨a, ns, k, m, rfl, hS, hl, hk, hm, q⟩ := h
    have hu64 := hr.units
    refine ⟨_, (pss_cons (ps_set (i := 3) sc__law_word.nd rfl (by first | exact Or.inl rfl | exact Or.inr rfl) (pe_call G__law_cell_at.ok (hr.mono (by decide)) (by rfl) G__law_cell_at.mg G__law_cell_at.kp G__law_cell_at.b .nil pass0 (pa_cons (pv 0) (pa_cons (pv 1) pa_nil))))
      (pss_cons (ps_par3 (i := 4) (j := 5) (l := 6) (by rfl) sc__law_word.nd rfl rfl rfl (by decide) (by decide) (by decide) rfl rfl rfl (pa_cons (pe_call G__law_number.ok (hr.mono (by decide)) (by rfl) G__law_number.mg G__law_number.kp G__law_number.b .nil pass0 (pa_cons (pv 3) (pa_cons (pe_op op_addU (pv 1) pe_int) (pa_cons (pe_op op_addU (pv 2) pe_int) pa_nil)))) (pa_cons (pe_op op_addU pe_int (pe_call G__law_number.ok (hr.mono (by decide)) (by rfl) G__law_number.mg G__law_number.kp G__law_number.b .nil pass0 (pa_cons (pv 3) (pa_cons (pe_op op_addU (pv 1) pe_int) (pa_cons pe_int pa_nil))))) (pa_cons pe_str pa_nil))) (by rfl))
      (pss_cons (ps_for PassesOwn.never rfl (pi_range1 (by rfl) B.range (pa_cons (pv 4) pa_nil)) (pg_name (i := 7) sc__law_word.nd rfl (by first | exact Or.inl rfl | exact Or.inr rfl))
        (pss_cons (ps_set (i := 8) sc__law_word.nd rfl (by first | exact Or.inl rfl | exact Or.inr rfl) (pe_call G__law_number.ok (hr.mono (by decide)) (by rfl) G__law_number.mg G__law_number.kp G__law_number.b .nil pass0 (pa_cons (pe_op op_addU (pe_call G__law_cell_at.ok (hr.mono (by decide)) (by rfl) G__law_cell_at.mg G__law_cell_at.kp G__law_cell_at.b .nil pass0 (pa_cons (pv 0) (pa_cons (pe_op op_addU (pv 1) (pv 7)) pa_nil))) (pe_op op_mulU pe_int (pv 7))) (pa_cons (pe_op op_addU (pv 7) (pv 1)) (pa_cons pe_int pa_nil)))))
        (pss_cons (ps_set (i := 9) sc__law_word.nd rfl (by first | exact Or.inl rfl | exact Or.inr rfl) (pe_ix (k_ix (K := K)) pe_str (pe_op op_mod (pv 8) (pv 5)) (fun _ _ => rfl)))
        (Evl.pss_cut (ps_if (PW.pt (pw_and (pt_cmpR (k_eq (K := K) hu64) (pe_op op_mod (pe_op op_fdivW (pv 8) (pv 5)) pe_int) pe_int (nomark _)) (pw_and1 (pt_cmpR op_gt (pv 7) pe_int (nomark _)))))
          (pss_one (ps_set (i := 9) sc__law_word.nd rfl (by first | exact Or.inl rfl | exact Or.inr rfl) (pe_ix (k_ix (K := K)) (pv 6) (pe_op op_mod (pv 7) pe_int) (fun _ _ => rfl))))
          pss_nil)
        (pss_one (ps_set (i := 6) sc__law_word.nd rfl (by first | exact Or.inl rfl | exact Or.inr rfl) (pe_op op_addU (pv 6) (pv 9))))))))
      (pss_one (ps_ret (pv 6)))))), ?_⟩
    refine q_asg (ev_call (ea_cons (ev_var rfl) (ea_cons (ev_var rfl) ea_nil)) (spV_cell hS hl)) fun H1 e1 => ?_
    refine q_par3P (P1 := isNum ((m : Int) + 1)) (P2 := fun v _ => ∃ r : Nat, v = .int (r : Int) ∧ 2 ≤ r ∧ r ≤ 4) (evp_call (EvA.p (ea_cons (ev_var rfl) (ea_cons (ev_addI (ev_var rfl) ev_c) (ea_cons (ev_addI (ev_var rfl) ev_c) ea_nil)))) fun vs H2 e2 hp => ?_) mono_num
      (evp_op (ev_c (v := .int 2)).p mono_V (evp_call (P := isNum 3) (EvA.p (ea_cons (ev_var rfl) (ea_cons (ev_addI (ev_var rfl) ev_c) (ea_cons ev_c ea_nil)))) fun vs H2 e2 hp => ?_) fun x y H2 e2 hx hy Q2 q2 => ?_) (fun _ _ _ _ h => h) (P3 := isV (S [])) ev_c.p fun x y z H2 e2 hx hy hz => ?_
    · subst hp
      have := spP_number (c := ns.getD k 0) (k := k + 1) (m := (m : Int) + 1) (H := H2) (by omega) (by omega) (by omega)
      exact this
    · subst hp
      have := spP_number (c := ns.getD k 0) (k := k + 2) (m := 3) (H := H2) (by omega) (by omega) (by omega)
      exact this
    · obtain rfl : x = .int 2 := hx
      obtain ⟨r, rfl, h0, h1⟩ := hy
      exact .inl ⟨2, r, rfl, rfl, q2 _ H2 (Ex.refl _) ⟨(2 + r).toNat, by rw [Int.toNat_of_nonneg (by omega)], by omega, by omega⟩⟩
    · obtain ⟨n, rfl, n0, n1⟩ := hx
      obtain ⟨wide, rfl, w0, w1⟩ := hy
      obtain rfl : z = S [] := hz
      refine q_wk (own := []) (wk_rng1 (n := n) (ea_cons (ev_var rfl) ea_nil) (by omega)) (fun i σ' H' => ∃ wd y7 y8 y9, σ' = [some (.ref a), some (.int (k : Int)), some (.int (m : Int)), some (.int (ns.getD k 0)), some (.int n), some (.int (wide : Int)), some (S wd), y7, y8, y9] ∧ wd.length = i ∧ wd.all abcd = true) (fun H3 e3 => ⟨[], none, none, none, rfl, rfl, rfl⟩) ?_ ?_
      · rintro H3 e3 i a' σ' H4 x H5 ha k4 ⟨wd, y7, y8, y9, rfl, hwl, hwa⟩ e5 rfl
        have hi : i < n.toNat := by have := (List.getElem?_eq_some_iff.mp ha).1; rwa [List.length_range] at this
        rw [List.getElem?_range hi] at ha
        cases ha
        have eS : Ex H H5 := ((((e1.trans e2).trans e3).trans k4.ex).trans e5)
        have hS5 := ex_l eS hS
        refine q_asgP (P := isNum 60) (evp_call (EvA.p (ea_cons (ev_addI (ev_call (ea_cons (ev_var rfl) (ea_cons (ev_is (ev_addI (ev_var rfl) (ev_var rfl)) (w := .int ((k + i : Nat) : Int)) (by congr 1)) ea_nil)) (spV_cell hS5 hl)) (ev_mulI ev_c (ev_var rfl) (cmul_small (small_lt (by decide)) (small_lt (by omega))))) (ea_cons (ev_is (ev_addI (ev_var rfl) (ev_var rfl)) (w := .int ((i + k : Nat) : Int)) (by congr 1)) (ea_cons ev_c ea_nil)))) fun vs H6 e6 hp => ?_) fun v H6 e6 hv => ?_
        · subst hp
          exact spP_number (by omega) (by omega) (by omega)
        · obtain ⟨r, rfl, r0, r1⟩ := hv
          have hrw := Int.emod_nonneg r (b := (wide : Int)) (by omega)
          have hrw2 := Int.emod_lt_of_pos r (b := (wide : Int)) (by omega)
          obtain ⟨j, hj⟩ : ∃ j : Nat, r % (wide : Int) = (j : Int) := ⟨(r % (wide : Int)).toNat, by omega⟩
          have hj4 : j < ([97, 98, 99, 100] : List Nat).length := by show j < 4; omega
          obtain ⟨c, hc⟩ : ∃ c, ([97, 98, 99, 100] : List Nat)[j]? = some c := ⟨_, List.getElem?_eq_getElem hj4⟩
          refine q_asg (v := S [c]) (ev_ixS (w := [97, 98, 99, 100]) ev_c (ev_modI (ev_var rfl) (ev_var rfl) (by omega)) (by decide) ?_) fun H7 e7 => ?_
          · rw [hj]; exact atI_nat hc
          · refine q_cutW (fun σ' H' => ∃ c2, σ' = [some (.ref a), some (.int (k : Int)), some (.int (m : Int)), some (.int (ns.getD k 0)), some (.int n), some (.int (wide : Int)), some (S wd), some (.int (i : Int)), some (.int r), some (S [c2])] ∧ abcd c2 = true ∧ Ex H7 H') ?_ ?_
            · refine s_when (b := decide (r / (wide : Int) % 5 = 0) && decide (2 < (i : Int))) (et_and (et_test (ev_eqI (ev_modI (ev_fdivI (ev_var rfl) (ev_var rfl) (cdiv_small (by omega) (Int.lt_of_le_of_lt (show (wide : Int) ≤ 4 by omega) (by decide)))) ev_c (by decide)) ev_c)) fun _ => et_test (ev_gtI (ev_var rfl) ev_c)) (fun hb H8 e8 => ?_) (fun hb H8 e8 => ⟨c, rfl, decide_eq_true (List.mem_of_getElem? hc), e8⟩)
              have hi2 : 2 < i := by have := of_decide_eq_true (Bool.and_eq_true_iff.mp hb).2; omega
              have h3 : i % 3 < wd.length := by omega
              obtain ⟨c2, hc2⟩ : ∃ c2, wd[i % 3]? = some c2 := ⟨_, List.getElem?_eq_getElem h3⟩
              refine s_asg (v := S [c2]) (ev_ixS (ev_var rfl) (ev_modI (ev_var rfl) ev_c (by decide)) (by omega) ?_) fun H9 e9 => ⟨c2, rfl, List.all_eq_true.mp hwa _ (List.mem_of_getElem? hc2), e8.trans e9⟩
              rw [show (i : Int) % 3 = ((i % 3 : Nat) : Int) by omega]
              exact atI_nat hc2
            · rintro σ' H8 ⟨c2, rfl, hc2, e8⟩
              refine s_asg (ev_addS (ev_var rfl) (ev_var rfl) (by show _ + 1 ≤ _; omega)) fun H9 e9 => ⟨((((k4.then e5).then e6).then e7).then e8).then e9, wd ++ [c2], _, _, _, rfl, by rw [List.length_append, hwl]; rfl, by rw [List.all_append, hwa]; show (true && (abcd c2 && true)) = true; rw [hc2]; rfl⟩
      · rintro H3 e3 σ' H4 k4 ⟨wd, y7, y8, y9, rfl, hwl, hwa⟩
        rw [List.length_range] at hwl
        refine s_ret (ev_var rfl) fun H5 e5 => q wd ⟨by omega, hwa⟩ H5 ((((e1.trans e2).trans e3).trans k4.ex).trans e5)
theorem ok_law (B : Bl mg) {f fT fP fW fQ : Addr} {fd fdT fdP fdW fdQ : FuncData} (F : Fun K "law" "law" s_law f fd) (G_together : DefOk P w K mg base CX0 "together" 4 ["one", "other"] spTogether fT fdT) (G_pieces : DefOk P w K mg base CX0 "pieces" 3 ["word", "long"] spPieces fP fdP) (G__law_word : DefOk P w K mg base CX0 "_law_word" 3 ["_law_script", "_law_by", "_law_most"] (spWord K) fW fdW) (G__law_pieces : DefOk P w K mg base CX0 "_law_pieces" 1 ["_law_word_here", "_law_long"] spLawPieces fQ fdQ) : TopOk P w K mg base 5 f fd "_law_script" (spLaw K) := by
  refine Fun.top F sc_law (fun cdv s H v Q E hr h => ?_)
  obtain ⟨a, ns, hv, hS, hl, q⟩ := h
  cases hv
  have hu64 := hr.units
  refine ⟨_, (pss_cons (ps_for PassesOwn.never rfl (pi_range3 (by rfl) B.range (pa_cons pe_int (pa_cons (pe_callB (call_max2 rfl) (by rfl) B.max (by decide +kernel) (pa_cons pe_int (pa_cons (pe_callB (call_min2 rfl) (by rfl) B.min (by decide +kernel) (pa_cons pe_int (pa_cons (pe_callB (k_len (K := K)) (by rfl) B.len (by decide +kernel) (pa_cons (pv 0) pa_nil)) pa_nil))) pa_nil))) (pa_cons pe_int pa_nil)))) (pg_name (i := 1) sc_law.nd rfl (by first | exact Or.inl rfl | exact Or.inr rfl))
        (pss_one (ps_for PassesOwn.never rfl (k_it (K := K) (pe_tup (pa_cons pe_int (pa_cons pe_int (pa_cons pe_int pa_nil))))) (pg_name (i := 2) sc_law.nd rfl (by first | exact Or.inl rfl | exact Or.inr rfl))
          (pss_cons (ps_set (i := 3) sc_law.nd rfl (by first | exact Or.inl rfl | exact Or.inr rfl) (pe_op op_addU (pe_call G__law_word.ok (hr.mono (by decide)) (by rfl) G__law_word.mg G__law_word.kp G__law_word.b .nil pass0 (pa_cons (pv 0) (pa_cons (pv 1) (pa_cons pe_int pa_nil)))) (pe_slice (k_sl (K := K)) pe_str po_none (po_some (pv 2)))))
          (pss_cons (ps_set (i := 4) sc_law.nd rfl (by first | exact Or.inl rfl | exact Or.inr rfl) (pe_op op_addU (pe_op op_addU (pe_slice (k_sl (K := K)) (pv 3) (po_some (pe_op op_addU (pe_op op_sub (pe_callB (k_len (K := K)) (by rfl) B.len (by decide +kernel) (pa_cons (pv 3) pa_nil)) (pv 2)) pe_int)) po_none) pe_str) (pe_call G__law_word.ok (hr.mono (by decide)) (by rfl) G__law_word.mg G__law_word.kp G__law_word.b .nil pass0 (pa_cons (pv 0) (pa_cons (pe_op op_addU (pv 1) pe_int) (pa_cons pe_int pa_nil))))))
          (pss_cons (ps_par (i := 5) (j := 6) (by rfl) sc_law.nd rfl rfl (by decide) rfl rfl (pa_cons (pe_call G__law_pieces.ok (hr.mono (by decide)) (by rfl) G__law_pieces.mg G__law_pieces.kp G__law_pieces.b .nil pass0 (pa_cons (pv 3) (pa_cons (pv 2) pa_nil))) (pa_cons (pe_call G__law_pieces.ok (hr.mono (by decide)) (by rfl) G__law_pieces.mg G__law_pieces.kp G__law_pieces.b .nil pass0 (pa_cons (pv 4) (pa_cons (pv 2) pa_nil))) pa_nil)) (by rfl))
          (pss_cons (ps_set (i := 7) sc_law.nd rfl (by first | exact Or.inl rfl | exact Or.inr rfl) (pe_lst (pa_cons (pe_callTy (k_listL (K := K)) (by rfl) B.list boot_list (pa_cons (pv 5) pa_nil)) (pa_cons (pe_callTy (k_listL (K := K)) (by rfl) B.list boot_list (pa_cons (pv 6) pa_nil)) pa_nil))))
          (pss_cons (ps_set (i := 8) sc_law.nd rfl (by first | exact Or.inl rfl | exact Or.inr rfl) pe_dnewK)
          (pss_cons (ps_for PassesOwn.never rfl (k_it (K := K) (pe_op op_addU (pv 5) (pv 6))) (pg_tup rfl (pgs_cons (pg_name (i := 9) sc_law.nd rfl (by first | exact Or.inl rfl | exact Or.inr rfl)) (pgs_cons (pg_name (i := 10) sc_law.nd rfl (by first | exact Or.inl rfl | exact Or.inr rfl)) pgs_nil)))
            (pss_one (ps_dput (u1 hu64) (pv 8) (pv 9) (pe_op op_addU (pe_dget2 (u1 hu64) (pv 8) (pv 9) pe_int ⟨by rfl, by rfl, by rfl, by rfl⟩) (pv 10)) (by rfl))))
          (pss_cons (ps_set (i := 11) sc_law.nd rfl (by first | exact Or.inl rfl | exact Or.inr rfl) (pe_call G_together.ok (hr.mono (by decide)) (by rfl) G_together.mg G_together.kp G_together.b .nil pass0 (pa_cons (pe_ix (k_ix (K := K)) (pv 7) pe_int (fun _ _ => rfl)) (pa_cons (pe_ix (k_ix (K := K)) (pv 7) pe_int (fun _ _ => rfl)) pa_nil))))
          (pss_cons (ps_if (PW.pt (pw_or (pt_not (pt_val (pe_callB (k_isi (K := K)) (by rfl) B.isinstance (by decide +kernel) (pa_cons (pv 11) (pa_cons (pe_bltn (v := .ty "list") (by rfl) B.list boot_list rfl) pa_nil))))) (pw_or1 (pt_cmpR (k_ne (K := K) hu64) (pe_callTy (k_strD (K := K) rfl hu64) (by rfl) B.str boot_str (pa_cons (pv 11) pa_nil)) (pe_callTy (k_strD (K := K) rfl hu64) (by rfl) B.str boot_str (pa_cons (pe_lc (own := [("_law_piece", 9)]) (g := gName 9) rfl sc_law.nd (k_it (K := K) (pe_callB (k_sortedD rfl) (by rfl) B.sorted (by decide +kernel) (pa_cons (pv 8) pa_nil))) (blkOk_by (own := [("_law_piece", 9)]) (N := N_law) (sc := defScope s_law) (by decide +kernel)) (fun _ _ _ _ _ => (pg_name (i := 9) sc_law.nd rfl (by first | exact Or.inl rfl | exact Or.inr rfl))) (fun _ _ _ _ _ => pts_nil) (fun _ _ _ _ _ => (pe_tup (pa_cons (pv 9) (pa_cons (pe_dget (u1 hu64) (pv 8) (pv 9) (fun _ _ => rfl)) pa_nil))))) pa_nil)) (nomark _)))))
            (pss_one (ps_ret pe_bl))
            pss_nil)
          (pss_cons (ps_if (PW.pt (pw_or (pt_cmpR (k_ne (K := K) hu64) (pv 7) (pe_lst (pa_cons (pv 5) (pa_cons (pv 6) pa_nil))) (nomark _)) (pw_or1 (pt_cmpR (k_ne (K := K) hu64) (pv 11) (pe_call G_pieces.ok (hr.mono (by decide)) (by rfl) G_pieces.mg G_pieces.kp G_pieces.b .nil pass0 (pa_cons (pe_op op_addU (pv 3) (pe_slice (k_sl (K := K)) (pv 4) (po_some (pe_op op_sub (pv 2) pe_int)) po_none)) (pa_cons (pv 2) pa_nil))) (nomark _)))))
            (pss_one (ps_ret pe_bl))
            pss_nil)
          (Evl.pss_cut (ps_if (pt_cmpR op_gt (pv 2) pe_int (nomark _))
            (pss_cons (ps_set (i := 12) sc_law.nd rfl (by first | exact Or.inl rfl | exact Or.inr rfl) (pe_disp (pps_cons (pe_slice (k_sl (K := K)) (pv 3) (po_some (pe_op op_addU (pe_op op_sub (pe_callB (k_len (K := K)) (by rfl) B.len (by decide +kernel) (pa_cons (pv 3) pa_nil)) (pv 2)) pe_int)) po_none) pe_int pps_nil) (by rfl) (by rfl) (fun z => by cases z) (by decide)))
            (pss_cons (ps_for PassesOwn.never rfl (k_it (K := K) (pe_call G_pieces.ok (hr.mono (by decide)) (by rfl) G_pieces.mg G_pieces.kp G_pieces.b .nil pass0 (pa_cons (pv 3) (pa_cons (pv 2) pa_nil)))) (pg_tup rfl (pgs_cons (pg_name (i := 9) sc_law.nd rfl (by first | exact Or.inl rfl | exact Or.inr rfl)) (pgs_cons (pg_name (i := 10) sc_law.nd rfl (by first | exact Or.inl rfl | exact Or.inr rfl)) pgs_nil)))
              (pss_one (ps_dput (u1 hu64) (pv 12) (pe_slice (k_sl (K := K)) (pv 9) po_none (po_some (pe_un un_neg pe_int))) (pe_op op_addU (pe_dget2 (u1 hu64) (pv 12) (pe_slice (k_sl (K := K)) (pv 9) po_none (po_some (pe_un un_neg pe_int))) pe_int ⟨by rfl, by rfl, by rfl, by rfl⟩) (pv 10)) (by rfl))))
            (pss_one (ps_if (pt_cmpR (k_ne (K := K) hu64) (pe_call G_pieces.ok (hr.mono (by decide)) (by rfl) G_pieces.mg G_pieces.kp G_pieces.b .nil pass0 (pa_cons (pv 3) (pa_cons (pe_op op_sub (pv 2) pe_int) pa_nil))) (pe_lc (own := [("_law_piece", 9)]) (g := gName 9) rfl sc_law.nd (k_it (K := K) (pe_callB (k_sortedD rfl) (by rfl) B.sorted (by decide +kernel) (pa_cons (pv 12) pa_nil))) (blkOk_by (own := [("_law_piece", 9)]) (N := N_law) (sc := defScope s_law) (by decide +kernel)) (fun _ _ _ _ _ => (pg_name (i := 9) sc_law.nd rfl (by first | exact Or.inl rfl | exact Or.inr rfl))) (fun _ _ _ _ _ => pts_nil) (fun _ _ _ _ _ => (pe_tup (pa_cons (pv 9) (pa_cons (pe_dget (u1 hu64) (pv 12) (pv 9) (fun _ _ => rfl)) pa_nil))))) (nomark _))
              (pss_one (ps_ret pe_bl))
              pss_nil))))
            pss_nil)
          (pss_cons (ps_expr (k_bm (K := K) PySem.F.plainAttrs_list PySem.F.slot_list_append PySem.F.type_list_append mt_append (pv 11) (pa_cons (pe_tup (pa_cons pe_str (pa_cons pe_int pa_nil))) pa_nil)))
          (pss_cons (ps_if (pt_cmpR (k_ne (K := K) hu64) (pe_callB (k_len (K := K)) (by rfl) B.len (by decide +kernel) (pa_cons (pe_call G_together.ok (hr.mono (by decide)) (by rfl) G_together.mg G_together.kp G_together.b .nil pass0 (pa_cons (pe_ix (k_ix (K := K)) (pv 7) pe_int (fun _ _ => rfl)) (pa_cons (pe_ix (k_ix (K := K)) (pv 7) pe_int (fun _ _ => rfl)) pa_nil))) pa_nil)) (pe_callB k_lenD (by rfl) B.len (by decide +kernel) (pa_cons (pv 8) pa_nil)) (nomark _))
            (pss_one (ps_ret pe_bl))
            pss_nil)
          (pss_cons (ps_asg (pe_ix (k_ix (K := K)) (pe_ix (k_ix (K := K)) (pv 7) pe_int (fun _ _ => rfl)) pe_int (fun _ _ => rfl)) (pg_tup rfl (pgs_cons (pg_name (i := 9) sc_law.nd rfl (by first | exact Or.inl rfl | exact Or.inr rfl)) (pgs_cons (pg_name (i := 10) sc_law.nd rfl (by first | exact Or.inl rfl | exact Or.inr rfl)) pgs_nil))))
          (pss_cons (ps_asg (pe_tup (pa_cons (pv 9) (pa_cons (pe_op op_addU (pv 10) pe_int) pa_nil))) (pg_sub (pe_ix (k_ix (K := K)) (pv 7) pe_int (fun _ _ => rfl)) pe_int set_list))
          (pss_cons (ps_dput (u1 hu64) (pv 8) (pv 9) (pe_op op_addU (pe_dget (u1 hu64) (pv 8) (pv 9) (fun _ _ => rfl)) pe_int) (by rfl))
          (pss_cons (ps_if (pt_cmpR (k_ne (K := K) hu64) (pe_call G_together.ok (hr.mono (by decide)) (by rfl) G_together.mg G_together.kp G_together.b .nil pass0 (pa_cons (pe_ix (k_ix (K := K)) (pv 7) pe_int (fun _ _ => rfl)) (pa_cons (pe_ix (k_ix (K := K)) (pv 7) pe_int (fun _ _ => rfl)) pa_nil))) (pe_lc (own := [("_law_one", 5)]) (g := gName 5) rfl sc_law.nd (k_it (K := K) (pe_callB (k_sortedD rfl) (by rfl) B.sorted (by decide +kernel) (pa_cons (pv 8) pa_nil))) (blkOk_by (own := [("_law_one", 5)]) (N := N_law) (sc := defScope s_law) (by decide +kernel)) (fun _ _ _ _ _ => (pg_name (i := 5) sc_law.nd rfl (by first | exact Or.inl rfl | exact Or.inr rfl))) (fun _ _ _ _ _ => pts_nil) (fun _ _ _ _ _ => (pe_tup (pa_cons (pv 5) (pa_cons (pe_dget (u1 hu64) (pv 8) (pv 5) (fun _ _ => rfl)) pa_nil))))) (nomark _))
            (pss_one (ps_ret pe_bl))
            pss_nil)
          (pss_cons (ps_set (i := 13) sc_law.nd rfl (by first | exact Or.inl rfl | exact Or.inr rfl) (k_bm0 (K := K) PySem.F.plainAttrs_list PySem.F.slot_list_pop PySem.F.type_list_pop mt_pop (pe_ix (k_ix (K := K)) (pv 7) pe_int (fun _ _ => rfl))))
          (pss_cons (ps_dput (u1 hu64) (pv 8) (pe_ix (k_ix (K := K)) (pv 13) pe_int (fun _ _ => rfl)) (pe_op op_sub (pe_dget (u1 hu64) (pv 8) (pe_ix (k_ix (K := K)) (pv 13) pe_int (fun _ _ => rfl)) (fun _ _ => rfl)) (pe_ix (k_ix (K := K)) (pv 13) pe_int (fun _ _ => rfl))) (by rfl))
          (pss_cons (ps_setLc (i := 14) (own := [("_law_one", 5)]) (g := gName 5) rfl sc_law.nd rfl rfl (sw_true rfl rfl rfl (by decide +kernel)) (k_it (K := K) (pe_callB (k_sortedD rfl) (by rfl) B.sorted (by decide +kernel) (pa_cons (pv 8) pa_nil))) (blkOk_by (own := [("_law_one", 5)]) (N := N_law) (sc := defScope s_law) (by decide +kernel)) (fun _ _ _ _ _ => (pg_name (i := 5) sc_law.nd rfl (by first | exact Or.inl rfl | exact Or.inr rfl))) (fun _ _ _ _ _ => (pts_one (pt_cmpR op_gt (pe_dget (u1 hu64) (pv 8) (pv 5) (fun _ _ => rfl)) pe_int (nomark _)))) (fun _ _ _ _ _ => (pe_tup (pa_cons (pv 5) (pa_cons (pe_dget (u1 hu64) (pv 8) (pv 5) (fun _ _ => rfl)) pa_nil)))))
          (pss_one (ps_if (PW.pt (pw_and (pt_cmpR (k_ne (K := K) hu64) (pe_ix (k_ix (K := K)) (pv 7) pe_int (fun _ _ => rfl)) (pe_lst pa_nil) (nomark _)) (pw_and1 (pt_cmpR (k_ne (K := K) hu64) (pe_call G_together.ok (hr.mono (by decide)) (by rfl) G_together.mg G_together.kp G_together.b .nil pass0 (pa_cons (pe_ix (k_ix (K := K)) (pv 7) pe_int (fun _ _ => rfl)) (pa_cons (pe_ix (k_ix (K := K)) (pv 7) pe_int (fun _ _ => rfl)) pa_nil))) (pv 14) (nomark _)))))
            (pss_one (ps_ret pe_bl))
            pss_nil))))))))))))))))))))))))
      (pss_one (ps_ret (pe_cmpR (k_eq (K := K) hu64) (pe_call G_together.ok (hr.mono (by decide)) (by rfl) G_together.mg G_together.kp G_together.b .nil pass0 (pa_cons (pe_lst (pa_cons (pe_tup (pa_cons pe_str (pa_cons pe_int pa_nil))) pa_nil)) (pa_cons (pe_lst (pa_cons (pe_tup (pa_cons pe_str (pa_cons pe_int pa_nil))) (pa_cons (pe_tup (pa_cons pe_str (pa_cons pe_int pa_nil))) pa_nil))) pa_nil))) (pe_lst (pa_cons (pe_tup (pa_cons pe_str (pa_cons pe_int pa_nil))) (pa_cons (pe_tup (pa_cons pe_str (pa_cons pe_int pa_nil))) pa_nil))) (nomark _))))), ?_⟩
  obtain ⟨m, hR, hm⟩ := rgC_pos (n := max 1 (min 8 (ns.length : Int))) (c := 4) (by omega) (by decide)
  refine q_wk (own := []) (wk_rng3 (m := m) (ea_cons ev_c (ea_cons (ev_max ev_c (ev_min ev_c (ev_is (ev_lenI (ev_var rfl) hS) (by rw [List.length_map])))) (ea_cons ev_c ea_nil))) hR) (fun i σ' H' => ∃ y1 y2 y3 y4 y5 y6 y7 y8 y9 y10 y11 y12 y13 y14, σ' = [some (.ref a), y1, y2, y3, y4, y5, y6, y7, y8, y9, y10, y11, y12, y13, y14]) (fun H2 e2 => ⟨_, _, _, _, _, _, _, _, _, _, _, _, _, _, rfl⟩) ?_ ?_
  · rintro H2 e2 i a' σ' H3 x H4 ha k3 ⟨y1, y2, y3, y4, y5, y6, y7, y8, y9, y10, y11, y12, y13, y14, rfl⟩ e4 rfl
    obtain ⟨rfl, hi⟩ := range_at ha
    have hby := hm _ hi
    obtain ⟨b, hb⟩ : ∃ b : Nat, (0 : Int) + (a' : Int) * 4 = (b : Int) := ⟨a' * 4, by omega⟩
    rw [hb]
    have eS : Ex H H4 := (e2.trans k3.ex).trans e4
    have hS4 := ex_l eS hS
    refine s_wk (own := []) (wkU_tup (ds := [2, 3, 5].map dN) (evi_tup (eai_cons (ei_int ev_c) (eai_cons (ei_int ev_c) (eai_cons (ei_int ev_c) eai_nil))) (by decide))).typed (fun i σ' H' => ∃ y2 y3 y4 y5 y6 y7 y8 y9 y10 y11 y12 y13 y14, σ' = [some (.ref a), some (.int (b : Int)), y2, y3, y4, y5, y6, y7, y8, y9, y10, y11, y12, y13, y14]) (fun H2 e2 => ⟨_, _, _, _, _, _, _, _, _, _, _, _, _, rfl⟩) ?_ ?_
    · rintro H5 e5 i n σ' H6 x H7 ha6 k6 ⟨y2, y3, y4, y5, y6, y7, y8, y9, y10, y11, y12, y13, y14, rfl⟩ e7 hx
      have hx := hx.int_inv
      subst hx
      have hn : 2 ≤ n ∧ n ≤ 5 := by
        have h1 := List.mem_of_getElem? ha6
        have h2 := List.all_eq_true.mp (show ([2, 3, 5] : List Nat).all (fun n => decide (2 ≤ n ∧ n ≤ 5)) = true by decide) n h1
        exact of_decide_eq_true h2
      have e47 : Ek [] H4 H7 := ((Ek.of e5).trans k6).then e7
      have hS7 := ex_l e47.ex hS4
      have hab : Word 5 (([97, 98, 99, 97, 98] : W).take n) := ⟨by rw [List.length_take]; show min n 5 ≤ 5; omega, (show Word 5 [97, 98, 99, 97, 98] from ⟨by decide, by decide⟩).take n |>.2⟩
      have habl : (([97, 98, 99, 97, 98] : W).take n).length = n := by rw [List.length_take]; show min n 5 = n; omega
      -- the first word
      refine q_asgP (P := fun v _ => ∃ u, v = S u ∧ u.length ≤ 24 + n ∧ n ≤ u.length ∧ u.all abcd = true) (evp_op (P1 := isW 24) (P2 := isV (S (([97, 98, 99, 97, 98] : W).take n))) (evp_call (EvA.p (ea_cons (ev_var rfl) (ea_cons (ev_var rfl) (ea_cons ev_c ea_nil)))) fun vs H8 e8 hp => ?_) mono_W (ev_takeS (k := n) (ev_s [97, 98, 99, 97, 98]) (eo_some (ev_var rfl)) (by decide)).p fun x y H8 e8 hx hy Q8 q8 => ?_) fun v H8 e8 hv => ?_
      · subst hp
        exact spP_word (m := 24) (ex_l e8 hS7) (by omega) (by omega) (by omega)
      · obtain ⟨u, rfl, hu⟩ := hx
        obtain rfl : y = S _ := hy
        have hul := hu.1
        refine .inr (.inl ⟨_, _, rfl, rfl, sz_of (by rw [S_len, S_len]; omega), ?_⟩)
        rw [S_app]
        exact q8 _ H8 (Ex.refl _) ⟨_, rfl, by rw [List.length_append, habl]; omega, by rw [List.length_append, habl]; omega, by rw [List.all_append, hu.2, hab.2]; rfl⟩
      obtain ⟨u, rfl, hu1, hu2, hua⟩ := hv
      have hS8 := ex_l e8 hS7
      -- the second one goes on
      refine q_asgP (P := fun v _ => ∃ t, v = S (u.drop (u.length - n + 1) ++ [99] ++ t) ∧ t.length ≤ 24 ∧ t.all abcd = true) (evp_op (P1 := isV (S (u.drop (u.length - n + 1) ++ [99]))) (P2 := isW 24) (ev_addS (ev_dropS (k := u.length - n + 1) (ev_var rfl) (eo_some (ev_is (ev_addI (ev_subI (ev_lenS (ev_var rfl) (by omega)) (ev_var rfl)) ev_c) (by congr 1; omega))) (by omega)) (ev_s [99]) (by rw [List.length_drop]; show _ + 1 ≤ _; omega)).p mono_V (evp_call (EvA.p (ea_cons (ev_var rfl) (ea_cons (ev_addI (ev_var rfl) ev_c) (ea_cons ev_c ea_nil)))) fun vs H9 e9 hp => ?_) fun x y H9 e9 hx hy Q9 q9 => ?_) fun v H9 e9 hv => ?_
      · subst hp
        exact spP_word (k := b + 1) (m := 24) (ex_l e9 hS8) (by omega) (by omega) (by omega)
      · obtain ⟨t, rfl, ht⟩ := hy
        obtain rfl : x = S _ := hx
        have htl := ht.1
        refine .inr (.inl ⟨_, _, rfl, rfl, sz_of (by rw [S_len, S_len, List.length_append, List.length_drop]; show _ + 1 + _ ≤ _; omega), ?_⟩)
        rw [S_app]
        exact q9 _ H9 (Ex.refl _) ⟨t, rfl, ht.1, ht.2⟩
      obtain ⟨t, rfl, ht, hta⟩ := hv
      obtain ⟨v, hv⟩ : ∃ v, v = u.drop (u.length - n + 1) ++ [99] ++ t := ⟨_, rfl⟩
      rw [← hv]
      have hvl : v.length = n + t.length := by
        rw [hv, List.length_append, List.length_append, List.length_drop]
        show _ + 1 + _ = _
        omega
      have hva : v.all abcd = true := by
        rw [hv, List.all_append, List.all_append, hta, (show Word u.length u from ⟨Nat.le_refl _, hua⟩).drop _ |>.2]
        rfl
      have hvt : v.take (n - 1) = u.drop (u.length - n + 1) := by
        rw [hv, List.append_assoc, List.take_append_of_le_length (by rw [List.length_drop]; omega), List.take_of_length_le (by rw [List.length_drop]; omega)]
      obtain ⟨as, has⟩ : ∃ as, as = pcs u n := ⟨_, rfl⟩
      obtain ⟨bs, hbs⟩ : ∃ bs, bs = pcs v n := ⟨_, rfl⟩
      have hall : pcs (u ++ v.drop (n - 1)) n = as ++ bs := by rw [has, hbs]; exact pcs_lap hn.1 hu2 (by omega) hvt
      have g1 : Good n (tally as) := by rw [has]; exact good_pcs hn.1 hn.2 hu2 hua (by omega)
      have g2 : Good n (tally bs) := by rw [hbs]; exact good_pcs hn.1 hn.2 (by omega) hva (by omega)
      have al : as.length ≤ 25 := by rw [has, pcs_len]; omega
      have bl : bs.length ≤ 25 := by rw [hbs, pcs_len]; omega
      have hS9 := ex_l e9 hS8
      have shc : Sh 2 (.list ((tally as).map dP)) := g1.sh
      have shd : Sh 2 (.list ((tally bs).map dP)) := g2.sh
      have hcd2 : tot (tally as ++ tally bs) = tally (as ++ bs) := tot_tallies as bs
      have mc : many (tally as) = as.length := many_tally as
      have md : many (tally bs) = bs.length := many_tally bs
      refine q_par2P (P1 := isL ((tally as).map dP)) (P2 := isL ((tally bs).map dP)) (by rw [has]; exact (evf_call (EvA.p (ea_cons (ev_var rfl) (ea_cons (ev_var rfl) ea_nil))) fun vs H12 e12 hp Q E q1 => ⟨u, n, by rw [hp]; rfl, by omega, by omega, by omega, q1⟩).l) mono_L (by rw [hbs]; exact (evf_call (EvA.p (ea_cons (ev_var rfl) (ea_cons (ev_var rfl) ea_nil))) fun vs H12 e12 hp Q E q1 => ⟨v, n, by rw [hp]; rfl, by omega, by omega, by omega, q1⟩).l) fun x y H10 e10 hx hy => ?_
      clear has hbs
      obtain ⟨o1, rfl, l1⟩ := hx
      obtain ⟨o2, rfl, l2⟩ := hy
      generalize tally as = c at g1 hcd2 mc shc l1
      generalize tally bs = d at g2 hcd2 md shd l2
      have lc : c.length ≤ many c := len_many fun p hp => (g1.at' p hp).2.2
      have ld : d.length ≤ many d := len_many fun p hp => (g2.at' p hp).2.2
      have lcd : (c ++ d).length ≤ 50 := by rw [List.length_append]; omega
      refine q_LL (ds := c.map dP) (es := d.map dP) (evf_listL (evl_var rfl l1)) (evf_listL (evl_var rfl l2)) fun h p r H11 nh np nr npr nph nrh e11 hh lp lr => ?_
      have k11 : Ek [] H10 H11 := Ek.of e11
      have l1 := l1.ex e11
      have l2 := l2.ex e11
      refine q_dnew fun dd ndd hD => ?_
      have e12 : Ex H11 (upd H11 dd (.dK [])) := Ex.new ndd
      have hne : ∀ {z : Addr} {o : HO}, H11 z = some o → z ≠ dd := fun h z => by rw [z, ndd] at h; cases h
      have hdd1 : h ≠ dd := hne hh
      have hdd2 : p ≠ dd := let ⟨_, g, _⟩ := lp; hne g
      have hdd3 : r ≠ dd := let ⟨_, g, _⟩ := lr; hne g
      have hdd4 : o1 ≠ dd := let ⟨_, g, _⟩ := l1; hne g
      have hdd5 : o2 ≠ dd := let ⟨_, g, _⟩ := l2; hne g
      have hcd : ∀ {H4 : Hp} {σ : L2.St}, Ex H11 H4 → σ[5]? = some (some (.ref o1)) → σ[6]? = some (some (.ref o2)) → EvF (tOp rAddU (tVar 5) (tVar 6)) σ H4 ((c ++ d).map dP) := fun e h0 h1 => by
        rw [List.map_append]
        exact evf_cat (evl_var h0 (l1.ex e)) (evl_var h1 (l2.ex e)) (by rw [List.length_map, List.length_map]; rw [List.length_append] at lcd; omega)
      refine q_wk (own := [dd]) (wkU_new (hcd e12 rfl rfl) (fun z hz => by rw [List.mem_singleton.mp hz, upd_same]; simp)).typed (fun i σ' H' => ∃ y9 y10, σ' = [some (.ref a), some (.int (b : Int)), some (vN n), some (S u), some (S v), some (.ref o1), some (.ref o2), some (.ref h), some (.ref dd), y9, y10, y11, y12, y13, y14] ∧ DF H' dd (cfS ((c ++ d).take i)) i) (fun H5 e5 => ⟨_, _, rfl, by rw [List.take_zero]; exact hD.ex e5⟩) ?_ ?_
      · rintro H13 e13 i z σ' H14 x H15 hp k14 ⟨y9, y10, rfl, hL⟩ e15 hx
        refine g_two (d1 := dS z.1) (d2 := dN z.2) hx fun v1 v2 i1 i2 => ?_
        have i1 := i1.str_inv
        have i2 := i2.int_inv
        subst i1 i2
        have hi := (List.getElem?_eq_some_iff.mp hp).1
        have hL7 := hL.ex e15
        refine s_dput (P := isV (vN (cnt ((c ++ d).take i) z.1 + z.2))) (ev_is (ev_addI (i := ((cnt ((c ++ d).take i) z.1 : Nat) : Int)) (ev_is (ev_dget2 (ev_var rfl) hL7 (ev_var rfl) ev_c) (cfS_get _ _)) (ev_var rfl)) (by show _ = V.int _; rw [Int.natCast_add])).p (ev_var rfl) hL7 (sz5 (by omega)) (ev_var rfl) ?_
        rintro v8 H8 H9' kvs kvs' e8 rfl e9 h9 hF
        rw [cfS_step] at hF
        refine ⟨(((k14.then e15).then e8).then e9).mut List.mem_cons_self h9 (fun _ z => nomatch z), _, _, rfl, ?_⟩
        rw [List.take_add_one, hp]
        exact hF
      rintro H13 e13 σ' H14 k14 ⟨y9, y10, rfl, hL⟩
      rw [List.take_length] at hL
      have k1 : Ek [dd] (upd H11 dd (.dK [])) H14 := (Ek.of e13).trans k14
      have hh := k1.1 h _ (by simpa using hdd1) (at_upd hh hdd1 : upd H11 dd (.dK []) h = _)
      have lp := (lp.ex e12).mono k1 (by simpa using hdd2)
      have lr := (lr.ex e12).mono k1 (by simpa using hdd3)
      have l1 := (l1.ex e12).mono k1 (by simpa using hdd4)
      have l2 := (l2.ex e12).mono k1 (by simpa using hdd5)
      have k714 : Ek [] H7 H14 := ((((Ek.of e8).then e9).then e10).then e11).trans ((((Ek.refl H11).put ndd).trans k1).less ndd)
      have k14' : Ek [] H4 H14 := ((((e47.then e8).then e9).then e10).then e11).trans ((((Ek.refl H11).put ndd).trans k1).less ndd)
      have hS14 := ex_l k14'.ex hS4
      clear k1 k14 e13 hD e12 hcd
      have htog : ∀ {H5 : Hp} {σ : L2.St} {c d : Cs} {p r : Addr} {E5 : XK}, H5 h = some (.lst [.ref p, .ref r]) → Ls H5 p (c.map dP) → Ls H5 r (d.map dP) → σ[7]? = some (some (.ref h)) → Good n c → Good n d → many c + many d ≤ 56 → EvF (tCall spTogether [] E5 (tCons (tOp (rIx K) (tVar 7) (tC (.int 0))) (tCons (tOp (rIx K) (tVar 7) (tC (.int 1))) tNil))) σ H5 ((tot (c ++ d)).map dP) := fun {H5 σ c d p r E5} hh lp lr hσ g1 g2 hm => evf_call (EvA.p (ea_cons (ev_ixV (j := 0) hh (ev_var hσ) ev_c rfl) (ea_cons (ev_ixV (j := 1) hh (ev_var hσ) ev_c rfl) ea_nil))) fun vs H6 e6 hp Q E q1 => ⟨p, r, n, c, d, by rw [hp]; rfl, lp.ex e6, lr.ex e6, g1, g2, hm, q1⟩
      have gt := good_tot g1 g2 (by omega)
      refine q_asgF (htog hh lp lr rfl g1 g2 (by omega)) fun fo H15 nfo e15 lf => ?_
      have hL15 := hL.ex e15
      have nfo' : H14 fo = none := nfo
      have hne : ∀ {z : Addr} {o : HO}, H14 z = some o → z ≠ fo := fun h z => by rw [z, nfo'] at h; cases h
      have nf1 : h ≠ fo := hne hh
      have nf2 : p ≠ fo := let ⟨_, g, _⟩ := lp; hne g
      have nf3 : r ≠ fo := let ⟨_, g, _⟩ := lr; hne g
      have nf4 : dd ≠ fo := let ⟨_, g, _⟩ := hL; hne g
      refine q_when (b := false) (et_is (et_or (a := false) (b := false) (et_is (et_not (et_B (b := true) (ev_isiL (ev_var rfl) lf))) rfl) fun _ => et_is (et_test (b := false) (ev_is (ev_neV (ev_strD (evl_var rfl lf) gt.shown) (ev_strD (EvF.l (evf_dictL (ev_var rfl) (fun _ => rfl) (fun _ => rfl) hL15 (by omega) (fun _ => rfl) (by omega) (fun _ => rfl))) gt.shown) rfl) (by simp))) rfl) rfl) (fun hb => nomatch hb) fun _ H16 e16 => ?_
      have e1416 := e15.trans e16
      have sh3 : Sh 3 (.list [.list (c.map dP), .list (d.map dP)]) := sh_list fun x hx => by
        rcases List.mem_cons.mp hx with rfl | hx
        · exact g1.sh
        · rw [List.mem_singleton.mp hx]; exact g2.sh
      have hvn : v.drop (n - 1) = v.drop (n - 1) := rfl
      have hwhole : Word 60 (u ++ v.drop (n - 1)) := ⟨by rw [List.length_append, List.length_drop]; omega, by rw [List.all_append, hua, (show Word v.length v from ⟨Nat.le_refl _, hva⟩).drop _ |>.2]; rfl⟩
      have shw := sh_tally (n := n) hwhole.2
      have lf16 := lf.ex e16
      refine q_when (b := false) (et_is (et_or (a := false) (b := false) (et_is (et_test (b := false) (ev_is (ev_neD (P1 := isLL (c.map dP) (d.map dP)) (P2 := isLL (c.map dP) (d.map dP)) (evp_var rfl fun H5 e5 => ⟨h, p, r, rfl, (e1416.trans e5) _ _ hh, lp.ex (e1416.trans e5), lr.ex (e1416.trans e5)⟩) mono_LL (evp_LL (evl_var rfl (l1.ex e1416)) (evl_var rfl (l2.ex e1416))) dp_LL dp_LL sh3 sh3) (by rw [SeqAt.eqv_refl _ sh3.1]; rfl))) rfl) fun _ =>
        et_is (et_test (b := false) (ev_is (ev_neD (d2 := .list ((tally (pcs (u ++ v.drop (n - 1)) n)).map dP)) (evl_var rfl lf16) mono_L (evf_call (EvA.p (ea_cons (ev_addS (ev_var rfl) (ev_dropS (k := n - 1) (ev_var rfl) (eo_some (ev_is (ev_subI (ev_var rfl) ev_c) (by congr 1; omega))) (by omega)) (by rw [List.length_drop]; omega)) (ea_cons (ev_var rfl) ea_nil))) fun vs H12 e12 hp Q E q1 => ⟨u ++ v.drop (n - 1), n, by rw [hp]; rfl, hwhole, hn.1, hn.2, q1⟩).l dp_L dp_L gt.sh shw) (by rw [hall, ← hcd2, SeqAt.eqv_refl _ gt.sh.1]; rfl))) rfl) rfl) (fun hb => nomatch hb) fun _ H17 e17 => ?_
      -- the shorter ones
      refine q_cutW (fun σ' H' => ∃ y9 y10 y12, σ' = [some (.ref a), some (.int (b : Int)), some (vN n), some (S u), some (S v), some (.ref o1), some (.ref o2), some (.ref h), some (.ref dd), y9, y10, some (.ref fo), y12, y13, y14] ∧ Ex H17 H') ?_ ?_
      · refine s_when (b := decide ((2 : Int) < (n : Int))) (et_test (ev_gtI (ev_var rfl) ev_c)) (fun hb H18 e18 => ?_) fun _ H18 e18 => ⟨_, _, _, rfl, e18⟩
        have hn3 : 3 ≤ n := by have := of_decide_eq_true hb; omega
        have hwu : Word 60 u := ⟨by omega, hua⟩
        refine q_disp1 (k := u.drop (u.length - n + 1)) (v := vN 1) (fun H1 e1 => ev_dropS (k := u.length - n + 1) (ev_var rfl) (eo_some (ev_is (ev_addI (ev_subI (ev_lenS (ev_var rfl) (by omega)) (ev_var rfl)) ev_c) (by congr 1; omega))) (by omega)) (fun H1 e1 => ev_c) fun sd H19 nsd k19 hsd => ?_
        have hsd0 : dset nof (u.drop (u.length - n + 1)) (vN 1) = cfS [(u.drop (u.length - n + 1), 1)] := by
          have := cfS_step [] (u.drop (u.length - n + 1), 1)
          rw [cnt_nil] at this
          exact this
        rw [hsd0] at hsd
        obtain ⟨ps, hps⟩ : ∃ ps, ps = tally (pcs u n) := ⟨_, rfl⟩
        have lps : ps.length ≤ 28 := by rw [hps, tally, List.length_map]; exact Nat.le_trans (uni_len_le _) (by rw [pcs_len]; omega)
        have hpl : ∀ p ∈ ps, p.1.length = n := fun p hp => by rw [hps] at hp; exact pcs_long (mem_tally hp).1
        refine q_wk (own := [sd]) (wkU_new (evf_call (ds := ps.map dP) (EvA.p (ea_cons (ev_var rfl) (ea_cons (ev_var rfl) ea_nil))) fun vs H12 e12 hp Q E q1 => ⟨u, n, by rw [hp]; rfl, hwu, hn.1, hn.2, by rw [← hps]; exact q1⟩) (fun z hz => by obtain ⟨kv, g, _⟩ := hsd; rw [List.mem_singleton.mp hz, g]; simp)).typed (fun i σ' H' => ∃ y9 y10, σ' = [some (.ref a), some (.int (b : Int)), some (vN n), some (S u), some (S v), some (.ref o1), some (.ref o2), some (.ref h), some (.ref dd), y9, y10, some (.ref fo), some (.ref sd), y13, y14] ∧ DF H' sd (cfS ((u.drop (u.length - n + 1), 1) :: turn List.dropLast (ps.take i))) (i + 1)) (fun H5 e5 => ⟨_, _, rfl, by rw [List.take_zero]; exact hsd.ex e5⟩) ?_ ?_
        · rintro H20 e20 i z σ' H21 x H22 hp k21 ⟨y9, y10, rfl, hM⟩ e22 hx
          refine g_two (d1 := dS z.1) (d2 := dN z.2) hx fun v1 v2 i1 i2 => ?_
          have i1 := i1.str_inv
          have i2 := i2.int_inv
          subst i1 i2
          have hi := (List.getElem?_eq_some_iff.mp hp).1
          have hzl := hpl z (List.mem_of_getElem? hp)
          have hM7 := hM.ex e22
          have hkey : ∀ {H5 : Hp} {σ : L2.St}, σ[9]? = some (some (S z.1)) → Ev (tSl (rSlU K) (tVar 9) tNoPart (tPart (tUn (rU fun i => .int (-i)) (tC (.int 1))))) σ H5 (S z.1.dropLast) := fun h => ev_initS (ev_var h) (eo_some (ev_neg ev_c)) (by omega)
          refine s_dput (k := z.1.dropLast) (P := isV (vN (cnt ((u.drop (u.length - n + 1), 1) :: turn List.dropLast (ps.take i)) z.1.dropLast + z.2))) (ev_is (ev_addI (i := ((cnt ((u.drop (u.length - n + 1), 1) :: turn List.dropLast (ps.take i)) z.1.dropLast : Nat) : Int)) (ev_is (ev_dget2 (ev_var rfl) hM7 (hkey rfl) ev_c) (cfS_get _ _)) (ev_var rfl)) (by show _ = V.int _; rw [Int.natCast_add])).p (ev_var rfl) hM7 (sz5 (by omega)) (hkey rfl) ?_
          rintro v8 H8 H9' kvs kvs' e8 rfl e9 h9 hF
          rw [cfS_step _ (z.1.dropLast, z.2)] at hF
          refine ⟨(((k21.then e22).then e8).then e9).mut List.mem_cons_self h9 (fun _ z => nomatch z), _, _, rfl, ?_⟩
          rw [List.take_add_one, hp, turn, List.map_append]
          exact hF
        · rintro H20 e20 σ' H21 k21 ⟨y9, y10, rfl, hM⟩
          rw [List.take_length] at hM
          have ex21 : Ex H18 H21 := (((k19.then e20).trans k21).less nsd).ex
          have hts : tot ((u.drop (u.length - n + 1), 1) :: turn List.dropLast ps) = tally (pcs u (n - 1)) := by
            have := tot_short (u := u) (n := n - 1) (by omega) (by omega)
            rw [show n - 1 + 1 = n by omega, show u.length - (n - 1) = u.length - n + 1 by omega] at this
            rw [hps]; exact this
          have shs := sh_tally (n := n - 1) hua
          refine s_when (b := false) (et_is (et_test (b := false) (ev_is (ev_neD (d1 := .list ((tally (pcs u (n - 1))).map dP)) (evf_call (EvA.p (ea_cons (ev_var rfl) (ea_cons (ev_subI (ev_var rfl) ev_c) ea_nil))) fun vs H12 e12 hp Q E q1 => ⟨u, n - 1, by rw [hp]; show [_, V.int ((n : Int) - 1)] = _; rw [show (n : Int) - 1 = ((n - 1 : Nat) : Int) by omega], hwu, by omega, by omega, q1⟩).l mono_L (evf_dictL (c := (u.drop (u.length - n + 1), 1) :: turn List.dropLast ps) (ev_var rfl) (fun _ => rfl) (fun _ => rfl) hM (by omega) (fun _ => rfl) (by rw [List.length_cons, turn, List.length_map]; omega) (fun _ => rfl)).l dp_L dp_L shs (hts ▸ shs)) (by rw [hts, SeqAt.eqv_refl _ shs.1]; rfl))) rfl) (fun hb => nomatch hb) fun _ H23 e23 => ⟨_, _, _, rfl, (e18.trans ex21).trans e23⟩
      rintro σ' H18 ⟨y9, y10, y12, rfl, e18⟩
      have e1418 := (e1416.trans e17).trans e18
      have hh := e1418 _ _ hh
      have lp := lp.ex e1418
      have lr := lr.ex e1418
      have hL := hL.ex e1418
      have lf := (lf16.ex e17).ex e18
      have e710 : Ex H7 H10 := (e8.trans e9).trans e10
      have np7 : H7 p = none := fresh_back e710 np
      have nr7 : H7 r = none := fresh_back e710 nr
      have nd7 : H7 dd = none := fresh_back (e710.trans e11) ndd
      have nfo7 : H7 fo = none := fresh_back k714.ex nfo
      have k718 : Ek [fo, p, r, dd] H7 H18 := k714.more.then e1418
      clear k714
      refine q_append (ev_var rfl) lf (evi_pair (w := [97, 97]) (n := 1) (ev_s [97, 97]) ev_c) (by rw [List.length_map]; have := gt.len; omega) fun H19 us us' e19 h19 _ => ?_
      have k720 : Ek [fo, p, r, dd] H7 (upd H19 fo (.lst us')) := (k718.then e19).mut (by simp) h19 fun _ z => nomatch z
      have hh := at_upd (o := .lst us') (e19 _ _ hh) nf1
      have lp := ls_upd (o := .lst us') (lp.ex e19) nf2 h19 fun _ z => nomatch z
      have lr := ls_upd (o := .lst us') (lr.ex e19) nf3 h19 fun _ z => nomatch z
      have hL := df_upd (o := .lst us') (hL.ex e19) nf4
      generalize upd H19 fo (.lst us') = H20 at k720 hh lp lr hL ⊢
      clear k718 h19 lf
      refine q_when (b := false) (et_is (et_test (b := false) (ev_is (ev_neI (ev_lenL (htog hh lp lr rfl g1 g2 (by omega)).l) (ev_lenD (ws := keys (c ++ d)) (ev_var rfl) hL (cfS_some _))) (by rw [List.length_map, tot, List.length_map]; simp))) rfl) (fun hb => nomatch hb) fun _ H21 e21 => ?_
      obtain ⟨p0, c0, rfl⟩ : ∃ p0 c0, c = p0 :: c0 := by
        cases c with
        | nil => exact absurd rfl g1.ne
        | cons p c => exact ⟨p, c, rfl⟩
      have hh := e21 _ _ hh
      have lp := lp.ex e21
      have lr := lr.ex e21
      have hL := hL.ex e21
      have k721 := k720.then e21
      refine q_unpack (d1 := dS p0.1) (d2 := dN p0.2) (evi_ixL (ds := (p0 :: c0).map dP) ((ev_ixV (j := 0) hh (ev_var rfl) ev_c rfl).p.imp fun v H2 e hv => ⟨p, hv, lp.ex e⟩) ev_c (atI_nat (j := 0) rfl)) fun x y H22 e22 hx hy => ?_
      have hx := hx.str_inv
      have hy := hy.int_inv
      subst hx hy
      have hh := e22 _ _ hh
      have lp := lp.ex e22
      have lr := lr.ex e22
      have hL := hL.ex e22
      have k722 := k721.then e22
      refine q_setI (l := p) (j := 0) (d := dP (p0.1, p0.2 + 2)) (evi_pair (ev_var rfl) (ev_is (ev_addI (ev_var rfl) ev_c) (by show _ = V.int _; rw [Int.natCast_add]; rfl))) (ev_ixV (j := 0) hh (ev_var rfl) ev_c rfl) ev_c lp (by simp) fun H23 us us' e23 h23 lp' => ?_
      have k723 : Ek [fo, p, r, dd] H7 (upd H23 p (.lst us')) := (k722.then e23).mut (by simp) h23 fun _ z => nomatch z
      have hh := at_upd (o := .lst us') (e23 _ _ hh) (Ne.symm nph)
      have lr := ls_upd (o := .lst us') (lr.ex e23) (Ne.symm npr) h23 fun _ z => nomatch z
      have hL := df_upd (o := .lst us') (hL.ex e23) (Ne.symm hdd2)
      have lp : Ls (upd H23 p (.lst us')) p (((p0.1, p0.2 + 2) :: c0).map dP) := lp'
      generalize upd H23 p (.lst us') = H24 at k723 hh lp lr hL ⊢
      clear lp' h23
      have hk0 : p0.1 ∈ keys (p0 :: c0 ++ d) := List.mem_cons_self
      refine q_dput (k := p0.1) (P := isV (vN (cnt (p0 :: (c0 ++ d)) p0.1 + 2))) (ev_is (ev_addI (i := ((cnt (p0 :: c0 ++ d) p0.1 : Nat) : Int)) (ev_dget (ev_var rfl) hL (ev_var rfl) (cfS_at hk0)) ev_c) (by show _ = V.int _; rw [Int.natCast_add]; rfl)).p (ev_var rfl) hL (sz5 (by omega)) (ev_var rfl) ?_
      rintro v8 H25 H26 kvs kvs' e25 rfl e26 h26 hF
      have k726 : Ek [fo, p, r, dd] H7 (upd H26 dd (.dK kvs')) := ((k723.then e25).then e26).mut (by simp) h26 fun _ z => nomatch z
      have hF : DF (upd H26 dd (.dK kvs')) dd (cfS (((p0.1, p0.2 + 2) :: c0) ++ d)) ((p0 :: c0 ++ d).length + 1) := by
        rw [List.cons_append, ← cfS_more p0 (c0 ++ d) 2]
        exact hF
      have hh := at_upd (o := .dK kvs') ((e25.trans e26) _ _ hh) hdd1
      have lp := ls_upd (o := .dK kvs') (lp.ex (e25.trans e26)) hdd2 h26 fun _ z => nomatch z
      have lr := ls_upd (o := .dK kvs') (lr.ex (e25.trans e26)) hdd3 h26 fun _ z => nomatch z
      generalize upd H26 dd (.dK kvs') = H27 at k726 hh lp lr hF ⊢
      clear h26 hL
      have mpc : many ((p0.1, p0.2 + 2) :: c0) = many (p0 :: c0) + 2 := by
        show p0.2 + 2 + many c0 = p0.2 + many c0 + 2
        omega
      have g1' : Good n ((p0.1, p0.2 + 2) :: c0) := good_more g1 (by omega)
      have hlc : (p0 :: c0).length ≤ many (p0 :: c0) := lc
      have lc' : ((p0.1, p0.2 + 2) :: c0).length = (p0 :: c0).length := rfl
      generalize ((p0.1, p0.2 + 2) :: c0) = c' at mpc g1' lc' lp hF
      have gt' := good_tot g1' g2 (by omega)
      have hcdl : (p0 :: c0 ++ d).length + 1 < 64 := by omega
      have hcdl' : (c' ++ d).length ≤ 1000 := by rw [List.length_append]; rw [List.length_append] at lcd; omega
      refine q_when (b := false) (et_is (et_test (b := false) (ev_is (ev_neD (htog hh lp lr rfl g1' g2 (by omega)).l mono_L (evf_dictL (c := c' ++ d) (ev_var rfl) (fun _ => rfl) (fun _ => rfl) hF hcdl (fun _ => rfl) hcdl' (fun _ => rfl)).l dp_L dp_L gt'.sh gt'.sh) (by rw [SeqAt.eqv_refl _ gt'.sh.1]; rfl))) rfl) (fun hb => nomatch hb) fun _ H28 e28 => ?_
      have hh := e28 _ _ hh
      have lp := lp.ex e28
      have lr := lr.ex e28
      have hF := hF.ex e28
      have k728 := k726.then e28
      obtain ⟨d0, g, rfl⟩ : ∃ d0 g, d = d0 ++ [g] := ⟨d.dropLast, d.getLast g2.ne, (List.dropLast_concat_getLast g2.ne).symm⟩
      refine q_pop (ds := d0.map dP) (d := dP g) (ev_ixV (j := 1) hh (ev_var rfl) ev_c rfl) (by rw [List.map_append] at lr; exact lr) fun x H29 us us' e29 h29 lr' hg => ?_
      have k730 : Ek [fo, p, r, dd] H7 (upd H29 r (.lst us')) := (k728.then e29).mut (by simp) h29 fun _ z => nomatch z
      have hh := at_upd (o := .lst us') (e29 _ _ hh) (Ne.symm nrh)
      have lp := ls_upd (o := .lst us') (lp.ex e29) npr h29 fun _ z => nomatch z
      have hF := df_upd (o := .lst us') (hF.ex e29) (Ne.symm hdd3)
      have lr := lr'
      generalize upd H29 r (.lst us') = H30 at k730 hh lp lr hF hg ⊢
      clear lr' h29
      have hgk : g.1 ∈ keys (c' ++ (d0 ++ [g])) := by simp [keys]
      have key : ∀ {H5 : Hp} {σ : L2.St}, Ex H30 H5 → σ[13]? = some (some x) → Ev (tOp (rIx K) (tVar 13) (tC (.int 0))) σ H5 (S g.1) := fun e h => EvP.str (evi_ixT (ds := [dS g.1, dN g.2]) (evi_var h (hg.ex e)) ev_c rfl)
      have ecnt : cnt (c' ++ (d0 ++ [g])) g.1 = cnt (c' ++ d0) g.1 + g.2 := by
        rw [← List.append_assoc, cnt_app _ [g], cnt_cons, if_pos rfl, cnt_nil, Nat.add_zero]
      refine q_dput (k := g.1) (P := isV (vN (cnt (c' ++ d0) g.1))) (ev_is (ev_subI (i := ((cnt (c' ++ (d0 ++ [g])) g.1 : Nat) : Int)) (j := (g.2 : Int)) (ev_dget (ev_var rfl) hF (key (Ex.refl _) rfl) (cfS_at hgk)) (EvP.int (evi_ixT (ds := [dS g.1, dN g.2]) (evi_var rfl hg) ev_c rfl))) (by show _ = V.int _; rw [ecnt]; congr 1; omega)).p (ev_var rfl) hF (sz5 (by omega)) (key (Ex.refl _) rfl) ?_
      rintro v8 H31 H32 kvs kvs' e31 rfl e32 h32 hG
      have k733 : Ek [fo, p, r, dd] H7 (upd H32 dd (.dK kvs')) := ((k730.then e31).then e32).mut (by simp) h32 fun _ z => nomatch z
      have hh := at_upd (o := .dK kvs') ((e31.trans e32) _ _ hh) hdd1
      have lp := ls_upd (o := .dK kvs') (lp.ex (e31.trans e32)) hdd2 h32 fun _ z => nomatch z
      have lr := ls_upd (o := .dK kvs') (lr.ex (e31.trans e32)) hdd3 h32 fun _ z => nomatch z
      generalize upd H32 dd (.dK kvs') = H33 at k733 hh lp lr hG ⊢
      clear h32 hF
      have hGk : ∀ w, (dset (cfS (c' ++ (d0 ++ [g]))) g.1 (vN (cnt (c' ++ d0) g.1)) w).isSome = true ↔ w ∈ keys (c' ++ (d0 ++ [g])) := fun w => by
        unfold dset
        by_cases z : w = g.1
        · subst z; rw [if_pos rfl]; exact ⟨fun _ => hgk, fun _ => rfl⟩
        · rw [if_neg z]; exact cfS_some _ _
      have hGv : ∀ w ∈ keys (c' ++ (d0 ++ [g])), dset (cfS (c' ++ (d0 ++ [g]))) g.1 (vN (cnt (c' ++ d0) g.1)) w = some (vN (cnt (c' ++ d0) w)) := fun w hw => by
        unfold dset
        by_cases z : w = g.1
        · subst z; rw [if_pos rfl]
        · have z' : ¬ g.1 = w := fun e => z e.symm
          rw [if_neg z, cfS_at hw, ← List.append_assoc, cnt_app _ [g], cnt_cons, if_neg z', cnt_nil, Nat.add_zero]
      have md0 : many (d0 ++ [g]) = many d0 + g.2 := by rw [many_app]; rfl
      have hleft := tot_left (c := c') (d := d0) (g := g) fun p hp => (List.mem_append.mp hp).elim (fun z => (g1'.at' p z).2.2) fun z => (g2.at' p (List.mem_append_left _ z)).2.2
      refine q_asgF (ds := (tot (c' ++ d0)).map dP) ?_ fun le H34 nle e34 lle => ?_
      · rw [← hleft, List.map_map]
        refine evf_fmap (fun w => decide (0 < cnt (c' ++ d0) w)) _ (wkU_new (own := []) (evf_sortedD (ws := keys (c' ++ (d0 ++ [g]))) (ev_var rfl) hG (by omega) hGk) (fun _ h => nomatch h)).typed (Nat.le_trans (uni_len_le _) (by rw [List.length_map]; omega)) (fun _ => rfl) (fun z x H6 hp e6 hy => ?_) fun z x H6 hp _ e6 hy => ?_
        · have hx := hy.str_inv
          subst hx
          exact et_is (et_test (ev_gtI (ev_dget (ev_var rfl) (hG.ex e6) (ev_var rfl) (hGv z (mem_uni.mp hp))) ev_c)) (decide_eq_decide.mpr (by omega))
        · have hx := hy.str_inv
          subst hx
          exact evi_pair (ev_var rfl) (ev_dget (ev_var rfl) (hG.ex e6) (ev_var rfl) (hGv z (mem_uni.mp hp)))
      have hh := e34 _ _ hh
      have lp := lp.ex e34
      have lr := lr.ex e34
      have shd0 : Sh 2 (.list (d0.map dP)) := sh_cs fun p hp => (g2.at' p (List.mem_append_left _ hp)).2.1
      have sh0 : Sh 2 (.list (([] : Cs).map dP)) := sh_cs fun p hp => nomatch hp
      refine s_when (b := false) (et_is (et_and (a := !decide (d0 = [])) (b := false) (et_test (ev_is (ev_neD (P1 := isL (d0.map dP)) ((ev_ixV (j := 1) hh (ev_var rfl) ev_c rfl).p.imp fun v H2 e hv => ⟨r, hv, lr.ex e⟩) mono_L (evf_lst (ds := ([] : Cs).map dP) eai_nil (by decide)).l dp_L dp_L shd0 sh0) (by rw [eqv_cs]))) fun hb => ?_) (by simp)) (fun hb => nomatch hb) fun _ H35 e35 => ⟨?_, _, _, _, _, _, _, _, _, _, _, _, _, _, rfl⟩
      · have hd0 : d0 ≠ [] := fun z => by rw [decide_eq_true z] at hb; cases hb
        have g2' := good_init g2 hd0
        have gt2 := good_tot g1' g2' (by omega)
        exact et_test (b := false) (ev_is (ev_neD (htog hh lp lr rfl g1' g2' (by omega)).l mono_L (evl_var rfl lle) dp_L dp_L gt2.sh gt2.sh) (by rw [SeqAt.eqv_refl _ gt2.sh.1]; rfl))
      · have kF : Ek [fo, p, r, dd] H7 H35 := (k733.then e34).then e35
        exact (k6.then e7).trans ((((kF.less nfo7).less np7).less nr7).less nd7)
    · rintro H5 e5 σ' H6 k6 ⟨y2, y3, y4, y5, y6, y7, y8, y9, y10, y11, y12, y13, y14, rfl⟩
      exact ⟨((k3.then e4).then e5).trans k6, _, _, _, _, _, _, _, _, _, _, _, _, _, _, rfl⟩
  · rintro H2 e2 σ' H3 k3 ⟨y1, y2, y3, y4, y5, y6, y7, y8, y9, y10, y11, y12, y13, y14, rfl⟩
    have gab : Good 2 [([97, 98], 1)] := ⟨by decide, by decide, by decide, by decide, by unfold Rising; decide, by decide⟩
    have gaa : Good 2 [([97, 97], 2), ([97, 98], 3)] := ⟨by decide, by decide, by decide, by decide, by unfold Rising; decide, by decide⟩
    have t1 : tot ([([97, 98], 1)] ++ [([97, 97], 2), ([97, 98], 3)]) = [([97, 97], 2), ([97, 98], 4)] := cs_ext (rising_tot _) (by unfold Rising; decide) (fun w => by
      rw [keys_tot, mem_uni]
      show w ∈ [[97, 98], [97, 97], [97, 98]] ↔ w ∈ [[97, 97], [97, 98]]
      simp only [List.mem_cons, List.not_mem_nil, or_false]
      constructor
      · rintro (h | h | h)
        · exact .inr h
        · exact .inl h
        · exact .inr h
      · rintro (h | h)
        · exact .inr (.inl h)
        · exact .inl h) fun w => by
      rw [cnt_tot]
      simp only [List.cons_append, List.nil_append, cnt_cons, cnt_nil]
      by_cases h1 : [97, 98] = w
      · have h2 : ¬ [97, 97] = w := fun z => by rw [← z] at h1; exact absurd h1 (by decide)
        simp [h1, h2]
      · simp [h1]
    have sht : Sh 2 (.list ((tot ([([97, 98], 1)] ++ [([97, 97], 2), ([97, 98], 3)])).map dP)) := by rw [t1]; exact sh_cs (by decide)
    refine s_ret (v := .bl true) (ev_is (ev_eqD (evf_call (ds := (tot ([([97, 98], 1)] ++ [([97, 97], 2), ([97, 98], 3)])).map dP) (eap_cons (evf_lst (ds := [([97, 98], 1)].map dP) (eai_cons (evi_pair (w := [97, 98]) (n := 1) (ev_s [97, 98]) ev_c) eai_nil) (by decide)).l mono_L (eap_cons (evf_lst (ds := [([97, 97], 2), ([97, 98], 3)].map dP) (eai_cons (evi_pair (w := [97, 97]) (n := 2) (ev_s [97, 97]) ev_c) (eai_cons (evi_pair (w := [97, 98]) (n := 3) (ev_s [97, 98]) ev_c) eai_nil)) (by decide)).l mono_L eap_nil)) fun vs H4 e4 hp Q E q1 => ?_).l mono_L (evf_lst (ds := (tot ([([97, 98], 1)] ++ [([97, 97], 2), ([97, 98], 3)])).map dP) ?_ ?_).l dp_L dp_L sht sht) (by rw [SeqAt.eqv_refl _ sht.1])) fun H4 e4 => q H4
    · obtain ⟨v, r, rfl, ⟨a1, rfl, l1⟩, v2, r2, rfl, ⟨a2, rfl, l2⟩, rfl⟩ := hp
      exact ⟨a1, a2, 2, _, _, rfl, l1, l2, gab, gaa, by decide, q1⟩
    · rw [t1]
      exact eai_cons (evi_pair (w := [97, 97]) (n := 2) (ev_s [97, 97]) ev_c) (eai_cons (evi_pair (w := [97, 98]) (n := 4) (ev_s [97, 98]) ev_c) eai_nil)
    · rw [t1]; decide
end
theorem all_mk {l : PySem.W.OpenLaw} {w : World} {K : PySem.W.Frag} {h : Heap} {mg : Str → Option Value} {fa : Addr} (X : K.In h) (G : h.Ns mainGlobals mg) (hfa : mg "law" = some (.ref fa))
    {od0 an0 : Option Addr} {sl0 : Array (Option Value)} {oc0 kV0 dc0 pm0 cd0 ct0 : Value} {f0 : Addr}
    {od1 an1 : Option Addr} {sl1 : Array (Option Value)} {oc1 kV1 dc1 pm1 cd1 ct1 : Value} {f1 : Addr}
    {od2 an2 : Option Addr} {sl2 : Array (Option Value)} {oc2 kV2 dc2 pm2 cd2 ct2 : Value} {f2 : Addr}
    {od3 an3 : Option Addr} {sl3 : Array (Option Value)} {oc3 kV3 dc3 pm3 cd3 ct3 : Value} {f3 : Addr}
    {od4 an4 : Option Addr} {sl4 : Array (Option Value)} {oc4 kV4 dc4 pm4 cd4 ct4 : Value} {f4 : Addr}
    {od5 an5 : Option Addr} {sl5 : Array (Option Value)} {oc5 kV5 dc5 pm5 cd5 ct5 : Value} {f5 : Addr}
    {od6 an6 : Option Addr} {sl6 : Array (Option Value)} {oc6 kV6 dc6 pm6 cd6 ct6 : Value} {f6 : Addr}
    {od7 an7 : Option Addr} {sl7 : Array (Option Value)} {oc7 kV7 dc7 pm7 cd7 ct7 : Value} {f7 : Addr}
    {od8 an8 : Option Addr} {sl8 : Array (Option Value)} {oc8 kV8 dc8 pm8 cd8 ct8 : Value} {f8 : Addr}
    {od9 an9 : Option Addr} {sl9 : Array (Option Value)} {oc9 kV9 dc9 pm9 cd9 ct9 : Value} {f9 : Addr}
    {od10 an10 : Option Addr} {sl10 : Array (Option Value)} {oc10 kV10 dc10 pm10 cd10 ct10 : Value} {f10 : Addr}
    {od11 an11 : Option Addr} {sl11 : Array (Option Value)} {oc11 kV11 dc11 pm11 cd11 ct11 : Value} {f11 : Addr}
    {od12 an12 : Option Addr} {sl12 : Array (Option Value)} {oc12 kV12 dc12 pm12 cd12 ct12 : Value} {f12 : Addr}
    {od13 an13 : Option Addr} {sl13 : Array (Option Value)} {oc13 kV13 dc13 pm13 cd13 ct13 : Value} {f13 : Addr}
    {od14 an14 : Option Addr} {sl14 : Array (Option Value)} {oc14 kV14 dc14 pm14 cd14 ct14 : Value} {f14 : Addr}
    {t_LETTERS : Tok}
    {t_LONGEST : Tok}
    {t_LONGEST_PIECE : Tok}
    {t_MOST : Tok}
    {t_SHORTEST_PIECE : Tok}
    (a0 : PySem.W.nsIn K mainGlobals "is_between" = some (some (.ref f0))) (l0 : K.lookup f0 = some ⟨oc0, od0, .func (PySem.W.fnOf "is_between" "is_between" (defArgs s_is_between) (defBody s_is_between) (defScope s_is_between) .none kV0 dc0 pm0 an0 cd0 ct0), sl0⟩) (c0 : PySem.W.codeIn K cd0 "is_between" = true) (k0 : PySem.W.keepIn K (.ref f0) = true)
    (a1 : PySem.W.nsIn K mainGlobals "is_word" = some (some (.ref f1))) (l1 : K.lookup f1 = some ⟨oc1, od1, .func (PySem.W.fnOf "is_word" "is_word" (defArgs s_is_word) (defBody s_is_word) (defScope s_is_word) .none kV1 dc1 pm1 an1 cd1 ct1), sl1⟩) (c1 : PySem.W.codeIn K cd1 "is_word" = true) (k1 : PySem.W.keepIn K (.ref f1) = true)
    (a2 : PySem.W.nsIn K mainGlobals "check_word" = some (some (.ref f2))) (l2 : K.lookup f2 = some ⟨oc2, od2, .func (PySem.W.fnOf "check_word" "check_word" (defArgs s_check_word) (defBody s_check_word) (defScope s_check_word) .none kV2 dc2 pm2 an2 cd2 ct2), sl2⟩) (c2 : PySem.W.codeIn K cd2 "check_word" = true) (k2 : PySem.W.keepIn K (.ref f2) = true)
    (a3 : PySem.W.nsIn K mainGlobals "check_long" = some (some (.ref f3))) (l3 : K.lookup f3 = some ⟨oc3, od3, .func (PySem.W.fnOf "check_long" "check_long" (defArgs s_check_long) (defBody s_check_long) (defScope s_check_long) .none kV3 dc3 pm3 an3 cd3 ct3), sl3⟩) (c3 : PySem.W.codeIn K cd3 "check_long" = true) (k3 : PySem.W.keepIn K (.ref f3) = true)
    (a4 : PySem.W.nsIn K mainGlobals "pieces_of" = some (some (.ref f4))) (l4 : K.lookup f4 = some ⟨oc4, od4, .func (PySem.W.fnOf "pieces_of" "pieces_of" (defArgs s_pieces_of) (defBody s_pieces_of) (defScope s_pieces_of) .none kV4 dc4 pm4 an4 cd4 ct4), sl4⟩) (c4 : PySem.W.codeIn K cd4 "pieces_of" = true) (k4 : PySem.W.keepIn K (.ref f4) = true)
    (a5 : PySem.W.nsIn K mainGlobals "pieces" = some (some (.ref f5))) (l5 : K.lookup f5 = some ⟨oc5, od5, .func (PySem.W.fnOf "pieces" "pieces" (defArgs s_pieces) (defBody s_pieces) (defScope s_pieces) .none kV5 dc5 pm5 an5 cd5 ct5), sl5⟩) (c5 : PySem.W.codeIn K cd5 "pieces" = true) (k5 : PySem.W.keepIn K (.ref f5) = true)
    (a6 : PySem.W.nsIn K mainGlobals "is_counted" = some (some (.ref f6))) (l6 : K.lookup f6 = some ⟨oc6, od6, .func (PySem.W.fnOf "is_counted" "is_counted" (defArgs s_is_counted) (defBody s_is_counted) (defScope s_is_counted) .none kV6 dc6 pm6 an6 cd6 ct6), sl6⟩) (c6 : PySem.W.codeIn K cd6 "is_counted" = true) (k6 : PySem.W.keepIn K (.ref f6) = true)
    (a7 : PySem.W.nsIn K mainGlobals "check_counts" = some (some (.ref f7))) (l7 : K.lookup f7 = some ⟨oc7, od7, .func (PySem.W.fnOf "check_counts" "check_counts" (defArgs s_check_counts) (defBody s_check_counts) (defScope s_check_counts) .none kV7 dc7 pm7 an7 cd7 ct7), sl7⟩) (c7 : PySem.W.codeIn K cd7 "check_counts" = true) (k7 : PySem.W.keepIn K (.ref f7) = true)
    (a8 : PySem.W.nsIn K mainGlobals "together" = some (some (.ref f8))) (l8 : K.lookup f8 = some ⟨oc8, od8, .func (PySem.W.fnOf "together" "together" (defArgs s_together) (defBody s_together) (defScope s_together) .none kV8 dc8 pm8 an8 cd8 ct8), sl8⟩) (c8 : PySem.W.codeIn K cd8 "together" = true) (k8 : PySem.W.keepIn K (.ref f8) = true)
    (a9 : PySem.W.nsIn K mainGlobals "_law_cell_at" = some (some (.ref f9))) (l9 : K.lookup f9 = some ⟨oc9, od9, .func (PySem.W.fnOf "_law_cell_at" "_law_cell_at" (defArgs s__law_cell_at) (defBody s__law_cell_at) (defScope s__law_cell_at) .none kV9 dc9 pm9 an9 cd9 ct9), sl9⟩) (c9 : PySem.W.codeIn K cd9 "_law_cell_at" = true) (k9 : PySem.W.keepIn K (.ref f9) = true)
    (a10 : PySem.W.nsIn K mainGlobals "_law_draw" = some (some (.ref f10))) (l10 : K.lookup f10 = some ⟨oc10, od10, .func (PySem.W.fnOf "_law_draw" "_law_draw" (defArgs s__law_draw) (defBody s__law_draw) (defScope s__law_draw) .none kV10 dc10 pm10 an10 cd10 ct10), sl10⟩) (c10 : PySem.W.codeIn K cd10 "_law_draw" = true) (k10 : PySem.W.keepIn K (.ref f10) = true)
    (a11 : PySem.W.nsIn K mainGlobals "_law_number" = some (some (.ref f11))) (l11 : K.lookup f11 = some ⟨oc11, od11, .func (PySem.W.fnOf "_law_number" "_law_number" (defArgs s__law_number) (defBody s__law_number) (defScope s__law_number) .none kV11 dc11 pm11 an11 cd11 ct11), sl11⟩) (c11 : PySem.W.codeIn K cd11 "_law_number" = true) (k11 : PySem.W.keepIn K (.ref f11) = true)
    (a12 : PySem.W.nsIn K mainGlobals "_law_word" = some (some (.ref f12))) (l12 : K.lookup f12 = some ⟨oc12, od12, .func (PySem.W.fnOf "_law_word" "_law_word" (defArgs s__law_word) (defBody s__law_word) (defScope s__law_word) .none kV12 dc12 pm12 an12 cd12 ct12), sl12⟩) (c12 : PySem.W.codeIn K cd12 "_law_word" = true) (k12 : PySem.W.keepIn K (.ref f12) = true)
    (a13 : PySem.W.nsIn K mainGlobals "_law_pieces" = some (some (.ref f13))) (l13 : K.lookup f13 = some ⟨oc13, od13, .func (PySem.W.fnOf "_law_pieces" "_law_pieces" (defArgs s__law_pieces) (defBody s__law_pieces) (defScope s__law_pieces) .none kV13 dc13 pm13 an13 cd13 ct13), sl13⟩) (c13 : PySem.W.codeIn K cd13 "_law_pieces" = true) (k13 : PySem.W.keepIn K (.ref f13) = true)
    (a14 : PySem.W.nsIn K mainGlobals "law" = some (some (.ref f14))) (l14 : K.lookup f14 = some ⟨oc14, od14, .func (PySem.W.fnOf "law" "law" (defArgs s_law) (defBody s_law) (defScope s_law) .none kV14 dc14 pm14 an14 cd14 ct14), sl14⟩) (c14 : PySem.W.codeIn K cd14 "law" = true) (k14 : PySem.W.keepIn K (.ref f14) = true)
    (g_LETTERS : PySem.W.nsIn K mainGlobals "LETTERS" = some (some (.str ⟨#[97, 98, 99, 100]⟩ t_LETTERS)))
    (g_LONGEST : PySem.W.nsIn K mainGlobals "LONGEST" = some (some (.int 60 t_LONGEST)))
    (g_LONGEST_PIECE : PySem.W.nsIn K mainGlobals "LONGEST_PIECE" = some (some (.int 5 t_LONGEST_PIECE)))
    (g_MOST : PySem.W.nsIn K mainGlobals "MOST" = some (some (.int 56 t_MOST)))
    (g_SHORTEST_PIECE : PySem.W.nsIn K mainGlobals "SHORTEST_PIECE" = some (some (.int 2 t_SHORTEST_PIECE)))
    (z_len : PySem.W.nsIn K mainGlobals "len" = some none)
    (z_range : PySem.W.nsIn K mainGlobals "range" = some none)
    (z_all : PySem.W.nsIn K mainGlobals "all" = some none)
    (z_any : PySem.W.nsIn K mainGlobals "any" = some none)
    (z_sum : PySem.W.nsIn K mainGlobals "sum" = some none)
    (z_sorted : PySem.W.nsIn K mainGlobals "sorted" = some none)
    (z_set : PySem.W.nsIn K mainGlobals "set" = some none)
    (z_isinstance : PySem.W.nsIn K mainGlobals "isinstance" = some none)
    (z_max : PySem.W.nsIn K mainGlobals "max" = some none)
    (z_min : PySem.W.nsIn K mainGlobals "min" = some none)
    (z_abs : PySem.W.nsIn K mainGlobals "abs" = some none)
    (z_list : PySem.W.nsIn K mainGlobals "list" = some none)
    (z_dict : PySem.W.nsIn K mainGlobals "dict" = some none)
    (z_tuple : PySem.W.nsIn K mainGlobals "tuple" = some none)
    (z_zip : PySem.W.nsIn K mainGlobals "zip" = some none)
    (z_enumerate : PySem.W.nsIn K mainGlobals "enumerate" = some none)
    (z_str : PySem.W.nsIn K mainGlobals "str" = some none)
    (z_int : PySem.W.nsIn K mainGlobals "int" = some none)
    (z_bool : PySem.W.nsIn K mainGlobals "bool" = some none) :
    ∃ fd : FuncData, (∀ (s : Shared) (v : Value), BindsTo s fd ⟨[v], []⟩ [("_law_script", v)]) ∧ ∀ base : Heap, K.In base → base.Ns mainGlobals mg → TopOk l.prog w K mg base 5 fa fd "_law_script" (spLaw K) := by
  have e := hfa.symm.trans (PySem.W.mg_of X G a14)
  cases e
  have F0 := fun_mk (st := s_is_between) l0 c0 k0
  have F1 := fun_mk (st := s_is_word) l1 c1 k1
  have F2 := fun_mk (st := s_check_word) l2 c2 k2
  have F3 := fun_mk (st := s_check_long) l3 c3 k3
  have F4 := fun_mk (st := s_pieces_of) l4 c4 k4
  have F5 := fun_mk (st := s_pieces) l5 c5 k5
  have F6 := fun_mk (st := s_is_counted) l6 c6 k6
  have F7 := fun_mk (st := s_check_counts) l7 c7 k7
  have F8 := fun_mk (st := s_together) l8 c8 k8
  have F9 := fun_mk (st := s__law_cell_at) l9 c9 k9
  have F10 := fun_mk (st := s__law_draw) l10 c10 k10
  have F11 := fun_mk (st := s__law_number) l11 c11 k11
  have F12 := fun_mk (st := s__law_word) l12 c12 k12
  have F13 := fun_mk (st := s__law_pieces) l13 c13 k13
  have F14 := fun_mk (st := s_law) l14 c14 k14
  have B : Bl mg := ⟨PySem.W.mg_none_of X G z_len, PySem.W.mg_none_of X G z_range, PySem.W.mg_none_of X G z_all, PySem.W.mg_none_of X G z_any, PySem.W.mg_none_of X G z_sum, PySem.W.mg_none_of X G z_sorted, PySem.W.mg_none_of X G z_set, PySem.W.mg_none_of X G z_isinstance, PySem.W.mg_none_of X G z_max, PySem.W.mg_none_of X G z_min, PySem.W.mg_none_of X G z_abs, PySem.W.mg_none_of X G z_list, PySem.W.mg_none_of X G z_dict, PySem.W.mg_none_of X G z_tuple, PySem.W.mg_none_of X G z_zip, PySem.W.mg_none_of X G z_enumerate, PySem.W.mg_none_of X G z_str, PySem.W.mg_none_of X G z_int, PySem.W.mg_none_of X G z_bool⟩
  have G_LETTERS := PySem.W.mg_of X G g_LETTERS
  have G_LONGEST := PySem.W.mg_of X G g_LONGEST
  have G_LONGEST_PIECE := PySem.W.mg_of X G g_LONGEST_PIECE
  have G_MOST := PySem.W.mg_of X G g_MOST
  have G_SHORTEST_PIECE := PySem.W.mg_of X G g_SHORTEST_PIECE
  have b0 := F0.binds (ps := ["thing", "least", "most"]) fun _ _ _ _ _ _ us hl => match us, hl with | [_, _, _], _ => rfl
  have b1 := F1.binds (ps := ["thing", "most"]) fun _ _ _ _ _ _ us hl => match us, hl with | [_, _], _ => rfl
  have b2 := F2.binds (ps := ["word"]) fun _ _ _ _ _ _ us hl => match us, hl with | [_], _ => rfl
  have b3 := F3.binds (ps := ["long"]) fun _ _ _ _ _ _ us hl => match us, hl with | [_], _ => rfl
  have b4 := F4.binds (ps := ["word", "long"]) fun _ _ _ _ _ _ us hl => match us, hl with | [_, _], _ => rfl
  have b5 := F5.binds (ps := ["word", "long"]) fun _ _ _ _ _ _ us hl => match us, hl with | [_, _], _ => rfl
  have b6 := F6.binds (ps := ["thing"]) fun _ _ _ _ _ _ us hl => match us, hl with | [_], _ => rfl
  have b7 := F7.binds (ps := ["counts"]) fun _ _ _ _ _ _ us hl => match us, hl with | [_], _ => rfl
  have b8 := F8.binds (ps := ["one", "other"]) fun _ _ _ _ _ _ us hl => match us, hl with | [_, _], _ => rfl
  have b9 := F9.binds (ps := ["_law_script", "_law_k"]) fun _ _ _ _ _ _ us hl => match us, hl with | [_, _], _ => rfl
  have b10 := F10.binds (ps := ["_law_cell", "_law_k", "_law_most"]) fun _ _ _ _ _ _ us hl => match us, hl with | [_, _, _], _ => rfl
  have b11 := F11.binds (ps := ["_law_cell", "_law_k", "_law_limit"]) fun _ _ _ _ _ _ us hl => match us, hl with | [_, _, _], _ => rfl
  have b12 := F12.binds (ps := ["_law_script", "_law_by", "_law_most"]) fun _ _ _ _ _ _ us hl => match us, hl with | [_, _, _], _ => rfl
  have b13 := F13.binds (ps := ["_law_word_here", "_law_long"]) fun _ _ _ _ _ _ us hl => match us, hl with | [_, _], _ => rfl
  refine ⟨PySem.W.fnOf "law" "law" (defArgs s_law) (defBody s_law) (defScope s_law) .none kV14 dc14 pm14 an14 cd14 ct14, fun s v => .of_eq rfl, fun base _ _ => ?_⟩
  have D_is_between : DefOk l.prog w K mg base CX0 "is_between" 1 ["thing", "least", "most"] spBetween f0 _ := ⟨ok_is_between B F0, PySem.W.mg_of X G a0, k0, b0⟩
  have D_is_word : DefOk l.prog w K mg base CX0 "is_word" 1 ["thing", "most"] spIsWord f1 _ := ⟨ok_is_word B F1 (g_LETTERS := G_LETTERS), PySem.W.mg_of X G a1, k1, b1⟩
  have D_check_word : DefOk l.prog w K mg base CX0 "check_word" 2 ["word"] spCheckWord f2 _ := ⟨ok_check_word B F2 (g_LONGEST := G_LONGEST) (G_is_word := D_is_word), PySem.W.mg_of X G a2, k2, b2⟩
  have D_check_long : DefOk l.prog w K mg base CX0 "check_long" 2 ["long"] spCheckLong f3 _ := ⟨ok_check_long B F3 (g_SHORTEST_PIECE := G_SHORTEST_PIECE) (g_LONGEST_PIECE := G_LONGEST_PIECE) (G_is_between := D_is_between), PySem.W.mg_of X G a3, k3, b3⟩
  have D_pieces_of : DefOk l.prog w K mg base CX0 "pieces_of" 1 ["word", "long"] spPiecesOf f4 _ := ⟨ok_pieces_of B F4, PySem.W.mg_of X G a4, k4, b4⟩
  have D_pieces : DefOk l.prog w K mg base CX0 "pieces" 3 ["word", "long"] spPieces f5 _ := ⟨ok_pieces B F5 (G_check_word := D_check_word) (G_check_long := D_check_long) (G_pieces_of := D_pieces_of), PySem.W.mg_of X G a5, k5, b5⟩
  have D_is_counted : DefOk l.prog w K mg base CX0 "is_counted" 2 ["thing"] (spCounted K) f6 _ := ⟨ok_is_counted B F6 (g_LONGEST_PIECE := G_LONGEST_PIECE) (g_SHORTEST_PIECE := G_SHORTEST_PIECE) (g_MOST := G_MOST) (G_is_word := D_is_word) (G_is_between := D_is_between), PySem.W.mg_of X G a6, k6, b6⟩
  have D_check_counts : DefOk l.prog w K mg base CX0 "check_counts" 3 ["counts"] spCheckCounts f7 _ := ⟨ok_check_counts B F7 (g_MOST := G_MOST) (G_is_counted := D_is_counted), PySem.W.mg_of X G a7, k7, b7⟩
  have D_together : DefOk l.prog w K mg base CX0 "together" 4 ["one", "other"] spTogether f8 _ := ⟨ok_together B F8 (g_MOST := G_MOST) (G_check_counts := D_check_counts), PySem.W.mg_of X G a8, k8, b8⟩
  have D__law_cell_at : DefOk l.prog w K mg base CX0 "_law_cell_at" 1 ["_law_script", "_law_k"] (spCellAt K) f9 _ := ⟨ok__law_cell_at B F9, PySem.W.mg_of X G a9, k9, b9⟩
  have D__law_draw : DefOk l.prog w K mg base CX0 "_law_draw" 1 ["_law_cell", "_law_k", "_law_most"] spDraw f10 _ := ⟨ok__law_draw B F10, PySem.W.mg_of X G a10, k10, b10⟩
  have D__law_number : DefOk l.prog w K mg base CX0 "_law_number" 2 ["_law_cell", "_law_k", "_law_limit"] spNumber f11 _ := ⟨ok__law_number B F11 (G__law_draw := D__law_draw), PySem.W.mg_of X G a11, k11, b11⟩
  have D__law_word : DefOk l.prog w K mg base CX0 "_law_word" 3 ["_law_script", "_law_by", "_law_most"] (spWord K) f12 _ := ⟨ok__law_word B F12 (G__law_cell_at := D__law_cell_at) (G__law_number := D__law_number), PySem.W.mg_of X G a12, k12, b12⟩
  have D__law_pieces : DefOk l.prog w K mg base CX0 "_law_pieces" 1 ["_law_word_here", "_law_long"] spLawPieces f13 _ := ⟨ok__law_pieces B F13, PySem.W.mg_of X G a13, k13, b13⟩
  exact ok_law B F14 (G_together := D_together) (G_pieces := D_pieces) (G__law_word := D__law_word) (G__law_pieces := D__law_pieces)
end Pt
open PySem PySem.W PyProof.Rows
set_option maxRecDepth 100000 in
set_option maxHeartbeats 0 in
theorem PySem.Challenge.cw_piecetally_k03_whole_together_holds : PySem.Challenge.rw_piecetally_k03_whole_together.Holds := by
  w_on; o_law; k_head; (case hw => w_witness2)
  k_fill
  refine Pt.walk_top (l := PySem.Challenge.rw_piecetally_k03_whole_together) (n := 63) (k := 5) (x := "_law_script") (sp := fun w => Pt.spLaw _) rfl (by decide) rfl ⟨rfl, by decide, by decide⟩ (fun w h Y => PySem.W.kIn_of Y) ?F (fun _ _ a ns hl hS => ⟨a, ns, rfl, hS, hl, fun _ => rfl⟩)
  case F =>
    intro w mg fa h KX G hmg
    refine' Pt.all_mk KX G hmg ?a0 ?l0 ?c0 ?k0 ?a1 ?l1 ?c1 ?k1 ?a2 ?l2 ?c2 ?k2 ?a3 ?l3 ?c3 ?k3 ?a4 ?l4 ?c4 ?k4 ?a5 ?l5 ?c5 ?k5 ?a6 ?l6 ?c6 ?k6 ?a7 ?l7 ?c7 ?k7 ?a8 ?l8 ?c8 ?k8 ?a9 ?l9 ?c9 ?k9 ?a10 ?l10 ?c10 ?k10 ?a11 ?l11 ?c11 ?k11 ?a12 ?l12 ?c12 ?k12 ?a13 ?l13 ?c13 ?k13 ?a14 ?l14 ?c14 ?k14 ?g_LETTERS ?g_LONGEST ?g_LONGEST_PIECE ?g_MOST ?g_SHORTEST_PIECE ?z_len ?z_range ?z_all ?z_any ?z_sum ?z_sorted ?z_set ?z_isinstance ?z_max ?z_min ?z_abs ?z_list ?z_dict ?z_tuple ?z_zip ?z_enumerate ?z_str ?z_int ?z_bool
    (case a0 => k_is); (case l0 => k_is); (case c0 => k_is); (case k0 => k_is); (case a1 => k_is); (case l1 => k_is); (case c1 => k_is); (case k1 => k_is); (case a2 => k_is); (case l2 => k_is); (case c2 => k_is); (case k2 => k_is); (case a3 => k_is); (case l3 => k_is); (case c3 => k_is); (case k3 => k_is); (case a4 => k_is); (case l4 => k_is); (case c4 => k_is); (case k4 => k_is); (case a5 => k_is); (case l5 => k_is); (case c5 => k_is); (case k5 => k_is); (case a6 => k_is); (case l6 => k_is); (case c6 => k_is); (case k6 => k_is); (case a7 => k_is); (case l7 => k_is); (case c7 => k_is); (case k7 => k_is); (case a8 => k_is); (case l8 => k_is); (case c8 => k_is); (case k8 => k_is); (case a9 => k_is); (case l9 => k_is); (case c9 => k_is); (case k9 => k_is); (case a10 => k_is); (case l10 => k_is); (case c10 => k_is); (case k10 => k_is); (case a11 => k_is); (case l11 => k_is); (case c11 => k_is); (case k11 => k_is); (case a12 => k_is); (case l12 => k_is); (case c12 => k_is); (case k12 => k_is); (case a13 => k_is); (case l13 => k_is); (case c13 => k_is); (case k13 => k_is); (case a14 => k_is); (case l14 => k_is); (case c14 => k_is); (case k14 => k_is); (case g_LETTERS => k_is); (case g_LONGEST => k_is); (case g_LONGEST_PIECE => k_is); (case g_MOST => k_is); (case g_SHORTEST_PIECE => k_is); (case z_len => k_is); (case z_range => k_is); (case z_all => k_is); (case z_any => k_is); (case z_sum => k_is); (case z_sorted => k_is); (case z_set => k_is); (case z_isinstance => k_is); (case z_max => k_is); (case z_min => k_is); (case z_abs => k_is); (case z_list => k_is); (case z_dict => k_is); (case z_tuple => k_is); (case z_zip => k_is); (case z_enumerate => k_is); (case z_str => k_is); (case z_int => k_is); (case z_bool => k_is)
