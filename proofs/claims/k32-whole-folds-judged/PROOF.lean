import PyProof.Rows.All
import Wide.All
import OpenK.AllK
import Wide.FinOn
import HandS.ForMost
import HandS.Evl
import HandS.IsInst
import HandS.TupAny
import HandS.TupMul
import HandS.Style
import PySem.Challenge.RW_rateflows_k32_whole_folds_judged
set_option Elab.async false
set_option maxRecDepth 100000
set_option maxHeartbeats 4000000
/-! The plain mathematics: looped code as a tree, the two readings of a value, the fewest appearances. -/
namespace RF
section
open PySem

/-! ### looped code -/
inductive C where
  | box (i : Int)
  | rep (t : Int) (b : List C)
mutual
def unr : C → List Int
  | .box i => [i]
  | .rep t b => (List.replicate t.toNat (unrL b)).flatten
def unrL : List C → List Int
  | [] => []
  | c :: cs => unr c ++ unrL cs
end
mutual
def sai : C → List Int
  | .box i => [i]
  | .rep _ b => saiL b
def saiL : List C → List Int
  | [] => []
  | c :: cs => sai c ++ saiL cs
end
mutual
def dep : C → Nat
  | .box _ => 0
  | .rep _ b => depL b + 1
def depL : List C → Nat
  | [] => 0
  | c :: cs => max (dep c) (depL cs)
end
mutual
def okC : C → Prop
  | .box i => 0 ≤ i ∧ i < 8
  | .rep t b => 2 ≤ t ∧ t ≤ 999 ∧ b ≠ [] ∧ okL b
def okL : List C → Prop
  | [] => True
  | c :: cs => okC c ∧ okL cs
end
mutual
def toD : C → PyData
  | .box i => .int i
  | .rep t b => .tuple [.int t, .tuple (toDL b)]
def toDL : List C → List PyData
  | [] => []
  | c :: cs => toD c :: toDL cs
end
theorem toDL_map : ∀ cs : List C, toDL cs = cs.map toD
  | [] => by simp [toDL]
  | c :: cs => by simp [toDL, toDL_map cs]
theorem toDL_length (cs : List C) : (toDL cs).length = cs.length := by rw [toDL_map, List.length_map]
theorem unrL_append : ∀ a b : List C, unrL (a ++ b) = unrL a ++ unrL b
  | [], b => by simp [unrL]
  | c :: cs, b => by simp [unrL, unrL_append cs b, List.append_assoc]
theorem saiL_append : ∀ a b : List C, saiL (a ++ b) = saiL a ++ saiL b
  | [], b => by simp [saiL]
  | c :: cs, b => by simp [saiL, saiL_append cs b, List.append_assoc]
theorem depL_append : ∀ a b : List C, depL (a ++ b) = max (depL a) (depL b)
  | [], b => by simp [depL]
  | c :: cs, b => by
    simp only [List.cons_append, depL, depL_append cs b]
    omega
theorem okL_append : ∀ a b : List C, okL (a ++ b) ↔ okL a ∧ okL b
  | [], b => by simp [okL]
  | c :: cs, b => by
    simp only [List.cons_append, okL, okL_append cs b]
    exact ⟨fun ⟨h1, h2, h3⟩ => ⟨⟨h1, h2⟩, h3⟩, fun ⟨⟨h1, h2⟩, h3⟩ => ⟨h1, h2, h3⟩⟩
theorem okL_mem : ∀ {cs : List C}, okL cs ↔ ∀ c ∈ cs, okC c
  | [] => by simp [okL]
  | c :: cs => by
    simp only [okL, okL_mem (cs := cs), List.mem_cons]
    exact ⟨fun ⟨h1, h2⟩ d hd => hd.elim (fun e => e ▸ h1) (h2 d), fun h => ⟨h c (.inl rfl), fun d hd => h d (.inr hd)⟩⟩
theorem dep_mem : ∀ {cs : List C} {c : C}, c ∈ cs → dep c ≤ depL cs
  | c :: cs, d, h => by
    simp only [depL]
    rcases List.mem_cons.mp h with e | h
    · subst e; omega
    · have := dep_mem h; omega
theorem depL_le : ∀ {cs : List C} {n : Nat}, (∀ c ∈ cs, dep c ≤ n) → depL cs ≤ n
  | [], n, _ => by simp [depL]
  | c :: cs, n, h => by
    simp only [depL]
    have h1 := h c (by simp)
    have h2 := depL_le (cs := cs) (n := n) fun d hd => h d (by simp [hd])
    omega
theorem len_rep {α : Type} (k : Nat) (l : List α) : (List.replicate k l).flatten.length = k * l.length := by
  induction k with
  | zero => simp
  | succ k ih => rw [List.replicate_succ, List.flatten_cons, List.length_append, ih, Nat.succ_mul]; omega
theorem len_unrL_mem : ∀ {cs : List C} {c : C}, c ∈ cs → (unr c).length ≤ (unrL cs).length
  | c :: cs, d, h => by
    simp only [unrL, List.length_append]
    rcases List.mem_cons.mp h with e | h
    · subst e; omega
    · have := len_unrL_mem h; omega
theorem unrL_len_reverse : ∀ cs : List C, (unrL cs.reverse).length = (unrL cs).length
  | [] => by simp
  | c :: cs => by
    rw [List.reverse_cons, unrL_append, List.length_append, unrL_len_reverse cs]
    simp only [unrL, List.length_append, List.append_nil]
    omega
theorem unrL_take_drop (cs : List C) (n : Nat) : (unrL (cs.take n)).length + (unrL (cs.drop n)).length = (unrL cs).length := by
  have h := unrL_append (cs.take n) (cs.drop n)
  rw [List.take_append_drop] at h
  rw [h, List.length_append]
mutual
theorem unr_pos : ∀ c : C, okC c → 1 ≤ (unr c).length
  | .box i, _ => by simp [unr]
  | .rep t b, h => by
    simp only [okC] at h
    obtain ⟨h1, _, h2, h3⟩ := h
    have q := unrL_pos b h2 h3
    simp only [unr]
    rw [len_rep]
    have ht : 1 ≤ t.toNat := by omega
    exact Nat.mul_pos ht q
theorem unrL_pos : ∀ cs : List C, cs ≠ [] → okL cs → 1 ≤ (unrL cs).length
  | [], h, _ => absurd rfl h
  | c :: cs, _, h => by
    simp only [okL] at h
    have q := unr_pos c h.1
    simp only [unrL, List.length_append]
    omega
end
mutual
theorem sai_le : ∀ c : C, okC c → (sai c).length ≤ (unr c).length
  | .box i, _ => by simp [unr, sai]
  | .rep t b, h => by
    simp only [okC] at h
    obtain ⟨h1, _, h2, h3⟩ := h
    have q := saiL_le b h3
    simp only [unr, sai]
    rw [len_rep]
    have ht : 1 ≤ t.toNat := by omega
    exact Nat.le_trans q (Nat.le_mul_of_pos_left _ ht)
theorem saiL_le : ∀ cs : List C, okL cs → (saiL cs).length ≤ (unrL cs).length
  | [], _ => by simp [unrL, saiL]
  | c :: cs, h => by
    simp only [okL] at h
    have q := sai_le c h.1
    have q2 := saiL_le cs h.2
    simp only [unrL, saiL, List.length_append]
    omega
end
/-- a stretch's body is at most half as long -/
theorem rep_half {t : Int} {b : List C} (h : okC (.rep t b)) : 2 * (unrL b).length ≤ (unr (.rep t b)).length ∧ 1 ≤ (unrL b).length ∧ (unr (.rep t b)).length = t.toNat * (unrL b).length := by
  simp only [okC] at h
  obtain ⟨h1, _, h2, h3⟩ := h
  simp only [unr]
  rw [len_rep]
  exact ⟨Nat.mul_le_mul_right _ (by omega), unrL_pos b h2 h3, rfl⟩
mutual
theorem dep_len : ∀ c : C, okC c → dep c + 1 ≤ (unr c).length
  | .box i, _ => by simp [unr, dep]
  | .rep t b, h => by
    have q := rep_half h
    simp only [okC] at h
    have q2 := depL_len b h.2.2.1 h.2.2.2
    simp only [dep]
    omega
theorem depL_len : ∀ cs : List C, cs ≠ [] → okL cs → depL cs + 1 ≤ (unrL cs).length
  | [], h, _ => absurd rfl h
  | [c], _, h => by
    simp only [okL] at h
    have q := dep_len c h.1
    simp only [unrL, depL, List.append_nil]
    omega
  | c :: d :: cs, _, h => by
    simp only [okL] at h
    have q := dep_len c h.1
    have q2 := depL_len (d :: cs) (by simp) (by simp only [okL]; exact h.2)
    simp only [unrL, depL, List.length_append] at q2 ⊢
    omega
end

/-! ### how the program reads a value's size; how the law looks at its form -/
def dIn (lo hi : Int) : PyData → Bool
  | .int i => decide (lo ≤ i) && decide (i ≤ hi)
  | _ => false
def isTup : PyData → Bool
  | .tuple _ => true
  | _ => false
def szItem (rec : PyData → Option Int) : PyData → Option Int
  | .int i => if 0 ≤ i ∧ i ≤ 7 then some 1 else none
  | .tuple [.int t, b] => if 2 ≤ t ∧ t ≤ 999 then (match rec b with
      | some n => if n = 0 then none else some (t * n)
      | none => none) else none
  | _ => none
def szGo (f : PyData → Option Int) : Int → List PyData → Option Int
  | acc, [] => some acc
  | acc, d :: ds => match f d with
    | none => none
    | some n => if 2000 < acc + n then none else szGo f (acc + n) ds
def szRec : Nat → PyData → Option Int
  | 0, _ => none
  | n + 1, .tuple ds => szGo (szItem (szRec n)) 0 ds
  | _ + 1, _ => none
/-- size_of(value, n) -/
def szOf (n : Nat) (d : PyData) : Option Int := szRec (n + 1) d
theorem szOf_tuple (n : Nat) (ds : List PyData) : szOf n (.tuple ds) = szGo (szItem (szRec n)) 0 ds := by
  unfold szOf
  rw [szRec]
theorem szOf_other (n : Nat) (d : PyData) (h : isTup d = false) : szOf n d = none := by
  unfold szOf
  cases d <;> simp [szRec, isTup] at h ⊢
theorem szGo_code (n : Nat) (ih : ∀ b : List C, okL b → (unrL b).length ≤ 2000 → depL b < n → szRec n (.tuple (toDL b)) = some ((unrL b).length : Int)) :
    ∀ (cs : List C) (acc : Nat), okL cs → acc + (unrL cs).length ≤ 2000 → depL cs ≤ n → szGo (szItem (szRec n)) (acc : Int) (toDL cs) = some ((acc + (unrL cs).length : Nat) : Int)
  | [], acc, _, _, _ => by simp [toDL, szGo, unrL]
  | .box i :: cs, acc, h, h20, hn => by
    simp only [okL, okC] at h
    simp only [unrL, unr, List.length_append, List.length_singleton] at h20 ⊢
    simp only [depL, dep] at hn
    have ih2 := szGo_code n ih cs (acc + 1) h.2 (by omega) (by omega)
    have hc : (0 : Int) ≤ i ∧ i ≤ 7 := by omega
    have hb : ¬ (2000 : Int) < (acc : Int) + 1 := by omega
    have e : ((acc : Nat) : Int) + 1 = ((acc + 1 : Nat) : Int) := by omega
    simp only [toDL, toD, szGo, szItem, if_pos hc, if_neg hb]
    rw [e, ih2]
    congr 2
    omega
  | .rep t b :: cs, acc, h, h20, hn => by
    have hh := h
    simp only [okL] at hh
    obtain ⟨p1, p2, p3⟩ := rep_half hh.1
    have h := hh
    simp only [okC] at h
    obtain ⟨⟨h1, h2, h3, h4⟩, h5⟩ := h
    simp only [unrL, List.length_append] at h20 ⊢
    simp only [depL, dep] at hn
    have q := ih b h4 (by omega) (by omega)
    have ih2 := szGo_code n ih cs (acc + (unr (.rep t b)).length) h5 (by omega) (by omega)
    have ht : (2 : Int) ≤ t ∧ t ≤ 999 := ⟨h1, h2⟩
    have hz : ¬ ((unrL b).length : Int) = 0 := by omega
    have et : t * ((unrL b).length : Int) = ((unr (.rep t b)).length : Int) := by
      rw [p3, Int.natCast_mul, Int.toNat_of_nonneg (by omega)]
    have hb : ¬ (2000 : Int) < (acc : Int) + ((unr (.rep t b)).length : Int) := by omega
    have e : ((acc : Nat) : Int) + ((unr (.rep t b)).length : Int) = ((acc + (unr (.rep t b)).length : Nat) : Int) := by omega
    simp only [toDL, toD, szGo, szItem, if_pos ht, q, if_neg hz, et, if_neg hb]
    rw [e, ih2]
    congr 2
    omega
theorem szRec_code : ∀ (n : Nat) (b : List C), okL b → (unrL b).length ≤ 2000 → depL b < n → szRec n (.tuple (toDL b)) = some ((unrL b).length : Int)
  | 0, b, _, _, h => by omega
  | n + 1, b, h1, h2, h3 => by
    have q := szGo_code n (szRec_code n) b 0 h1 (by omega) (by omega)
    rw [szRec]
    simpa using q
theorem szOf_code (cs : List C) (h1 : okL cs) (h2 : (unrL cs).length ≤ 2000) (h3 : depL cs ≤ 8) : szOf 8 (.tuple (toDL cs)) = some ((unrL cs).length : Int) :=
  szRec_code 9 cs h1 h2 (by omega)
mutual
theorem dep_half : ∀ c : C, okC c → 2 * dep c ≤ (unr c).length
  | .box i, _ => by simp [dep]
  | .rep t b, h => by
    have q := rep_half h
    simp only [okC] at h
    have q2 := depL_len b h.2.2.1 h.2.2.2
    simp only [dep]
    omega
theorem depL_half : ∀ cs : List C, okL cs → 2 * depL cs ≤ (unrL cs).length
  | [], _ => by simp [depL]
  | c :: cs, h => by
    simp only [okL] at h
    have q := dep_half c h.1
    have q2 := depL_half cs h.2
    simp only [unrL, depL, List.length_append]
    omega
end
def ilItem (rec : List PyData → Bool) : PyData → Bool
  | .int i => decide (0 ≤ i) && decide (i < 8)
  | .tuple [.int t, .tuple b] => decide (2 ≤ t) && (!b.isEmpty && rec b)
  | _ => false
/-- _law_is_loop, n turns deep -/
def il : Nat → List PyData → Bool
  | 0, _ => false
  | n + 1, ds => ds.all (ilItem (il n))
theorem il_code : ∀ (n : Nat) (cs : List C), okL cs → depL cs < n → il n (toDL cs) = true
  | 0, _, _, h => by omega
  | n + 1, cs, h1, h2 => by
    simp only [il]
    rw [List.all_eq_true]
    intro d hd
    rw [toDL_map] at hd
    obtain ⟨c, hc, e⟩ := List.mem_map.mp hd
    subst e
    have ok := okL_mem.mp h1 c hc
    have hdp := dep_mem hc
    cases c with
    | box i =>
      simp only [okC] at ok
      simp [toD, ilItem, ok]
    | rep t b =>
      simp only [okC] at ok
      simp only [dep] at hdp
      have q := il_code n b ok.2.2.2 (by omega)
      have e : (toDL b).isEmpty = false := by
        cases b with
        | nil => exact absurd rfl ok.2.2.1
        | cons x xs => simp [toDL]
      simp [toD, ilItem, ok.1, e, q]
mutual
theorem canLay_code : ∀ c : C, (toD c).canLay0 = true
  | .box i => by simp [toD, PyData.canLay0]
  | .rep t b => by simp [toD, PyData.canLay0, PyData.canLayAll0, canLayAll_code b]
theorem canLayAll_code : ∀ cs : List C, PyData.canLayAll0 (toDL cs) = true
  | [] => by simp [toDL, PyData.canLayAll0]
  | c :: cs => by simp [toDL, PyData.canLayAll0, canLay_code c, canLayAll_code cs]
end
mutual
theorem depth_code : ∀ c : C, (toD c).depth ≤ 2 * dep c
  | .box i => by simp [toD, PyData.depth]
  | .rep t b => by
    have q := depthAll_code b
    simp only [toD, PyData.depth, PyData.depthAll, dep]
    omega
theorem depthAll_code : ∀ cs : List C, PyData.depthAll (toDL cs) ≤ 2 * depL cs
  | [] => by simp [toDL, PyData.depthAll]
  | c :: cs => by
    have q := depth_code c
    have q2 := depthAll_code cs
    simp only [toDL, PyData.depthAll, depL]
    omega
end
theorem shaped_code {cs : List C} (h : depL cs ≤ 30) : SeqAt.shaped (.tuple (toDL cs)) = true := by
  have q := depthAll_code cs
  unfold SeqAt.shaped
  rw [Bool.and_eq_true]
  exact ⟨by simp [PyData.canLay0, canLayAll_code], decide_eq_true (by simp only [PyData.depth]; omega)⟩
/-! ### == of data -/
theorem eqvAll_ints : ∀ ns ms : List Int, PyData.eqvAll (ns.map .int) (ms.map .int) = decide (ns = ms)
  | [], [] => by simp [PyData.eqvAll]
  | [], m :: ms => by simp [PyData.eqvAll]
  | n :: ns, [] => by simp [PyData.eqvAll]
  | n :: ns, m :: ms => by
    simp only [List.map_cons, PyData.eqvAll, PyData.eqv, eqvAll_ints ns ms, List.cons.injEq]
    rw [Bool.eq_iff_iff]
    simp
theorem eqv_ints (ns ms : List Int) : PyData.eqv (.tuple (ns.map .int)) (.tuple (ms.map .int)) = decide (ns = ms) := by
  simp only [PyData.eqv, eqvAll_ints]
theorem eqv_nil (ds : List PyData) : PyData.eqv (.tuple ds) (.tuple []) = ds.isEmpty := by
  cases ds <;> simp [PyData.eqv, PyData.eqvAll]
theorem eqvL_nil (ds : List PyData) : PyData.eqv (.list ds) (.list []) = ds.isEmpty := by
  cases ds <;> simp [PyData.eqv, PyData.eqvAll]
theorem canLayAll_ints : ∀ ns : List Int, PyData.canLayAll0 (ns.map .int) = true
  | [] => by simp [PyData.canLayAll0]
  | n :: ns => by simp [PyData.canLayAll0, PyData.canLay0, canLayAll_ints ns]
theorem depthAll_ints : ∀ ns : List Int, PyData.depthAll (ns.map .int) = 0
  | [] => by simp [PyData.depthAll]
  | n :: ns => by simp [PyData.depthAll, PyData.depth, depthAll_ints ns]
theorem shaped_ints (ns : List Int) : SeqAt.shaped (.tuple (ns.map .int)) = true := by
  unfold SeqAt.shaped
  rw [Bool.and_eq_true]
  exact ⟨by simp [PyData.canLay0, canLayAll_ints], decide_eq_true (by simp [PyData.depth, depthAll_ints])⟩
theorem shapedL_ints (ns : List Int) : SeqAt.shaped (.list (ns.map .int)) = true := by
  unfold SeqAt.shaped
  rw [Bool.and_eq_true]
  exact ⟨by simp [PyData.canLay0, canLayAll_ints], decide_eq_true (by simp [PyData.depth, depthAll_ints])⟩

/-! ### the fewest appearances -/
def MinOf (l : List Int) (m : Int) : Prop := m ∈ l ∧ ∀ x ∈ l, m ≤ x
theorem MinOf.uniq {l : List Int} {m n : Int} (a : MinOf l m) (b : MinOf l n) : m = n := by
  have h1 := a.2 n b.1
  have h2 := b.2 m a.1
  omega
theorem MinOf.one (x : Int) : MinOf [x] x := ⟨by simp, by simp⟩
theorem MinOf.snoc {l : List Int} {m x : Int} (a : MinOf l m) : MinOf (l ++ [x]) (if x < m then x else m) := by
  by_cases h : x < m
  · rw [if_pos h]
    refine ⟨by simp, fun y hy => ?_⟩
    rcases List.mem_append.mp hy with hy | hy
    · have := a.2 y hy; omega
    · simp at hy; omega
  · rw [if_neg h]
    refine ⟨List.mem_append_left _ a.1, fun y hy => ?_⟩
    rcases List.mem_append.mp hy with hy | hy
    · exact a.2 y hy
    · simp at hy; omega
def lmin : List Int → Int
  | [] => 0
  | [x] => x
  | x :: y :: r => if lmin (y :: r) < x then lmin (y :: r) else x
theorem lmin_min : ∀ {l : List Int}, l ≠ [] → MinOf l (lmin l)
  | [], h => absurd rfl h
  | [x], _ => by simpa [lmin] using MinOf.one x
  | x :: y :: r, _ => by
    have ih := lmin_min (l := y :: r) (by simp)
    simp only [lmin]
    by_cases h : lmin (y :: r) < x
    · rw [if_pos h]
      refine ⟨List.mem_cons_of_mem _ ih.1, fun z hz => ?_⟩
      rcases List.mem_cons.mp hz with e | hz
      · omega
      · exact ih.2 z hz
    · rw [if_neg h]
      refine ⟨by simp, fun z hz => ?_⟩
      rcases List.mem_cons.mp hz with e | hz
      · omega
      · have := ih.2 z hz; omega
def period (w : List Int) (p : Nat) : Bool := decide (w.length % p = 0) && decide (w = (List.replicate (w.length / p) (w.take p)).flatten)
def cuts (f : List Int → Int) (w : List Int) (n : Nat) : List Int := (List.range n).map fun i => f (w.take (i + 1)) + f (w.drop (i + 1))
def parts (f : List Int → Int) (w : List Int) (n : Nat) : List Int := ((List.range n).filter fun i => period w (i + 1)).map fun i => f (w.take (i + 1))
def cands (f : List Int → Int) (w : List Int) : List Int := cuts f w (w.length - 1) ++ parts f w (w.length - 1)
theorem cuts_succ (f : List Int → Int) (w : List Int) (n : Nat) : cuts f w (n + 1) = cuts f w n ++ [f (w.take (n + 1)) + f (w.drop (n + 1))] := by
  simp [cuts, List.range_succ]
theorem cuts_length (f : List Int → Int) (w : List Int) (n : Nat) : (cuts f w n).length = n := by simp [cuts]
theorem parts_succ (f : List Int → Int) (w : List Int) (n : Nat) : parts f w (n + 1) = parts f w n ++ (if period w (n + 1) then [f (w.take (n + 1))] else []) := by
  unfold parts
  rw [List.range_succ, List.filter_append, List.map_append]
  by_cases h : period w (n + 1) = true
  · simp [h]
  · simp [h]
theorem parts_length (f : List Int → Int) (w : List Int) (n : Nat) : (parts f w n).length ≤ n := by
  unfold parts
  rw [List.length_map]
  exact Nat.le_trans (List.length_filter_le _ _) (by simp)
def Fn : Nat → List Int → Int
  | 0, w => w.length
  | n + 1, w => if w.length < 2 then (w.length : Int) else lmin (cands (Fn n) w)
theorem cands_congr {f g : List Int → Int} {w : List Int} (h : ∀ v : List Int, v.length < w.length → f v = g v) : cands f w = cands g w := by
  unfold cands cuts parts
  congr 1
  · apply List.map_congr_left
    intro i hi
    have := List.mem_range.mp hi
    rw [h (w.take (i + 1)) (by rw [List.length_take]; omega), h (w.drop (i + 1)) (by rw [List.length_drop]; omega)]
  · apply List.map_congr_left
    intro i hi
    have := List.mem_range.mp (List.mem_filter.mp hi).1
    rw [h (w.take (i + 1)) (by rw [List.length_take]; omega)]
theorem Fn_stable : ∀ (n m : Nat) (w : List Int), w.length ≤ n → w.length ≤ m → Fn n w = Fn m w
  | 0, 0, w, _, _ => rfl
  | 0, m + 1, w, h, _ => by
    rw [Fn, Fn, if_pos (by omega)]
  | n + 1, 0, w, _, h => by
    rw [Fn, Fn, if_pos (by omega)]
  | n + 1, m + 1, w, h1, h2 => by
    rw [Fn, Fn]
    by_cases h : w.length < 2
    · rw [if_pos h, if_pos h]
    · rw [if_neg h, if_neg h, cands_congr fun v hv => Fn_stable n m v (by omega) (by omega)]
/-- the fewest appearances, by the law's own recursion -/
def F (w : List Int) : Int := Fn w.length w
theorem F_small {w : List Int} (h : w.length < 2) : F w = w.length := by
  unfold F
  cases e : w.length with
  | zero => rw [Fn, e]
  | succ n => rw [Fn, if_pos (by omega), e]
theorem F_min {w : List Int} (h : 2 ≤ w.length) : MinOf (cands F w) (F w) := by
  have e : F w = lmin (cands F w) := by
    unfold F
    cases q : w.length with
    | zero => omega
    | succ n =>
      rw [Fn, if_neg (by omega)]
      congr 1
      exact cands_congr fun v hv => Fn_stable n v.length v (by omega) (Nat.le_refl _)
  rw [e]
  refine lmin_min fun z => ?_
  have l := congrArg List.length z
  unfold cands at l
  rw [List.length_append, cuts_length] at l
  simp at l
  omega
end
end RF
/-! The program's text by places. -/
namespace RF
section
open PySem L2
def topS (i : Nat) : Stmt := PySem.Challenge.pw_rateflows_k32_whole_folds_judged.main.body.getD i (.Pass ⟨0, 0, 0, 0⟩)
abbrev s_is_in : Stmt := topS 5
abbrev s_size_of : Stmt := topS 12
abbrev s_unrolled_in : Stmt := topS 13
abbrev s_appear_in : Stmt := topS 14
abbrev s_deep_in : Stmt := topS 15
abbrev s_folds_of : Stmt := topS 16
abbrev s_best_fold : Stmt := topS 17
abbrev s_need_short : Stmt := topS 18
abbrev s_folded : Stmt := topS 19
abbrev s_shows_fold : Stmt := topS 20
abbrev s_law_unrolled : Stmt := topS 22
abbrev s_law_taken : Stmt := topS 23
abbrev s_law_loop : Stmt := topS 24
abbrev s_law_folds : Stmt := topS 25
abbrev s_law_said : Stmt := topS 26
abbrev s_law_alike : Stmt := topS 27
abbrev s_law_is_vector : Stmt := topS 28
abbrev s_law_is_loop : Stmt := topS 29
abbrev s_law : Stmt := topS 30
/-- a def of the text, where it stands -/
structure Def (K : PySem.W.Frag) (mg : Str → Option Value) (nm : Str) (st : Stmt) (ps : List Str) (f : Addr) (fd : FuncData) : Prop where
  F : Fun K nm nm st f fd
  b : Binds K fd ps []
  g : mg nm = some (.ref f)
abbrev HasDef (K : PySem.W.Frag) (mg : Str → Option Value) (nm : Str) (st : Stmt) (ps : List Str) : Prop := ∃ f fd, Def K mg nm st ps f fd
/-- what the top leaves for the names that are no defs -/
structure Top (mg : Str → Option Value) : Prop where
  z_isinstance : mg "isinstance" = none
  z_int : mg "int" = none
  z_bool : mg "bool" = none
  z_tuple : mg "tuple" = none
  z_list : mg "list" = none
  z_str : mg "str" = none
  z_len : mg "len" = none
  z_range : mg "range" = none
  z_max : mg "max" = none
  z_min : mg "min" = none
  c_MOST_BOXES : ∃ t, mg "MOST_BOXES" = some (.int 8 t)
  c_MOST_TIMES : ∃ t, mg "MOST_TIMES" = some (.int 999 t)
  c_MOST_DEEP : ∃ t, mg "MOST_DEEP" = some (.int 8 t)
  c_MOST_LONG : ∃ t, mg "MOST_LONG" = some (.int 2000 t)
  c_MOST_FOLDED : ∃ t, mg "MOST_FOLDED" = some (.int 24 t)
end
end RF
/-! Values as data; what an expression comes to, as data. -/
namespace RF
section
open PySem L2 PyProof.Rows
open Evl (Ex Ev EvT EvA EvO)

/-! ### a value's data -/
mutual
def DAt (H : Hp) : PyData → V → Prop
  | .none, v => v = .non
  | .bool b, v => v = .bl b
  | .int i, v => v = .int i
  | .str s, v => v = .str s
  | .list ds, v => ∃ p xs, v = .ref p ∧ H p = some (.lst xs) ∧ DAll H ds xs
  | .tuple ds, v => ∃ p xs, v = .ref p ∧ H p = some (.tup xs) ∧ DAll H ds xs
  | .dict [], v => ∃ p, v = .ref p ∧ H p = some (.dK [])
  | .dict (_ :: _), v => ∃ p, v = .ref p ∧ ∃ xs, H p = some (.lst xs)
def DAll (H : Hp) : List PyData → List V → Prop
  | [], xs => xs = []
  | d :: ds, xs => ∃ x r, xs = x :: r ∧ DAt H d x ∧ DAll H ds r
end
theorem dat_tup {H : Hp} {ds : List PyData} {p : Addr} {xs : List V} (h : H p = some (.tup xs)) (a : DAll H ds xs) : DAt H (.tuple ds) (.ref p) := by
  rw [DAt]
  exact ⟨p, xs, rfl, h, a⟩
theorem dat_lst {H : Hp} {ds : List PyData} {p : Addr} {xs : List V} (h : H p = some (.lst xs)) (a : DAll H ds xs) : DAt H (.list ds) (.ref p) := by
  rw [DAt]
  exact ⟨p, xs, rfl, h, a⟩
theorem dat_int {H : Hp} {i : Int} : DAt H (.int i) (.int i) := by rw [DAt]
theorem dat_bl {H : Hp} {b : Bool} : DAt H (.bool b) (.bl b) := by rw [DAt]
theorem dat_non {H : Hp} : DAt H .none .non := by rw [DAt]
theorem int_dat {H : Hp} {i : Int} {v : V} (h : DAt H (.int i) v) : v = .int i := by rwa [DAt] at h
theorem bl_dat {H : Hp} {b : Bool} {v : V} (h : DAt H (.bool b) v) : v = .bl b := by rwa [DAt] at h
theorem non_dat {H : Hp} {v : V} (h : DAt H .none v) : v = .non := by rwa [DAt] at h
theorem tup_dat {H : Hp} {ds : List PyData} {v : V} (h : DAt H (.tuple ds) v) : ∃ p xs, v = .ref p ∧ H p = some (.tup xs) ∧ DAll H ds xs := by rwa [DAt] at h
theorem lst_dat {H : Hp} {ds : List PyData} {v : V} (h : DAt H (.list ds) v) : ∃ p xs, v = .ref p ∧ H p = some (.lst xs) ∧ DAll H ds xs := by rwa [DAt] at h
theorem dall_nil {H : Hp} : DAll H [] [] := by rw [DAll]
theorem dall_cons {H : Hp} {d : PyData} {ds : List PyData} {x : V} {xs : List V} (h : DAt H d x) (a : DAll H ds xs) : DAll H (d :: ds) (x :: xs) := by
  rw [DAll]
  exact ⟨x, xs, rfl, h, a⟩
theorem nil_dall {H : Hp} {xs : List V} (h : DAll H [] xs) : xs = [] := by rwa [DAll] at h
theorem cons_dall {H : Hp} {d : PyData} {ds : List PyData} {xs : List V} (h : DAll H (d :: ds) xs) : ∃ x r, xs = x :: r ∧ DAt H d x ∧ DAll H ds r := by rwa [DAll] at h
section
variable {H H' : Hp}
mutual
theorem DAt.mono (e : Ex H H') : ∀ (d : PyData) (v : V), DAt H d v → DAt H' d v
  | .none, _, h => by rw [DAt] at h ⊢; exact h
  | .bool b, _, h => by rw [DAt] at h ⊢; exact h
  | .int i, _, h => by rw [DAt] at h ⊢; exact h
  | .str s, _, h => by rw [DAt] at h ⊢; exact h
  | .list ds, _, h => by
    rw [DAt] at h ⊢
    obtain ⟨p, xs, h1, h2, h3⟩ := h
    exact ⟨p, xs, h1, e p _ h2, DAll.mono e ds xs h3⟩
  | .tuple ds, _, h => by
    rw [DAt] at h ⊢
    obtain ⟨p, xs, h1, h2, h3⟩ := h
    exact ⟨p, xs, h1, e p _ h2, DAll.mono e ds xs h3⟩
  | .dict [], _, h => by
    rw [DAt] at h ⊢
    obtain ⟨p, h1, h2⟩ := h
    exact ⟨p, h1, e p _ h2⟩
  | .dict (_ :: _), _, h => by
    rw [DAt] at h ⊢
    obtain ⟨p, h1, xs, h2⟩ := h
    exact ⟨p, h1, xs, e p _ h2⟩
theorem DAll.mono (e : Ex H H') : ∀ (ds : List PyData) (xs : List V), DAll H ds xs → DAll H' ds xs
  | [], _, h => by rw [DAll] at h ⊢; exact h
  | d :: ds, _, h => by
    rw [DAll] at h ⊢
    obtain ⟨x, r, h1, h2, h3⟩ := h
    exact ⟨x, r, h1, DAt.mono e d x h2, DAll.mono e ds r h3⟩
end
end
theorem DAt.up {H H' : Hp} {d : PyData} {v : V} (h : DAt H d v) (e : Ex H H') : DAt H' d v := DAt.mono e d v h
theorem DAll.up {H H' : Hp} {ds : List PyData} {xs : List V} (h : DAll H ds xs) (e : Ex H H') : DAll H' ds xs := DAll.mono e ds xs h
/-- all tuples kept -/
def KeepT (H H' : Hp) : Prop := ∀ p xs, H p = some (.tup xs) → H' p = some (.tup xs)
mutual
theorem code_keep {H H' : Hp} (e : KeepT H H') : ∀ (c : C) (v : V), DAt H (toD c) v → DAt H' (toD c) v
  | .box i, _, h => by
    rw [toD, DAt] at h ⊢
    exact h
  | .rep t b, v, h => by
    rw [toD] at h ⊢
    obtain ⟨p, xs, h1, h2, h3⟩ := tup_dat h
    obtain ⟨x, r, h4, h5, h6⟩ := cons_dall h3
    obtain ⟨y, r', h7, h8, h9⟩ := cons_dall h6
    obtain ⟨q, ys, g1, g2, g3⟩ := tup_dat h8
    subst h1 h4 h7 g1
    refine dat_tup (e _ _ h2) (dall_cons ?_ (dall_cons (dat_tup (e _ _ g2) (codes_keep e b ys g3)) ?_))
    · rw [int_dat h5]
      exact dat_int
    · rw [nil_dall h9]
      exact dall_nil
theorem codes_keep {H H' : Hp} (e : KeepT H H') : ∀ (cs : List C) (xs : List V), DAll H (toDL cs) xs → DAll H' (toDL cs) xs
  | [], _, h => by
    rw [toDL, DAll] at h ⊢
    exact h
  | c :: cs, _, h => by
    rw [toDL] at h ⊢
    obtain ⟨x, r, h1, h2, h3⟩ := cons_dall h
    subst h1
    exact dall_cons (code_keep e c x h2) (codes_keep e cs r h3)
end
theorem dat_code_keep {H H' : Hp} (e : KeepT H H') {cs : List C} {v : V} (h : DAt H (.tuple (toDL cs)) v) : DAt H' (.tuple (toDL cs)) v := by
  obtain ⟨p, xs, h1, h2, h3⟩ := tup_dat h
  subst h1
  exact dat_tup (e _ _ h2) (codes_keep e cs xs h3)
theorem dall_ints {H : Hp} : ∀ (ns : List Int), DAll H (ns.map .int) (ns.map V.int)
  | [] => dall_nil
  | n :: ns => dall_cons dat_int (dall_ints ns)
theorem ints_dall {H : Hp} : ∀ (ns : List Int) (xs : List V), DAll H (ns.map .int) xs → xs = ns.map V.int
  | [], xs, h => nil_dall h
  | n :: ns, xs, h => by
    obtain ⟨x, r, h1, h2, h3⟩ := cons_dall h
    rw [h1, int_dat h2, ints_dall ns r h3]
    rfl
/-- a tuple of ints -/
abbrev intsD (ns : List Int) : PyData := .tuple (ns.map .int)
theorem dat_ints {H : Hp} {p : Addr} {ns : List Int} (h : H p = some (.tup (ns.map V.int))) : DAt H (intsD ns) (.ref p) := dat_tup h (dall_ints ns)
theorem ints_dat {H : Hp} {ns : List Int} {v : V} (h : DAt H (intsD ns) v) : ∃ p, v = .ref p ∧ H p = some (.tup (ns.map V.int)) := by
  obtain ⟨p, xs, h1, h2, h3⟩ := tup_dat h
  rw [ints_dall ns xs h3] at h2
  exact ⟨p, h1, h2⟩
theorem ints_keep {H H' : Hp} (e : KeepT H H') {ns : List Int} {v : V} (h : DAt H (intsD ns) v) : DAt H' (intsD ns) v := by
  obtain ⟨p, h1, h2⟩ := ints_dat h
  subst h1
  exact dat_ints (e _ _ h2)
section
variable {H : Hp}
theorem DAll.length : ∀ {ds : List PyData} {xs : List V}, DAll H ds xs → xs.length = ds.length
  | [], xs, h => by rw [nil_dall h] <;> rfl
  | d :: ds, xs, h => by
    obtain ⟨x, r, h1, _, h3⟩ := cons_dall h
    rw [h1, List.length_cons, List.length_cons, DAll.length h3]
theorem DAll.get : ∀ {ds : List PyData} {xs : List V} {i : Nat} {x : V}, DAll H ds xs → xs[i]? = some x → ∃ d, ds[i]? = some d ∧ DAt H d x
  | [], xs, i, x, h, e => by rw [nil_dall h] at e; simp at e
  | d :: ds, xs, i, x, h, e => by
    obtain ⟨y, r, h1, h2, h3⟩ := cons_dall h
    subst h1
    cases i with
    | zero =>
      have e' : y = x := Option.some.inj e
      subst e'
      exact ⟨d, rfl, h2⟩
    | succ i => exact DAll.get (i := i) h3 e
theorem DAll.at : ∀ {ds : List PyData} {xs : List V} {i : Nat} {d : PyData}, DAll H ds xs → ds[i]? = some d → ∃ x, xs[i]? = some x ∧ DAt H d x
  | [], xs, i, d, _, e => by simp at e
  | d :: ds, xs, i, d', h, e => by
    obtain ⟨y, r, h1, h2, h3⟩ := cons_dall h
    subst h1
    cases i with
    | zero =>
      have e' : d = d' := Option.some.inj e
      subst e'
      exact ⟨y, rfl, h2⟩
    | succ i => exact DAll.at (i := i) h3 e
theorem DAll.append : ∀ {ds : List PyData} {xs : List V} {es : List PyData} {ys : List V}, DAll H ds xs → DAll H es ys → DAll H (ds ++ es) (xs ++ ys)
  | [], xs, es, ys, h, g => by
    rw [nil_dall h]
    exact g
  | d :: ds, xs, es, ys, h, g => by
    obtain ⟨y, r, h1, h2, h3⟩ := cons_dall h
    subst h1
    exact dall_cons h2 (DAll.append h3 g)
theorem DAll.take : ∀ {ds : List PyData} {xs : List V} (n : Nat), DAll H ds xs → DAll H (ds.take n) (xs.take n)
  | _, _, 0, _ => dall_nil
  | [], xs, n + 1, h => by
    rw [nil_dall h]
    exact dall_nil
  | d :: ds, xs, n + 1, h => by
    obtain ⟨y, r, h1, h2, h3⟩ := cons_dall h
    subst h1
    exact dall_cons h2 (DAll.take n h3)
theorem DAll.drop : ∀ {ds : List PyData} {xs : List V} (n : Nat), DAll H ds xs → DAll H (ds.drop n) (xs.drop n)
  | _, _, 0, h => h
  | [], xs, n + 1, h => by
    rw [nil_dall h]
    exact dall_nil
  | d :: ds, xs, n + 1, h => by
    obtain ⟨y, r, h1, h2, h3⟩ := cons_dall h
    subst h1
    exact DAll.drop n h3
theorem DAll.reverse : ∀ {ds : List PyData} {xs : List V}, DAll H ds xs → DAll H ds.reverse xs.reverse
  | [], xs, h => by
    rw [nil_dall h]
    exact dall_nil
  | d :: ds, xs, h => by
    obtain ⟨y, r, h1, h2, h3⟩ := cons_dall h
    subst h1
    rw [List.reverse_cons, List.reverse_cons]
    exact DAll.append (DAll.reverse h3) (dall_cons h2 dall_nil)
theorem DAll.rep {ds : List PyData} {xs : List V} (h : DAll H ds xs) : ∀ k : Nat, DAll H (List.replicate k ds).flatten (List.replicate k xs).flatten
  | 0 => dall_nil
  | k + 1 => by
    rw [List.replicate_succ, List.replicate_succ, List.flatten_cons, List.flatten_cons]
    exact DAll.append h (DAll.rep h k)
end
mutual
theorem DAt.dp {K : PySem.W.Frag} {H : Hp} : ∀ (d : PyData) (v : V), d.canLay0 = true → DAt H d v → Dp K H v d
  | .none, _, _, h => by
    rw [DAt] at h
    subst h
    exact .non
  | .bool b, _, _, h => by
    rw [DAt] at h
    subst h
    exact .bl b
  | .int i, _, _, h => by
    rw [DAt] at h
    subst h
    exact .int i
  | .str s, _, _, h => by
    rw [DAt] at h
    subst h
    exact .str s
  | .list ds, _, c, h => by
    obtain ⟨p, xs, h1, h2, h3⟩ := lst_dat h
    subst h1
    exact .lst (SqL.of h2) (DAll.dp ds xs (by simpa [PyData.canLay0] using c) h3)
  | .tuple ds, _, c, h => by
    obtain ⟨p, xs, h1, h2, h3⟩ := tup_dat h
    subst h1
    exact .tup (SqT.of h2) (DAll.dp ds xs (by simpa [PyData.canLay0] using c) h3)
  | .dict _, _, c, _ => by simp [PyData.canLay0] at c
theorem DAll.dp {K : PySem.W.Frag} {H : Hp} : ∀ (ds : List PyData) (xs : List V), PyData.canLayAll0 ds = true → DAll H ds xs → DpAll K H xs ds
  | [], _, _, h => by
    rw [nil_dall h]
    exact .nil
  | d :: ds, _, c, h => by
    obtain ⟨x, r, h1, h2, h3⟩ := cons_dall h
    subst h1
    simp only [PyData.canLayAll0, Bool.and_eq_true] at c
    exact .cons (DAt.dp d x c.1 h2) (DAll.dp ds r c.2 h3)
end
/-! ### its type -/
def tyN : PyData → String
  | .none => "NoneType"
  | .bool _ => "bool"
  | .int _ => "int"
  | .str _ => "str"
  | .list _ => "list"
  | .tuple _ => "tuple"
  | .dict [] => "dict"
  | .dict (_ :: _) => "list"
def isI : PyData → Bool
  | .int _ => true
  | .bool _ => true
  | _ => false
def isN : PyData → Bool
  | .none => true
  | _ => false
def isB : PyData → Bool
  | .bool _ => true
  | _ => false
def isS : PyData → Bool
  | .str _ => true
  | _ => false
theorem DAt.ty {K : PySem.W.Frag} {H : Hp} : ∀ {d : PyData} {v : V}, DAt H d v → TyX K H v (.type (tyN d))
  | .none, _, h => by
    rw [non_dat h]
    exact .base .non
  | .bool b, _, h => by
    rw [bl_dat h]
    exact .base (.bl b)
  | .int i, _, h => by
    rw [int_dat h]
    exact .base (.int i)
  | .str s, _, h => by
    rw [DAt] at h
    subst h
    exact .base (.str s)
  | .list ds, _, h => by
    obtain ⟨p, xs, h1, h2, _⟩ := lst_dat h
    subst h1
    exact .base (.lst h2)
  | .tuple ds, _, h => by
    obtain ⟨p, xs, h1, h2, _⟩ := tup_dat h
    subst h1
    exact .base (.tup h2)
  | .dict [], _, h => by
    rw [DAt] at h
    obtain ⟨p, h1, h2⟩ := h
    subst h1
    exact .base (.dK h2)
  | .dict (_ :: _), _, h => by
    rw [DAt] at h
    obtain ⟨p, h1, xs, h2⟩ := h
    subst h1
    exact .base (.lst h2)
theorem kit_int {K : PySem.W.Frag} (d : PyData) : PySem.W.kitOne K (.type (tyN d)) (.type "int") = some (isI d) := by
  cases d with
  | dict kvs => cases kvs <;> (refine kit_ty ?_; simp only [tyN, isI]; decide +kernel)
  | _ => (refine kit_ty ?_; simp only [tyN, isI]; decide +kernel)
theorem kit_bool {K : PySem.W.Frag} (d : PyData) : PySem.W.kitOne K (.type (tyN d)) (.type "bool") = some (isB d) := by
  cases d with
  | dict kvs => cases kvs <;> (refine kit_ty ?_; simp only [tyN, isB]; decide +kernel)
  | _ => (refine kit_ty ?_; simp only [tyN, isB]; decide +kernel)
theorem kit_tuple {K : PySem.W.Frag} (d : PyData) : PySem.W.kitOne K (.type (tyN d)) (.type "tuple") = some (isTup d) := by
  cases d with
  | dict kvs => cases kvs <;> (refine kit_ty ?_; simp only [tyN, isTup]; decide +kernel)
  | _ => (refine kit_ty ?_; simp only [tyN, isTup]; decide +kernel)
theorem kit_str {K : PySem.W.Frag} (d : PyData) : PySem.W.kitOne K (.type (tyN d)) (.type "str") = some (isS d) := by
  cases d with
  | dict kvs => cases kvs <;> (refine kit_ty ?_; simp only [tyN, isS]; decide +kernel)
  | _ => (refine kit_ty ?_; simp only [tyN, isS]; decide +kernel)

/-! ### what an expression comes to, as data -/
def EvD (te : TE) (σ : L2.St) (H : Hp) (d : PyData) : Prop := ∀ H1, Ex H H1 → ∀ Q : VK, (∀ v H2, Ex H1 H2 → DAt H2 d v → Q v H2) → te σ H1 Q
def EvDs (ta : TA) (σ : L2.St) (H : Hp) (ds : List PyData) : Prop := ∀ H1, Ex H H1 → ∀ Q : List V → Hp → Prop, (∀ vs H2, Ex H1 H2 → DAll H2 ds vs → Q vs H2) → ta σ H1 Q
def RD2 (r : R2) (H : Hp) (dx dy d : PyData) : Prop := ∀ x y H1, Ex H H1 → DAt H1 dx x → DAt H1 dy y → ∀ Q : VK, (∀ v H2, Ex H1 H2 → DAt H2 d v → Q v H2) → r x y H1 Q
section
variable {K : PySem.W.Frag} {σ : L2.St} {H H' : Hp} {ta tb te tx : TE} {t u : TT} {v : V} {d dx dy : PyData} {r : R2}
theorem EvD.up (h : EvD te σ H d) (e : Ex H H') : EvD te σ H' d := fun H1 e1 => h H1 (e.trans e1)
theorem ed_of (h : Ev te σ H v) (hd : DAt H d v) : EvD te σ H d := fun H1 e Q q => h H1 e Q fun H2 e2 => q v H2 e2 (hd.up (e.trans e2))
theorem ed_var {i : Nat} (h : σ[i]? = some (some v)) (hd : DAt H d v) : EvD (tVar i) σ H d := ed_of (Evl.ev_var h) hd
theorem ed_int {i : Int} : EvD (tC (.int i)) σ H (.int i) := ed_of Evl.ev_c dat_int
theorem ed_bl {b : Bool} : EvD (tC (.bl b)) σ H (.bool b) := ed_of Evl.ev_c dat_bl
theorem ed_non : EvD (tC .non) σ H .none := ed_of Evl.ev_c dat_non
theorem EvD.int {i : Int} (h : EvD te σ H (.int i)) : Ev te σ H (.int i) := fun H1 e Q q => h H1 e Q fun v H2 e2 hd => by
  rw [int_dat hd]
  exact q H2 e2
theorem EvD.bl {b : Bool} (h : EvD te σ H (.bool b)) : Ev te σ H (.bl b) := fun H1 e Q q => h H1 e Q fun v H2 e2 hd => by
  rw [bl_dat hd]
  exact q H2 e2
theorem ev_int {i : Int} (h : Ev te σ H (.int i)) : EvD te σ H (.int i) := ed_of h dat_int
theorem ev_bl {b : Bool} (h : Ev te σ H (.bl b)) : EvD te σ H (.bool b) := ed_of h dat_bl
theorem ed_is {d' : PyData} (h : EvD te σ H d) (e : d = d') : EvD te σ H d' := e ▸ h
theorem et_D {b : Bool} (h : EvD te σ H (.bool b)) : EvT (tB te) σ H b := Evl.et_B h.bl
theorem et_T {b : Bool} (h : EvD te σ H (.bool b)) : EvT (tTest te) σ H b := Evl.et_test h.bl
theorem ed_op (ha : EvD ta σ H dx) (hb : EvD tb σ H dy) (hr : RD2 r H dx dy d) : EvD (tOp r ta tb) σ H d := fun H1 e Q q =>
  ha H1 e _ fun x H2 e2 hx => hb H2 (e.trans e2) _ fun y H3 e3 hy => hr x y H3 ((e.trans e2).trans e3) (hx.up e3) hy Q fun v H4 e4 hd => q v H4 ((e2.trans e3).trans e4) hd
theorem rd_I0 {g : Int → Int → V} {i j : Int} (hg : ∀ H1, DAt H1 d (g i j)) : RD2 (rI0 g) H (.int i) (.int j) d := fun x y H1 _ hx hy Q q =>
  ⟨i, j, int_dat hx, int_dat hy, q _ H1 (Ex.refl H1) (hg H1)⟩
theorem rd_I {c : Int → Int → Prop} {g : Int → Int → V} {i j : Int} (hc : c i j) (hg : ∀ H1, DAt H1 d (g i j)) : RD2 (rI c g) H (.int i) (.int j) d := fun x y H1 _ hx hy Q q =>
  ⟨i, j, int_dat hx, int_dat hy, hc, q _ H1 (Ex.refl H1) (hg H1)⟩
theorem rd_eqI {i j : Int} : RD2 rEq H (.int i) (.int j) (.bool (decide (i = j))) := fun x y H1 _ hx hy Q q => by
  rw [int_dat hx, int_dat hy]
  refine ⟨rfl, q _ H1 (Ex.refl H1) ?_⟩
  have e : decide (V.int i = V.int j) = decide (i = j) := by simp
  rw [e]
  exact dat_bl
theorem rd_neI {i j : Int} : RD2 rNe H (.int i) (.int j) (.bool (!decide (i = j))) := fun x y H1 _ hx hy Q q => by
  rw [int_dat hx, int_dat hy]
  refine ⟨rfl, q _ H1 (Ex.refl H1) ?_⟩
  have e : decide (V.int i = V.int j) = decide (i = j) := by simp
  rw [e]
  exact dat_bl
theorem rd_neN {j : Int} : RD2 rNe H .none (.int j) (.bool true) := fun x y H1 _ hx hy Q q => by
  rw [non_dat hx, int_dat hy]
  refine ⟨rfl, q _ H1 (Ex.refl H1) ?_⟩
  have e : (!decide (V.non = V.int j)) = true := by simp
  rw [e]
  exact dat_bl
theorem rd_eqB {i j : Bool} : RD2 rEq H (.bool i) (.bool j) (.bool (i == j)) := fun x y H1 _ hx hy Q q => by
  rw [bl_dat hx, bl_dat hy]
  refine ⟨rfl, q _ H1 (Ex.refl H1) ?_⟩
  rw [dec_bl]
  exact dat_bl
theorem dat_isN {H1 : Hp} {d : PyData} {x : V} (hx : DAt H1 d x) : decide (x = .non) = isN d := by
  cases d with
  | none => rw [non_dat hx]; rfl
  | bool b => rw [bl_dat hx]; rfl
  | int i => rw [int_dat hx]; rfl
  | str s => rw [DAt] at hx; rw [hx]; rfl
  | list ds => obtain ⟨p, xs, h1, _⟩ := lst_dat hx; rw [h1]; rfl
  | tuple ds => obtain ⟨p, xs, h1, _⟩ := tup_dat hx; rw [h1]; rfl
  | dict ds => cases ds <;> (rw [DAt] at hx; obtain ⟨p, h1, _⟩ := hx; rw [h1]; rfl)
theorem rd_isN : RD2 (fun x y H Q => y = .non ∧ Q (.bl (decide (x = .non))) H) H d .none (.bool (isN d)) := fun x y H1 _ hx hy Q q => by
  refine ⟨non_dat hy, q _ H1 (Ex.refl H1) ?_⟩
  rw [dat_isN hx]
  exact dat_bl
theorem rd_eqD (s1 : SeqAt.shaped dx = true) (s2 : SeqAt.shaped dy = true) : RD2 (rEqD K) H dx dy (.bool (PyData.eqv dx dy)) := fun x y H1 _ hx hy Q q =>
  ⟨dx, dy, DAt.dp dx x (SeqAt.canLay_of_shaped s1) hx, DAt.dp dy y (SeqAt.canLay_of_shaped s2) hy, s1, s2, q _ H1 (Ex.refl H1) dat_bl⟩
theorem rd_neD (s1 : SeqAt.shaped dx = true) (s2 : SeqAt.shaped dy = true) : RD2 (rNeD K) H dx dy (.bool (!PyData.eqv dx dy)) := fun x y H1 _ hx hy Q q =>
  ⟨dx, dy, DAt.dp dx x (SeqAt.canLay_of_shaped s1) hx, DAt.dp dy y (SeqAt.canLay_of_shaped s2) hy, s1, s2, q _ H1 (Ex.refl H1) dat_bl⟩
theorem rd_eqT {ns ms : List Int} : RD2 (rEqD K) H (intsD ns) (intsD ms) (.bool (decide (ns = ms))) := by
  have h := rd_eqD (K := K) (H := H) (shaped_ints ns) (shaped_ints ms)
  rwa [eqv_ints] at h
theorem rd_neT {ns ms : List Int} : RD2 (rNeD K) H (intsD ns) (intsD ms) (.bool (!decide (ns = ms))) := by
  have h := rd_neD (K := K) (H := H) (shaped_ints ns) (shaped_ints ms)
  rwa [eqv_ints] at h
theorem rd_ix {ds : List PyData} {j : Nat} {i : Int} (hj : ds[j]? = some d) (hi : i = (j : Int)) : RD2 (rIxT K) H (.tuple ds) (.int i) d := fun x y H1 _ hx hy Q q => by
  obtain ⟨p, xs, h1, h2, h3⟩ := tup_dat hx
  obtain ⟨z, hz, hd⟩ := h3.at hj
  subst h1 hi
  exact ⟨p, xs, j, z, rfl, int_dat hy, SqT.of h2, atI_nat hz, q z H1 (Ex.refl H1) hd⟩
theorem rd_cat {xs ys : List PyData} (hl : xs.length + ys.length ≤ 100000) : RD2 (rCatA K) H (.tuple xs) (.tuple ys) (.tuple (xs ++ ys)) := fun x y H1 _ hx hy Q q => by
  obtain ⟨p, us, h1, h2, h3⟩ := tup_dat hx
  obtain ⟨p', ws, g1, g2, g3⟩ := tup_dat hy
  subst h1 g1
  have l1 := h3.length
  have l2 := g3.length
  refine ⟨p, p', us, ws, rfl, rfl, SqT.of h2, SqT.of g2, Evl.sz_of (by omega), fun e => ?_, fun _ e => ?_, fun _ _ n hn => ?_⟩
  · subst e
    have ex : xs = [] := List.eq_nil_of_length_eq_zero l1.symm
    subst ex
    exact q _ H1 (Ex.refl H1) (dat_tup g2 g3)
  · subst e
    have ex : ys = [] := List.eq_nil_of_length_eq_zero l2.symm
    subst ex
    rw [List.append_nil] at q
    exact q _ H1 (Ex.refl H1) (dat_tup h2 h3)
  · exact q _ _ (Ex.new hn) (dat_tup upd_same ((h3.append g3).up (Ex.new hn)))
theorem rd_rep {xs : List PyData} {k : Int} (h0 : xs ≠ []) (h1 : 2 ≤ k) (h2 : k ≤ 1000) (h3 : xs.length ≤ 1000) : RD2 (rRepT K) H (.tuple xs) (.int k) (.tuple (List.replicate k.toNat xs).flatten) := fun x y H1 _ hx hy Q q => by
  obtain ⟨p, us, e1, e2, e3⟩ := tup_dat hx
  subst e1
  have l1 := e3.length
  refine ⟨p, k, us, rfl, int_dat hy, SqT.of e2, fun e => h0 ?_, h1, h2, by omega, fun n hn => ?_⟩
  · subst e
    exact List.eq_nil_of_length_eq_zero l1.symm
  · exact q _ _ (Ex.new hn) (dat_tup upd_same ((e3.rep _).up (Ex.new hn)))

theorem eo_D {i : Int} (h : EvD te σ H (.int i)) : EvO (tPart te) σ H (some i) := Evl.eo_some h.int
/-- the items of a slice -/
def cutD {α : Type} (xs : List α) (lo hi : Option Int) : List α := (xs.drop (HT.sIx xs.length 0 lo)).take (HT.sIx xs.length xs.length hi - HT.sIx xs.length 0 lo)
theorem cutD_map {α β : Type} (f : α → β) (xs : List α) (lo hi : Option Int) : cutD (xs.map f) lo hi = (cutD xs lo hi).map f := by
  unfold cutD
  rw [List.length_map, ← List.map_drop, ← List.map_take]
theorem cutD_to {α : Type} (xs : List α) (n : Nat) : cutD xs none (some (n : Int)) = xs.take n := by
  unfold cutD
  rw [HT.sIx_none, HT.sIx_nat, List.drop_zero, Nat.sub_zero]
  by_cases h : n ≤ xs.length
  · rw [Nat.min_eq_left h]
  · rw [Nat.min_eq_right (by omega), List.take_of_length_le (Nat.le_refl _), List.take_of_length_le (by omega)]
theorem cutD_from {α : Type} (xs : List α) (n : Nat) : cutD xs (some (n : Int)) none = xs.drop n := by
  unfold cutD
  rw [HT.sIx_none, HT.sIx_nat]
  by_cases h : n ≤ xs.length
  · rw [Nat.min_eq_left h, List.take_of_length_le (by rw [List.length_drop]; omega)]
  · rw [Nat.min_eq_right (by omega), List.drop_of_length_le (Nat.le_refl _), List.drop_of_length_le (by omega), List.take_nil]
theorem cutD_mid {α : Type} (xs : List α) (a n : Nat) (h : a + n ≤ xs.length) : cutD xs (some (a : Int)) (some ((a : Int) + (n : Int))) = (xs.drop a).take n := by
  unfold cutD
  have e : ((a : Int) + (n : Int)) = ((a + n : Nat) : Int) := by omega
  rw [e, HT.sIx_nat, HT.sIx_nat, Nat.min_eq_left h, Nat.min_eq_left (show a ≤ xs.length by omega), Nat.add_sub_cancel_left]
theorem ed_slice {tl th : TO} {ds : List PyData} {lo hi : Option Int} (h : EvD te σ H (.tuple ds)) (h1 : EvO tl σ H lo) (h2 : EvO th σ H hi) : EvD (tSl (rSlA K) te tl th) σ H (.tuple (cutD ds lo hi)) := fun H1 e Q q =>
  h H1 e _ fun x H2 e2 hx => h1 H2 (e.trans e2) _ fun H3 e3 => h2 H3 ((e.trans e2).trans e3) _ fun H4 e4 => by
    have e24 := e3.trans e4
    obtain ⟨p, us, g1, g2, g3⟩ := tup_dat (hx.up e24)
    subst g1
    have ll := g3.length
    refine ⟨p, us, rfl, SqT.of g2, fun w => ?_, fun _ n hn => ?_⟩
    · have ec : cutD ds lo hi = ds := by
        unfold cutD
        rw [← ll, w.1, w.2, List.drop_zero, ll, List.take_of_length_le (by omega)]
      rw [ec] at q
      exact q _ H4 (e2.trans e24) (dat_tup g2 g3)
    · refine q _ _ ((e2.trans e24).trans (Ex.new hn)) (dat_tup upd_same ?_)
      unfold cutD
      rw [← ll]
      exact ((g3.drop _).take _).up (Ex.new hn)
theorem eds_nil : EvDs tNil σ H [] := fun H1 _ _ q => q [] H1 (Ex.refl H1) dall_nil
theorem eds_cons {tr : TA} {ds : List PyData} (h : EvD ta σ H d) (hr : EvDs tr σ H ds) : EvDs (tCons ta tr) σ H (d :: ds) := fun H1 e _ q =>
  h H1 e _ fun v H2 e2 hd => hr H2 (e.trans e2) _ fun vs H3 e3 hs => q (v :: vs) H3 (e2.trans e3) (dall_cons (hd.up e3) hs)
theorem ed_tup {tr : TA} {ds : List PyData} (h : EvDs tr σ H ds) (hl : ds.length ≤ 100000) : EvD (tTup tr) σ H (.tuple ds) := fun H1 e _ q =>
  h H1 e _ fun vs H2 e2 hs => ⟨Evl.sz_of (by rw [hs.length]; exact hl), fun p hp => q _ _ (e2.trans (Ex.new hp)) (dat_tup upd_same (hs.up (Ex.new hp)))⟩
theorem ed_lst {tr : TA} {ds : List PyData} (h : EvDs tr σ H ds) (hl : ds.length ≤ 100000) : EvD (tLst tr) σ H (.list ds) := fun H1 e _ q =>
  h H1 e _ fun vs H2 e2 hs => ⟨Evl.sz_of (by rw [hs.length]; exact hl), fun p hp => q _ _ (e2.trans (Ex.new hp)) (dat_lst upd_same (hs.up (Ex.new hp)))⟩
/-- len of a tuple, a list -/
def rLenA (K : PySem.W.Frag) : List V → Hp → VK → Prop := fun xs H Q => ∃ p ys, xs = [.ref p] ∧ (SqL K H p ys ∨ SqT K H p ys) ∧ Q (.int ys.length) H
theorem ed_len {ds : List PyData} (h : EvD te σ H (.tuple ds)) : EvD (tCB (rLenA K) (tCons te tNil)) σ H (.int ds.length) := fun H1 e _ q =>
  h H1 e _ fun v H2 e2 hd => by
    obtain ⟨p, xs, h1, h2, h3⟩ := tup_dat hd
    subst h1
    refine ⟨p, xs, rfl, .inr (SqT.of h2), q _ H2 e2 ?_⟩
    rw [h3.length]
    exact dat_int
/-! and, or, not, if -/
theorem ed_and {a b : Bool} (h1 : EvD ta σ H (.bool a)) (h2 : a = true → EvD tb σ H (.bool b)) : EvD (tAndV ta tb) σ H (.bool (a && b)) := ev_bl (Evl.ev_andV h1.bl fun ha => (h2 ha).bl)
theorem ed_not {a : Bool} (h1 : EvD ta σ H (.bool a)) : EvD (tNotV ta) σ H (.bool (!a)) := ev_bl (Evl.ev_notV h1.bl)
theorem ed_if {b : Bool} (h : EvT t σ H b) (h1 : b = true → EvD ta σ H d) (h2 : b = false → EvD tb σ H d) : EvD (tIf t ta tb) σ H d := fun H1 e Q q => h H1 e _ fun H2 e2 => by
  cases b with
  | true => exact iteT (h1 rfl H2 (e.trans e2) Q fun v H3 e3 hd => q v H3 (e2.trans e3) hd)
  | false => exact iteF (h2 rfl H2 (e.trans e2) Q fun v H3 e3 hd => q v H3 (e2.trans e3) hd)
theorem ed_chain {r' : R2} {tc : TE} {dz : PyData} {a b : Bool} (h1 : EvD ta σ H dx) (h2 : EvD tb σ H dy) (hr : RD2 r H dx dy (.bool a)) (h3 : a = true → EvD tc σ H dz) (hr' : a = true → RD2 r' H dy dz (.bool b)) : EvD (tChain r r' ta tb tc) σ H (.bool (a && b)) := fun H1 e Q q =>
  h1 H1 e _ fun x H2 e2 hx => h2 H2 (e.trans e2) _ fun y H3 e3 hy => hr x y H3 ((e.trans e2).trans e3) (hx.up e3) hy _ fun z H4 e4 hz => by
    refine ⟨a, bl_dat hz, ?_⟩
    have e14 := (e2.trans e3).trans e4
    cases a with
    | true => exact iteT (h3 rfl H4 (e.trans e14) _ fun w H5 e5 hw => hr' rfl y w H5 ((e.trans e14).trans e5) (hy.up (e4.trans e5)) hw Q fun v H6 e6 hv => q v H6 ((e14.trans e5).trans e6) hv)
    | false => exact iteF (q _ H4 e14 dat_bl)
end

/-! ### promises about data -/
def spR (R : List PyData → PyData → Prop) : Sp := fun vs H Q _ => ∃ ds d, DAll H ds vs ∧ R ds d ∧ ∀ v H2, Ex H H2 → DAt H2 d v → Q v H2
section
variable {K : PySem.W.Frag} {σ : L2.St} {H H' : Hp} {ta tb te tx : TE} {t : TT} {v : V} {d : PyData} {D : Ends} {tu tw tz : TS}
theorem ed_call {R : List PyData → PyData → Prop} {E : XK} {tr : TA} {ds : List PyData} (h : EvDs tr σ H ds) (hR : R ds d) : EvD (tCall (spR R) [] E tr) σ H d := fun H1 e Q q =>
  h H1 e _ fun vs H2 e2 hs => ⟨ds, d, by rw [List.append_nil]; exact hs, hR, fun v H3 e3 hd => q v H3 (e2.trans e3) hd⟩
/-! statements -/
theorem sd_asg {i : Nat} (h : EvD te σ H d) (k : ∀ v H1, Ex H H1 → DAt H1 d v → D.nx (σ.set i (some v)) H1) : tAsg te (gName i) D σ H := h H (Ex.refl H) _ k
theorem qd_asg {i : Nat} (h : EvD te σ H d) (k : ∀ v H1, Ex H H1 → DAt H1 d v → tz D (σ.set i (some v)) H1) : tSeq (tAsg te (gName i)) tz D σ H := sd_asg (D := { D with nx := tz D }) h k
theorem sd_ret (h : EvD te σ H d) (k : ∀ v H1, Ex H H1 → DAt H1 d v → D.rt v H1) : tRet te D σ H := h H (Ex.refl H) _ k
/-- a loop over a tuple that stands; the target is a name -/
theorem sd_forT {ds : List PyData} {j : Nat} {tl : TE} (hv : DAt H (.tuple ds) v) (h : Ev tl σ H v) (Pv : Nat → L2.St → Hp → Prop) (h0 : ∀ H1, Ex H H1 → Pv 0 σ H1) (hex : ∀ i σ' H', Pv i σ' H' → Ex H H')
    (hs : ∀ i d x σ' H', ds[i]? = some d → DAt H' d x → Pv i σ' H' → tu { D with nx := Pv (i + 1), ct := Pv (i + 1), bk := D.nx } (σ'.set j (some x)) H') (hd : ∀ σ' H', Pv ds.length σ' H' → D.nx σ' H') : tFor (iTup K tl) (gName j) tu D σ H := by
  obtain ⟨p, xs, h1, h2, h3⟩ := tup_dat hv
  subst h1
  have l := h3.length
  refine Evl.s_forT h (SqT.of h2) Pv h0 (fun i σ' H' _ q => SqT.of (hex i σ' H' q p _ h2)) (fun i x σ' H' hx q => ?_) (fun σ' H' q => hd σ' H' (l ▸ q))
  obtain ⟨d, g1, g2⟩ := h3.get hx
  exact hs i d x σ' H' g1 (g2.up (hex i σ' H' q)) q
theorem qd_forT {ds : List PyData} {j : Nat} {tl : TE} (hv : DAt H (.tuple ds) v) (h : Ev tl σ H v) (Pv : Nat → L2.St → Hp → Prop) (h0 : ∀ H1, Ex H H1 → Pv 0 σ H1) (hex : ∀ i σ' H', Pv i σ' H' → Ex H H')
    (hs : ∀ i d x σ' H', ds[i]? = some d → DAt H' d x → Pv i σ' H' → tu { D with nx := Pv (i + 1), ct := Pv (i + 1), bk := tz D } (σ'.set j (some x)) H') (hd : ∀ σ' H', Pv ds.length σ' H' → tz D σ' H') : tSeq (tFor (iTup K tl) (gName j) tu) tz D σ H :=
  sd_forT (D := { D with nx := tz D }) hv h Pv h0 hex hs hd
end
section
variable {P : Program} {w : World} {K : PySem.W.Frag} {mg : Str → Option Value} {base : Heap}
/-- a def that comes to data -/
theorem Def.okD {nm : Str} {st : Stmt} {f : Addr} {fd : FuncData} {N ps : List Str} {k : Nat} {R : List PyData → PyData → Prop} (F : Def K mg nm st ps f fd) (S : FnScope N ps (defScope st)) (len : ∀ ds d, R ds d → ds.length = ps.length)
    (hbody : ∀ (cdv : Value) (A : Around) (outer : List Env) (s : Shared) (H : Hp) (vs : List V) (Q : VK) (E : XK) (ds : List PyData) (d : PyData), Room k (A.deeper (envOfC nm (defScope st) s.heap.objs.size f cdv)) → R ds d → DAll H ds vs → (∀ v H2, Ex H H2 → DAt H2 d v → Q v H2) →
      ∃ t, PSs (cxOf CX0 P w K mg base N nm (defScope st) f cdv A outer s H E).nox (defBody st) t ∧ t { nx := fun _ H' => Q .non H', rt := Q } (start N vs) H) : FnOk P w K mg base CX0 (k + 1) f fd ps (spR R) := by
  refine F.F.ok S (fun vs H Q E h => ?_) (fun cdv A outer s H vs Q E hr h => ?_)
  · obtain ⟨ds, d, h1, h2, _⟩ := h
    rw [h1.length]
    exact len ds d h2
  · obtain ⟨ds, d, h1, h2, h3⟩ := h
    exact hbody cdv A outer s H vs Q E ds d hr h2 h1 h3
end
/-! ### isinstance, len -/
section
variable {X : Cx} {K : PySem.W.Frag} {te : TE} {σ : L2.St} {H : Hp} {d : PyData}
theorem call_lenA : CallR X (.builtin "len") (rLenA X.K) := call_len_seq
theorem ed_isi {cls : String} {b : Bool} (h : EvD te σ H d) (hk : PySem.W.kitOne K (.type (tyN d)) (.type cls) = some b) : EvD (tCB (rIsi K) (tCons te (tCons (tC (.ty cls)) tNil))) σ H (.bool b) := fun H1 e Q q =>
  h H1 e _ fun v H2 e2 hd => ⟨v, .ty cls, .type (tyN d), .type cls, b, rfl, .ty cls, hd.ty, hk, q _ H2 e2 dat_bl⟩
end
end
end RF
/-! Three rules of our own: t * 1, t[::-1], a comprehension over a tuple. -/
namespace RF
section
open PySem L2 PyProof.Rows
open Evl (Ex Ev EvT EvA EvO)

/-! ### t * 1: the tuple itself -/
theorem mul_one_same (l : Addr) (items : Array Value) (n : Nat) (dd : Option Addr) (sl : Array (Option Value)) (u : Tok) :
    Meets (Builtin.«tuple.__mul__» ⟨[.ref l, .int 1 u], []⟩) (fun _ R s => s.heap.get? l = some { cls := .type "tuple", dict := dd, data := .seq items n, slots := sl } ∧ R (.ok (.ret (Value.ref l))) s) :=
  .of_wp fun prog w A R s h => by
    obtain ⟨hp, g, d, tk, os⟩ := s
    obtain ⟨hl, h⟩ := h
    have f1 := AutoSeq1.idx_int
    wp_walk using AutoSeq1.wpAny_loadPart' hl
    repeat (first
      | (refine wpAny_ite_false (by decide) ?_; wp_walk using AutoSeq1.wpAny_loadPart' hl)
      | (refine wpAny_ite_true (by simp) ?_; wp_walk using AutoSeq1.wpAny_loadPart' hl))
    exact ⟨_, rfl, h⟩
def rOneT (K : PySem.W.Frag) : R2 := fun x y H Q => ∃ l xs, x = .ref l ∧ y = .int 1 ∧ SqT K H l xs ∧ Q (.ref l) H
theorem op_oneT {X : Cx} : OpR X (binaryOp .Mult) (rOneT X.K) := by
  intro pins s σ H x y v u Q I rx ry h
  obtain ⟨l, xs, rfl, rfl, hT, q⟩ := h
  cases rx
  obtain ⟨t, rfl⟩ := ry
  obtain ⟨its, r, ⟨⟨cls, dd, data, sl⟩, ho, hc, n, hd⟩, hs⟩ := I.tuple hT
  simp only at hc hd
  subst hc hd
  exact wpAny_binaryOp_repeat_ref (T := "tuple") (U := "int") (by decide) ⟨_, ho, rfl⟩ (fun s' => typeIs_int s' 1 t) noFill_tuple_mul F.fills_int_mul F.slot_int_rmul repeat_tuple F.slot_int_index.lookup
    (call_meets F.slot_int_rmul (typeIs_int s 1 t) F.entry_int_rmul (F.args_int_rmul_2 _ _) (int_rmul_tuple 1 t l its.toArray n dd sl)
      ⟨ho, rfl, ⟨_, ho, rfl⟩, call_meets F.slot_tuple_mul ⟨_, ho, rfl⟩ F.entry_tuple_mul (F.args_tuple_mul_2 _ _) (mul_one_same l its.toArray n dd sl t) ⟨ho, .ref l, H, I, rfl, q⟩⟩)
/-- both at once -/
def rMulT (K : PySem.W.Frag) : R2 := fun x y H Q => rRepT K x y H Q ∨ rOneT K x y H Q
theorem op_mulT {X : Cx} : OpR X (binaryOp .Mult) (rMulT X.K) := op_repT.or op_oneT
theorem rd_mul {K : PySem.W.Frag} {H : Hp} {xs : List PyData} {k : Int} (h0 : xs ≠ []) (h1 : 1 ≤ k) (h2 : k ≤ 1000) (h3 : xs.length ≤ 1000) : RD2 (rMulT K) H (.tuple xs) (.int k) (.tuple (List.replicate k.toNat xs).flatten) := fun x y H1 e hx hy Q q => by
  by_cases hk : k = 1
  · subst hk
    refine .inr ?_
    obtain ⟨p, us, e1, e2, e3⟩ := tup_dat hx
    subst e1
    refine ⟨p, us, rfl, int_dat hy, SqT.of e2, q _ H1 (Ex.refl H1) ?_⟩
    have z : (List.replicate (1 : Int).toNat xs).flatten = xs := by simp
    rw [z]
    exact hx
  · exact .inl (rd_rep h0 (by omega) h2 h3 x y H1 e hx hy Q q)

/-! ### t[::-1] -/
theorem applied_rev {prog : Program} {w : World} {A : Around} {E : Value → Shared → Prop} {s : Shared} {sl : Addr} {vl vu vk : Value} {n : Nat} {Q : Int × Int × Nat → Shared → Prop} (hs : s.heap.IsSliceOf sl vl vu vk) (pl : IsPart vl none) (pu : IsPart vu none) (pk : IsPart vk (some (-1)))
    (h : Q ((n : Int) - 1, -1, n) s) : wpAny (model prog w) A (Builtin.Slice.sliceApplied (.ref sl) (pure (n : Int))) Q E s := by
  obtain ⟨os, hos, hcs, hds⟩ := id hs
  unfold Builtin.Slice.sliceApplied
  unfold Builtin.Slice.sliceFields
  refine wpAny_bind (wpAny_bind (wpAny_field hos hds (x := vl) rfl (wpAny_bind (wpAny_field hos hds (x := vu) rfl (wpAny_bind (wpAny_field hos hds (x := vk) rfl (wpAny_pure ?_)))))))
  refine wpAny_bind (HT.slicePart_ pk ?_)
  show wpAny _ _ (if ((-1 : Int) == 0) = true then _ else _) _ _ s
  rw [if_neg (by decide)]
  refine wpAny_bind (HT.slicePart_ pl (wpAny_bind (HT.slicePart_ pu (wpAny_bind (wpAny_pure ?_)))))
  show wpAny _ _ (match Builtin.Slice.sliceAdjust none none (-1) (n : Int) with | (lo, hi) => pure (lo, (-1 : Int), Builtin.Slice.slicePlaces lo hi (-1))) _ _ s
  have e1 : Builtin.Slice.sliceAdjust none none (-1) (n : Int) = ((n : Int) - 1, -1) := rfl
  rw [e1]
  show wpAny _ _ (pure ((n : Int) - 1, (-1 : Int), Builtin.Slice.slicePlaces ((n : Int) - 1) (-1) (-1))) _ _ s
  have e2 : Builtin.Slice.slicePlaces ((n : Int) - 1) (-1) (-1) = n := by
    unfold Builtin.Slice.slicePlaces
    rw [if_neg (show ¬ ((-1 : Int) > 0) by decide)]
    by_cases c : (n : Int) - 1 > -1
    · rw [if_pos c, show (-(-1) : Int) = 1 from rfl, Int.ediv_one]
      omega
    · rw [if_neg c]
      omega
  rw [e2]
  exact wpAny_pure h
theorem pick_rev (xs : Array Value) : ((List.range xs.size).filterMap fun (k : Nat) => xs[((xs.size : Int) - 1 + (k : Int) * -1).toNat]?).toArray = xs.toList.reverse.toArray := by
  have e : (fun (k : Nat) => xs[((xs.size : Int) - 1 + (k : Int) * -1).toNat]?) = fun k => xs[xs.size - 1 - k]? := by
    funext k
    have z : ((xs.size : Int) - 1 + (k : Int) * -1).toNat = xs.size - 1 - k := by omega
    rw [z]
  rw [e]
  have q : (List.range xs.size).filterMap (fun k => xs[xs.size - 1 - k]?) = ((List.range xs.size).map fun k => xs.size - 1 - k).filterMap (xs[·]?) := by
    rw [List.filterMap_map]
    rfl
  rw [q, PySem.W.krv_range, List.filterMap_reverse, PySem.W.krv_all]
theorem getItem_rev {prog : Program} {w : World} {A : Around} {E : Value → Shared → Prop} {s : Shared} {t sl : Addr} {items : Array Value} {vl vu vk : Value} {Q : Value → Shared → Prop} (ht : IsTup s.heap t items) (hs : s.heap.IsSliceOf sl vl vu vk) (pl : IsPart vl none) (pu : IsPart vu none) (pk : IsPart vk (some (-1)))
    (h : Q (.ref s.heap.objs.size) { s with heap := s.heap.push { cls := .type "tuple", data := .seq items.toList.reverse.toArray } }) (hsz : items.size ≤ sizeLine) : wpAny (model prog w) A (getItem (.ref t) (.ref sl)) Q E s := by
  have hok : sizeOk (.seq items.toList.reverse.toArray) := by
    show items.toList.reverse.toArray.size ≤ sizeLine
    rw [List.size_toArray, List.length_reverse, Array.length_toList]
    exact hsz
  obtain ⟨os, hos, hcs, hds⟩ := id hs
  have hTs : s.TypeIs (.ref sl) "slice" := ⟨os, hos, hcs⟩
  unfold getItem
  try with_reducible refine wpAny_holding ?_
  first | refine wpAny_bind (wpAny_pure ?_) | skip
  refine wpAny_bind (wpAny_sequenceKey ht.typeIs (by decide) ?_)
  refine wpAny_bind (wpAny_callSpecial?_slot (name := Str.ofString "__getitem__") ht.typeIs PyProof.Rows.slot_tuple_getitem
    (wpAny_call_entry PyProof.Rows.slot_tuple_getitem ht.typeIs entry_tuple_getitem ?_ (args_tuple_getitem _ _)))
  show wpAny _ _ (Builtin.Tuple.tupleItemsOf (.ref t) >>= _) _ _ s
  refine wpAny_bind (tupleItemsOf_ ht ?_)
  refine wpAny_bind (wpAny_typeOf hTs ?_)
  rw [if_pos (by decide)]
  refine wpAny_bind (applied_rev hs pl pu pk ?_)
  have hno : ¬ (((items.size : Int) - 1 == 0 && (-1 : Int) == 1 && items.size == items.size) = true) := by
    rw [show ((-1 : Int) == 1) = false from rfl, Bool.and_false, Bool.false_and]
    exact Bool.false_ne_true
  show wpAny _ _ (if ((items.size : Int) - 1 == 0 && (-1 : Int) == 1 && items.size == items.size) = true then _ else _) _ _ s
  rw [if_neg hno, pick_rev]
  first
    | exact wpAny_bind (m := Builtin.Tuple.tupleExact _) (wpAny_newObj_type (wpAny_pure ⟨_, rfl, wpAny_pure h⟩) hok)
    | exact wpAny_bind (m := Builtin.Tuple.tupleExact _) (wpAny_newObj_type (wpAny_bind (wpAny_pure (wpAny_pure ⟨_, rfl, wpAny_pure h⟩))) hok)
    | exact wpAny_bind (wpAny_bind (m := Builtin.Tuple.tupleExact _) (wpAny_newObj_type (wpAny_pure (wpAny_pure ⟨_, rfl, wpAny_pure h⟩)) hok))
    | exact wpAny_bind (wpAny_bind (m := Builtin.Tuple.tupleExact _) (wpAny_newObj_type (wpAny_pure ⟨_, rfl, wpAny_pure h⟩) hok))
def tRevT (K : PySem.W.Frag) (te : TE) : TE := fun σ H Q => te σ H fun x H1 => ∃ a xs, x = .ref a ∧ SqT K H1 a xs ∧ ∀ p, H1 p = none → Q (.ref p) (upd H1 p (.tup xs.reverse))
theorem pe_revT {X : Cx} {e : Expr} {te : TE} {k : Nat} {p1 p2 p3 pos : Pos} (he : PE X e te) : PE X (.Subscript e (.Slice none none (some (.UnaryOp .USub (.Constant (.int 1) k p1) p2)) p3) pos) (tRevT X.K te) := by
  refine ⟨fun pins s σ H Q I h => ?_⟩
  refine Subscript_ (thn (he.run pins s σ H _ I h) fun v s1 ⟨x, H1, I1, r1, q1⟩ => ?_)
  obtain ⟨a, xs, ex, hx, q⟩ := q1
  subst ex
  cases r1
  have hst : PO X (some (.UnaryOp .USub (.Constant (.int 1) k p1) p2)) (tPart (tUn (rU fun i => .int (-i)) (tC (.int 1)))) := po_some (pe_un un_neg pe_int)
  refine wpAny_Slice (thn (po_none.run pins s1 σ H1 (fun o H2 => o = none ∧ H2 = H1) I1 ⟨rfl, rfl⟩) fun vl s2 ⟨l, H2, I2, pl, el, e2⟩ => ?_)
  subst el e2
  refine thn (po_none.run pins s2 σ H2 (fun o H3 => o = none ∧ H3 = H2) I2 ⟨rfl, rfl⟩) fun vu s3 ⟨u, H3, I3, pu, eu, e3⟩ => ?_
  subst eu e3
  refine thn (hst.run pins s3 σ H3 (fun o H4 => o = some (-1) ∧ H4 = H3) I3 ⟨1, rfl, -1, rfl, rfl, rfl⟩) fun vs s4 ⟨o, H4, I4, ps, eo, e4⟩ => ?_
  subst eo e4
  have I5 : Inv X pins σ H4 { s4 with heap := s4.heap.push { cls := .type "slice", data := .fields #[vl, vu, vs] } } := I4.kept (t' := s4.toks) fun b ob q => Heap.get?_push_of_some _ q
  obtain ⟨its, r, ht, hz⟩ := I5.tuple hx
  have hlen := r.length
  show wpAny (model X.prog X.w) X.A (subscriptTail e (.Slice none none (some (.UnaryOp .USub (.Constant (.int 1) k p1) p2)) p3) (.ref a) (.ref s4.heap.objs.size)) (EP X pins σ Q) X.xe { s4 with heap := s4.heap.push { cls := .type "slice", data := .fields #[vl, vu, vs] } }
  refine tail_any (ops := [.ref a, .ref s4.heap.objs.size]) ht.typeIs PyProof.Rows.slot_tuple_getitem.lookup ?_ (by with_unfolding_all rfl)
  refine getItem_rev ht (Heap.IsSliceOf.new _ vl vu vs) pl pu ps ?_ (by rw [List.size_toArray]; omega)
  refine ⟨.ref _, _, I5.laid (t' := s4.toks) (o := .tup xs.reverse) (fun b ob q => Heap.get?_push_of_some _ q) (Nat.le_refl _) ?_, rfl, q _ (I5.hok.fresh (Nat.le_refl _))⟩
  exact ⟨by rw [List.length_reverse]; exact hz, _, r.reverse, IsTup.new _ _⟩
theorem ed_rev {K : PySem.W.Frag} {σ : L2.St} {H : Hp} {te : TE} {ds : List PyData} (h : EvD te σ H (.tuple ds)) : EvD (tRevT K te) σ H (.tuple ds.reverse) := fun H1 e _ q =>
  h H1 e _ fun v H2 e2 hd => by
    obtain ⟨p, xs, h1, h2, h3⟩ := tup_dat hd
    subst h1
    exact ⟨p, xs, rfl, SqT.of h2, fun n hn => q _ _ (e2.trans (Ex.new hn)) (dat_tup upd_same (h3.reverse.up (Ex.new hn)))⟩

/-! ### [e for x in t if ..], e an int -/
theorem ed_lcT {K : PySem.W.Frag} {σ : L2.St} {H : Hp} {tl te : TE} {t : TT} {v : V} {ds : List PyData} {j : Nat} {vs : List Nat} (f : PyData → Bool) (g : PyData → Int) (hv : DAt H (.tuple ds) v) (h : Ev tl σ H v) (hl : ds.length ≤ 50000)
    (hw : ∀ x, wipe ((wipe σ vs).set j (some x)) vs = wipe σ vs) (ht : ∀ d ∈ ds, ∀ x H1, Ex H H1 → DAt H1 d x → EvT t ((wipe σ vs).set j (some x)) H1 (f d))
    (he : ∀ d ∈ ds, f d = true → ∀ x H1, Ex H H1 → DAt H1 d x → EvD te ((wipe σ vs).set j (some x)) H1 (.int (g d))) : EvD (tLc (iTup K tl) (gName j) t te vs) σ H (.list (((ds.filter f).map g).map .int)) := fun H0 e Q q =>
  h H0 e _ fun H1 e1 => by
    obtain ⟨p, xs, h1, h2, h3⟩ := tup_dat (hv.up (e.trans e1))
    subst h1
    have len := h3.length
    refine ⟨p, rfl, ⟨xs, SqT.of h2⟩, fun Dl hD => ?_⟩
    refine lc_tup (xs := xs) (fun i H' => Ex H1 H' ∧ H' Dl = some (.lst ((((ds.take i).filter f).map g).map V.int))) ⟨Ex.new hD, upd_same⟩ (fun i H' _ ⟨q1, _⟩ => SqT.of (q1 p _ h2)) ?_ ?_
    · intro i x H' hx ⟨q1, q2⟩
      obtain ⟨d, g1, g2⟩ := h3.get hx
      have hi : i < ds.length := (List.getElem?_eq_some_iff.mp g1).1
      have hm : d ∈ ds := List.mem_of_getElem? g1
      have ez : (ds.take (i + 1)) = ds.take i ++ [d] := by rw [List.take_add_one, g1] <;> rfl
      refine ⟨hw x, ht d hm x H' ((e.trans e1).trans q1) (g2.up q1) H' (Ex.refl H') _ fun H3 e3 => ?_⟩
      cases hf : f d with
      | true =>
        refine iteT (he d hm hf x H3 (((e.trans e1).trans q1).trans e3) (g2.up (q1.trans e3)) H3 (Ex.refl H3) _ fun y H4 e4 hy => ?_)
        have hy' := int_dat hy
        subst hy'
        refine ⟨_, e4 _ _ (e3 _ _ q2), ?_, ?_, ?_⟩
        · rw [List.length_map, List.length_map]
          have l1 := List.length_filter_le f (ds.take i)
          have l2 : (ds.take i).length ≤ i := by rw [List.length_take]; omega
          exact Evl.sz_lt (by omega)
        · exact Evl.Ex.mut ((q1.trans e3).trans e4) hD
        · rw [upd_same, ez, List.filter_append, List.filter_cons, if_pos hf, List.map_append, List.map_append]
          rfl
      | false =>
        refine iteF ⟨q1.trans e3, ?_⟩
        rw [ez, List.filter_append, List.filter_cons, if_neg (by rw [hf]; exact Bool.false_ne_true)]
        show _ = some (HO.lst (((List.filter f (List.take i ds) ++ []).map g).map V.int))
        rw [List.append_nil]
        exact e3 _ _ q2
    · intro H' ⟨q1, q2⟩
      rw [len, List.take_of_length_le (Nat.le_refl _)] at q2
      exact q _ H' (e1.trans q1) (dat_lst q2 (dall_ints _))
end
end RF
namespace RF
section
open PySem L2 PyProof.Rows
open Evl (Ex Ev EvT EvA EvO)
/-! is_in, _law_is_vector, _law_alike -/
theorem dall1 {H : Hp} {a : PyData} {vs : List V} (h : DAll H [a] vs) : ∃ x, vs = [x] ∧ DAt H a x := by
  obtain ⟨x, r, h1, h2, h3⟩ := cons_dall h
  rw [nil_dall h3] at h1
  exact ⟨x, h1, h2⟩
theorem dall2 {H : Hp} {a b : PyData} {vs : List V} (h : DAll H [a, b] vs) : ∃ x y, vs = [x, y] ∧ DAt H a x ∧ DAt H b y := by
  obtain ⟨x, r, h1, h2, h3⟩ := cons_dall h
  obtain ⟨y, g1, g2⟩ := dall1 h3
  rw [g1] at h1
  exact ⟨x, y, h1, h2, g2⟩
theorem dall3 {H : Hp} {a b c : PyData} {vs : List V} (h : DAll H [a, b, c] vs) : ∃ x y z, vs = [x, y, z] ∧ DAt H a x ∧ DAt H b y ∧ DAt H c z := by
  obtain ⟨x, r, h1, h2, h3⟩ := cons_dall h
  obtain ⟨y, z, g1, g2, g3⟩ := dall2 h3
  rw [g1] at h1
  exact ⟨x, y, z, h1, h2, g2, g3⟩
/-- isinstance within a comprehension's block -/
theorem cisi {X : Cx} {K : PySem.W.Frag} (h : X.K = K) : CallR X (.builtin "isinstance") (rIsi K) := by
  subst h
  exact call_isi
section
variable {P : Program} {w : World} {K : PySem.W.Frag} {mg : Str → Option Value} {base : Heap} {f : Addr} {fd : FuncData}
/-! ### is_in -/
theorem sc_is_in : FnScope ["value", "least", "most"] ["value", "least", "most"] (defScope s_is_in) := ⟨rfl, rfl, rfl, by decide +kernel, rfl, by decide +kernel, by decide +kernel⟩
def R_is_in (ds : List PyData) (d : PyData) : Prop := ∃ x lo hi, ds = [x, .int lo, .int hi] ∧ d = .bool (dIn lo hi x)
theorem ok_is_in {k : Nat} (D : Def K mg "is_in" s_is_in ["value", "least", "most"] f fd) (T : Top mg) : FnOk P w K mg base CX0 (k + 1) f fd ["value", "least", "most"] (spR R_is_in) := by
  refine D.okD sc_is_in (fun ds d h => by obtain ⟨x, lo, hi, rfl, _⟩ := h; rfl) (fun cdv A outer s H vs Q E ds d hr h ha q => ?_)
  obtain ⟨x, lo, hi, rfl, rfl⟩ := h
  obtain ⟨v, v1, v2, rfl, hx, h1, h2⟩ := dall3 ha
  refine ⟨_, pss_one (ps_ret (pe_and (pe_callB call_isi rfl T.z_isinstance boot_isinstance (pa_cons (pv 0) (pa_cons (pe_bltn (v := .ty "int") rfl T.z_int boot_int rfl) pa_nil)))
    (pe_and (pe_not (pe_callB call_isi rfl T.z_isinstance boot_isinstance (pa_cons (pv 0) (pa_cons (pe_bltn (v := .ty "bool") rfl T.z_bool (by decide +kernel) rfl) pa_nil))))
      (pe_one (pe_chain op_le op_le (pv 1) (pv 0) (pv 2)))))), ?_⟩
  refine sd_ret (d := .bool (dIn lo hi x)) ?_ q
  refine ed_is (ed_and (a := isI x) (b := !isB x && dIn lo hi x) (ed_isi (ed_var rfl hx) (kit_int x)) fun g1 => ed_and (ed_not (ed_isi (ed_var rfl hx) (kit_bool x))) fun g2 => ?_) ?_
  · cases x with
    | int i => exact ed_chain (dx := .int lo) (dy := .int i) (dz := .int hi) (ed_var rfl h1) (ed_var rfl hx) (rd_I0 fun _ => dat_bl) (fun _ => ed_var rfl h2) (fun _ => rd_I0 fun _ => dat_bl)
    | bool b => simp [isB] at g2
    | none => simp [isI] at g1
    | str b => simp [isI] at g1
    | list b => simp [isI] at g1
    | tuple b => simp [isI] at g1
    | dict b => simp [isI] at g1
  · cases x <;> simp [isI, isB, dIn]
/-! ### _law_is_vector, of ints -/
theorem sc_is_vector : FnScope ["_law_value", "_law_size", "_law_x"] ["_law_value", "_law_size"] (defScope s_law_is_vector) := ⟨rfl, rfl, rfl, by decide +kernel, rfl, by decide +kernel, by decide +kernel⟩
def R_is_vector (ds : List PyData) (d : PyData) : Prop := ∃ (ns : List Int) (k : Int), ds = [intsD ns, .int k] ∧ ns.length ≤ 1000 ∧ d = .bool (decide ((ns.length : Int) = k))
theorem ok_is_vector {k : Nat} (D : Def K mg "_law_is_vector" s_law_is_vector ["_law_value", "_law_size"] f fd) (T : Top mg) : FnOk P w K mg base CX0 (k + 1) f fd ["_law_value", "_law_size"] (spR R_is_vector) := by
  refine D.okD sc_is_vector (fun ds d h => by obtain ⟨x, lo, rfl, _⟩ := h; rfl) (fun cdv A outer s H vs Q E ds d hr h ha q => ?_)
  obtain ⟨ns, k, rfl, hl, rfl⟩ := h
  obtain ⟨v, v1, rfl, hx, h1⟩ := dall2 ha
  refine ⟨_, pss_cons (ps_if (PW.pt (pw_or (pt_not (pt_val (pe_callB call_isi rfl T.z_isinstance boot_isinstance (pa_cons (pv 0) (pa_cons (pe_bltn (v := .ty "tuple") rfl T.z_tuple boot_tuple rfl) pa_nil)))))
      (pw_or1 (pt_cmpR op_ne (pe_callB call_lenA rfl T.z_len PySem.boot_len (pa_cons (pv 0) pa_nil)) (pv 1) (nomark _))))) (pss_one (ps_ret pe_bl)) pss_nil)
    (pss_one (ps_ret (pe_cmpR (op_eqD hr.units) (pe_lc (own := [("_law_x", 2)]) (g := gName 2) rfl sc_is_vector.nd (pi_tup (pv 0)) (blkOk_by (N := ["_law_value", "_law_size", "_law_x"]) (sc := defScope s_law_is_vector) (by decide +kernel)) (fun _ _ _ _ _ => pg_name (i := 2) sc_is_vector.nd rfl (Or.inl rfl))
      (fun _ _ _ _ _ => pts_one (PW.pt (pw_or (pt_not (pt_val (pe_callB (cisi (K := K) rfl) rfl T.z_isinstance boot_isinstance (pa_cons (pv 2) (pa_cons (pe_bltn (v := .ty "int") rfl T.z_int boot_int rfl) pa_nil)))))
        (pw_or1 (pt_val (pe_callB (cisi (K := K) rfl) rfl T.z_isinstance boot_isinstance (pa_cons (pv 2) (pa_cons (pe_bltn (v := .ty "bool") rfl T.z_bool (by decide +kernel) rfl) pa_nil)))))))) (fun _ _ _ _ _ => pv 2)) (pe_lst pa_nil) (nomark _)))), ?_⟩
  refine Evl.q_when (b := !decide ((ns.length : Int) = k)) ?_ (fun hb H1 e1 => ?_) (fun hb H1 e1 => ?_)
  · refine Evl.et_is (Evl.et_or (a := false) (Evl.et_not (et_D (ed_isi (ed_var rfl hx) (kit_tuple (intsD ns))))) fun _ => et_T (ed_op (ed_len (ed_var rfl hx)) (ed_var rfl h1) rd_neI)) ?_
    simp
  · refine sd_ret (d := .bool false) ed_bl fun v H2 e2 hd => ?_
    have z : decide ((ns.length : Int) = k) = false := by simpa using hb
    rw [z] at q
    exact q v H2 (e1.trans e2) hd
  · have z : decide ((ns.length : Int) = k) = true := by simpa using hb
    rw [z] at q
    refine sd_ret (d := .bool true) ?_ fun v H2 e2 hd => q v H2 (e1.trans e2) hd
    refine ed_is (ed_op (dx := .list []) (ed_is (ed_lcT (ds := ns.map .int) (fun _ => false) (fun _ => 0) (hx.up e1) (Evl.ev_var rfl) (by rw [List.length_map]; omega) (fun _ => rfl) (fun d hd x H2 e2 h => ?_) (fun d hd c => nomatch c)) (by simp)) (ed_lst (ds := []) eds_nil (by decide)) (rd_eqD rfl rfl)) (by simp [PyData.eqv, PyData.eqvAll])
    obtain ⟨i, _, rfl⟩ := List.mem_map.mp hd
    exact Evl.et_or (a := false) (b := false) (Evl.et_not (et_D (ed_isi (ed_var rfl h) (kit_int (.int i))))) fun _ => et_D (ed_isi (ed_var rfl h) (kit_bool (.int i)))
/-! ### _law_alike, of two truth values -/
theorem sc_alike : FnScope ["_law_found", "_law_due", "_law_k"] ["_law_found", "_law_due"] (defScope s_law_alike) := ⟨rfl, rfl, rfl, by decide +kernel, rfl, by decide +kernel, by decide +kernel⟩
def R_alike (ds : List PyData) (d : PyData) : Prop := ∃ a b, ds = [.bool a, .bool b] ∧ d = .bool (a == b)
theorem ed_noSeq {te : TE} {σ : L2.St} {H : Hp} {b : Bool} (h : EvD te σ H (.bool b)) : EvD (tCB (rIsiT K) (tCons te (tCons (tTup (tCons (tC (.ty "tuple")) (tCons (tC (.ty "list")) tNil))) tNil))) σ H (.bool false) := fun H1 e Q q =>
  h H1 e _ fun v H2 e2 hd => ⟨by show 2 ≤ sizeLine; decide, fun p hp => ⟨v, p, [.ty "tuple", .ty "list"], .type "bool", [.type "tuple", .type "list"], false, rfl, upd_same, .cons (.ty _) (.cons (.ty _) .nil), (hd.up (Ex.new hp)).ty,
    kitAny_cons (b := false) (kit_ty (by decide +kernel)) (fun _ => kitAny_cons (b := false) (kit_ty (by decide +kernel)) (fun _ => kitAny_nil) (fun c => nomatch c)) (fun c => nomatch c), q _ _ (e2.trans (Ex.new hp)) dat_bl⟩⟩
theorem ok_alike {k : Nat} (D : Def K mg "_law_alike" s_law_alike ["_law_found", "_law_due"] f fd) (T : Top mg) : FnOk P w K mg base CX0 (k + 1) f fd ["_law_found", "_law_due"] (spR R_alike) := by
  refine D.okD sc_alike (fun ds d h => by obtain ⟨x, lo, rfl, _⟩ := h; rfl) (fun cdv A outer s H vs Q E ds d hr h ha q => ?_)
  obtain ⟨a, b, rfl, rfl⟩ := h
  obtain ⟨v, v1, rfl, hx, h1⟩ := dall2 ha
  refine ⟨_, pss_cons (ps_if (pt_val (pe_callB call_isiT rfl T.z_isinstance boot_isinstance (pa_cons (pv 1) (pa_cons (pe_tup (pa_cons (pe_bltn (v := .ty "tuple") rfl T.z_tuple boot_tuple rfl) (pa_cons (pe_bltn (v := .ty "list") rfl T.z_list (by decide +kernel) rfl) pa_nil))) pa_nil)))) pss_never pss_nil)
    (pss_cons (ps_if (PW.pt (pw_or (pt_cmpR op_isN (pv 1) pe_non (nomark _)) (pw_or1 (pt_val (pe_callB call_isi rfl T.z_isinstance boot_isinstance (pa_cons (pv 1) (pa_cons (pe_bltn (v := .ty "str") rfl T.z_str (by decide +kernel) rfl) pa_nil))))))) pss_never pss_nil)
    (pss_one (ps_ret (pe_and (pe_callB call_isi rfl T.z_isinstance boot_isinstance (pa_cons (pv 0) (pa_cons (pe_bltn (v := .ty "int") rfl T.z_int boot_int rfl) pa_nil)))
      (pe_and (pe_cmpR op_eq (pe_callB call_isi rfl T.z_isinstance boot_isinstance (pa_cons (pv 0) (pa_cons (pe_bltn (v := .ty "bool") rfl T.z_bool (by decide +kernel) rfl) pa_nil)))
          (pe_callB call_isi rfl T.z_isinstance boot_isinstance (pa_cons (pv 1) (pa_cons (pe_bltn (v := .ty "bool") rfl T.z_bool (by decide +kernel) rfl) pa_nil))) (nomark _))
        (pe_one (pe_cmpR op_eq (pv 0) (pv 1) (nomark _)))))))), ?_⟩
  refine Evl.q_when (b := false) (et_D (ed_noSeq (ed_var rfl h1))) (fun hb => nomatch hb) (fun _ H1 e1 => ?_)
  refine Evl.q_when (b := false) (Evl.et_or (a := false) (et_T (ed_op (ed_var rfl (h1.up e1)) ed_non rd_isN)) fun _ => et_D (ed_isi (ed_var rfl (h1.up e1)) (kit_str (.bool b)))) (fun hb => nomatch hb) (fun _ H2 e2 => ?_)
  have hx2 := hx.up (e1.trans e2)
  have h12 := h1.up (e1.trans e2)
  refine sd_ret (d := .bool (a == b)) ?_ fun v H3 e3 hd => q v H3 ((e1.trans e2).trans e3) hd
  refine ed_is (ed_and (a := true) (ed_isi (ed_var rfl hx2) (kit_int (.bool a))) fun _ => ed_and (a := true) (ed_op (ed_isi (ed_var rfl hx2) (kit_bool (.bool a))) (ed_isi (ed_var rfl h12) (kit_bool (.bool b))) rd_eqB) fun _ => ed_op (ed_var rfl hx2) (ed_var rfl h12) rd_eqB) ?_
  simp
end
end
end RF
namespace RF
section
open PySem L2 PyProof.Rows
open Evl (Ex Ev EvT EvA EvO)
/-! size_of -/
section
variable {P : Program} {w : World} {K : PySem.W.Frag} {mg : Str → Option Value} {base : Heap} {f f1 : Addr} {fd fd1 : FuncData}
theorem sc_size_of : FnScope ["value", "deep", "found", "item", "inner"] ["value", "deep"] (defScope s_size_of) := ⟨rfl, rfl, rfl, by decide +kernel, rfl, by decide +kernel, by decide +kernel⟩
def sD : Option Int → PyData
  | none => .none
  | some k => .int k
def R_size : Nat → List PyData → PyData → Prop
  | 0 => fun _ _ => False
  | m + 1 => fun ds d => ∃ x, ds = [x, .int (m : Int)] ∧ d = sD (szRec (m + 1) x)
/-- is it a stretch by its look? -/
def look2 : PyData → Bool
  | .tuple [a, _] => dIn 2 999 a
  | _ => false
theorem szItem_no {rec : PyData → Option Int} {d : PyData} (h1 : dIn 0 7 d = false) (h2 : look2 d = false) : szItem rec d = none := by
  unfold szItem
  split
  · simp [dIn] at h1
    rw [if_neg (by omega)]
  · simp [look2, dIn] at h2
    rw [if_neg (by omega)]
  · rfl
theorem look2_yes {d : PyData} (h : look2 d = true) : ∃ t b, d = .tuple [.int t, b] ∧ 2 ≤ t ∧ t ≤ 999 := by
  unfold look2 at h
  split at h
  · rename_i a b
    cases a <;> simp [dIn] at h
    exact ⟨_, b, rfl, h.1, h.2⟩
  · cases h
theorem isTup_yes {d : PyData} (h : isTup d = true) : ∃ l, d = .tuple l := by
  cases d <;> first | exact ⟨_, rfl⟩ | cases h
theorem drop_at {α : Type} {l : List α} {i : Nat} {d : α} (h : l[i]? = some d) : l.drop i = d :: l.drop (i + 1) := by
  obtain ⟨h1, e⟩ := List.getElem?_eq_some_iff.mp h
  rw [List.drop_eq_getElem_cons h1, e]
theorem ok_size_zero : FnOk P w K mg base CX0 2 f fd ["value", "deep"] (spR (R_size 0)) := by
  have no : ∀ vs H Q E, ¬ spR (R_size 0) vs H Q E := fun vs H Q E h => by
    obtain ⟨_, _, _, z, _⟩ := h
    exact z
  exact ⟨fun vs H Q E h => absurd h (no vs H Q E), fun A outer s H args us vs Q E _ _ _ _ h => absurd h (no vs H Q E)⟩
theorem ok_size_succ {m : Nat} (D : Def K mg "size_of" s_size_of ["value", "deep"] f fd) (T : Top mg) (D1 : Def K mg "is_in" s_is_in ["value", "least", "most"] f1 fd1)
    (G : FnOk P w K mg base CX0 (m + 2) f fd ["value", "deep"] (spR (R_size m))) : FnOk P w K mg base CX0 (m + 3) f fd ["value", "deep"] (spR (R_size (m + 1))) := by
  have G1 : FnOk P w K mg base CX0 1 f1 fd1 ["value", "least", "most"] (spR R_is_in) := ok_is_in D1 T
  obtain ⟨t8, m8⟩ := T.c_MOST_BOXES
  obtain ⟨t9, m9⟩ := T.c_MOST_TIMES
  obtain ⟨t2, m2⟩ := T.c_MOST_LONG
  refine D.okD sc_size_of (fun ds d h => by obtain ⟨x, rfl, _⟩ := h; rfl) (fun cdv A outer s H vs Q E ds d hr h ha q => ?_)
  obtain ⟨x, rfl, rfl⟩ := h
  obtain ⟨v, v1, rfl, hx, h1⟩ := dall2 ha
  have hr1 := hr.mono (show 1 ≤ m + 2 by omega)
  refine ⟨_, pss_cons (ps_if (pt_not (pt_val (pe_callB call_isi rfl T.z_isinstance boot_isinstance (pa_cons (pv 0) (pa_cons (pe_bltn (v := .ty "tuple") rfl T.z_tuple boot_tuple rfl) pa_nil))))) (pss_one (ps_ret pe_non)) pss_nil)
    (pss_cons (ps_set (i := 2) sc_size_of.nd rfl (.inl rfl) pe_int)
    (pss_cons (ps_for PassesOwn.never rfl (pi_tup (pv 0)) (pg_name (i := 3) sc_size_of.nd rfl (.inl rfl))
      (Evl.pss_cut (ps_if (pt_val (pe_call G1 hr1 rfl D1.g D1.F.kp D1.b .nil pass0 (pa_cons (pv 3) (pa_cons pe_int (pa_cons (pe_op op_sub (pe_glob (v := .int 8) rfl m8 ⟨_, rfl⟩) pe_int) pa_nil)))))
          (pss_one (ps_aug (i := 2) sc_size_of.nd rfl (.inl rfl) pe_int ip_add))
          (pss_one (ps_if (PW.pt (pw_and (pt_val (pe_callB call_isi rfl T.z_isinstance boot_isinstance (pa_cons (pv 3) (pa_cons (pe_bltn (v := .ty "tuple") rfl T.z_tuple boot_tuple rfl) pa_nil))))
              (pw_and (pt_cmpR op_eq (pe_callB call_lenA rfl T.z_len PySem.boot_len (pa_cons (pv 3) pa_nil)) pe_int (nomark _))
              (pw_and (pt_val (pe_call G1 hr1 rfl D1.g D1.F.kp D1.b .nil pass0 (pa_cons (pe_ix ix_tup (pv 3) pe_int (fun _ _ => rfl)) (pa_cons pe_int (pa_cons (pe_glob (v := .int 999) rfl m9 ⟨_, rfl⟩) pa_nil)))))
              (pw_and1 (pt_cmpR op_gt (pv 1) pe_int (nomark _)))))))
            (pss_cons (ps_set (i := 4) sc_size_of.nd rfl (.inl rfl) (pe_call G hr rfl D.g D.F.kp D.b .nil pass0 (pa_cons (pe_ix ix_tup (pv 3) pe_int (fun _ _ => rfl)) (pa_cons (pe_op op_sub (pv 1) pe_int) pa_nil))))
            (pss_cons (ps_if (PW.pt (pw_or (pt_cmpR op_isN (pv 4) pe_non (nomark _)) (pw_or1 (pt_cmpR op_eq (pv 4) pe_int (nomark _))))) (pss_one (ps_ret pe_non)) pss_nil)
            (pss_one (ps_aug (i := 2) sc_size_of.nd rfl (.inl rfl) (pe_op op_mul (pe_ix ix_tup (pv 3) pe_int (fun _ _ => rfl)) (pv 4)) ip_add))))
            (pss_one (ps_ret pe_non)))))
      (pss_one (ps_if (pt_cmpR op_gt (pv 2) (pe_glob (v := .int 2000) rfl m2 ⟨_, rfl⟩) (nomark _)) (pss_one (ps_ret pe_non)) pss_nil))))
    (pss_one (ps_ret (pv 2))))), ?_⟩
  -- not a tuple
  refine Evl.q_when (b := !isTup x) (Evl.et_not (et_D (ed_isi (ed_var rfl hx) (kit_tuple x)))) (fun hb H1 e1 => ?_) (fun hb H1 e1 => ?_)
  · have z : szRec (m + 1) x = none := szOf_other m x (by simpa using hb)
    rw [z] at q
    exact sd_ret ed_non fun v H2 e2 hd => q v H2 (e1.trans e2) hd
  have q := fun v H2 e2 hd => q v H2 (e1.trans e2) hd
  have hx := hx.up e1
  have h1 := h1.up e1
  obtain ⟨ds, rfl⟩ := isTup_yes (d := x) (by simpa using hb)
  have tot : szRec (m + 1) (.tuple ds) = szGo (szItem (szRec m)) 0 ds := szOf_tuple m ds
  rw [tot] at q
  clear tot
  generalize hT : szGo (szItem (szRec m)) 0 ds = tot at q
  rw [int_dat h1] at *
  -- found = 0
  refine qd_asg ed_int fun v2 H2 e2 hd2 => ?_
  rw [int_dat hd2]
  have q := fun v H2' e2' hd => q v H2' (e2.trans e2') hd
  have hx := hx.up e2
  refine qd_forT (v := v) (ds := ds) hx (Evl.ev_var rfl) (fun i σ' H' => Ex H2 H' ∧ ∃ acc y3 y4, σ' = [some v, some (.int (m : Int)), some (.int acc), y3, y4] ∧ szGo (szItem (szRec m)) acc (ds.drop i) = tot) ?_ ?_ ?_ ?_
  · intro H3 e3
    exact ⟨e3, 0, none, none, rfl, by rw [List.drop_zero]; exact hT⟩
  · intro i σ' H' p
    exact p.1
  · rintro i d xv σ' H' hi hd ⟨e3, acc, y3, y4, rfl, hg⟩
    rw [drop_at hi] at hg
    refine Evl.q_cut (M := fun σ' H' => Ex H2 H' ∧ ∃ acc y3 y4, σ' = [some v, some (.int (m : Int)), some (.int acc), y3, y4] ∧ tot = (if 2000 < acc then none else szGo (szItem (szRec m)) acc (ds.drop (i + 1)))) ?_ ?_
    · refine Evl.s_if (b := dIn 0 7 d) (et_D (ed_call (eds_cons (ed_var rfl hd) (eds_cons ed_int (eds_cons (ed_op ed_int ed_int (rd_I0 fun _ => dat_int)) eds_nil))) ⟨d, 0, 7, rfl, rfl⟩)) (fun hb H4 e4 => ?_) (fun hb H4 e4 => ?_)
      · refine Evl.s_aug rfl Evl.ev_c fun H5 e5 => ⟨(e3.trans e4).trans e5, acc + 1, some xv, y4, rfl, ?_⟩
        cases d <;> simp [dIn] at hb
        rename_i i'
        rw [← hg]
        simp only [szGo, szItem]
        rw [if_pos hb]
      · -- a stretch?
        have hd4 := hd.up e4
        refine Evl.s_if (b := look2 d && decide ((0 : Int) < m)) ?_ (fun hb2 H5 e5 => ?_) (fun hb2 H5 e5 => ?_)
        · refine Evl.et_is (Evl.et_and (a := isTup d) (b := look2 d && decide ((0 : Int) < m)) (et_D (ed_isi (ed_var rfl hd4) (kit_tuple d))) fun g1 => ?_) ?_
          · obtain ⟨l, rfl⟩ := isTup_yes g1
            refine Evl.et_is (Evl.et_and (a := decide ((l.length : Int) = 2)) (b := look2 (.tuple l) && decide ((0 : Int) < m)) (et_T (ed_op (ed_len (ed_var rfl hd4)) ed_int rd_eqI)) fun g2 => ?_) ?_
            · have g2 := of_decide_eq_true g2
              obtain ⟨a, b, rfl⟩ : ∃ a b, l = [a, b] := by
                match l, g2 with
                | [a, b], _ => exact ⟨a, b, rfl⟩
                | [], g => simp at g
                | [_], g => simp at g
                | _ :: _ :: _ :: _, g => simp at g; omega
              exact Evl.et_and (a := dIn 2 999 a) (et_D (ed_call (eds_cons (ed_op (ed_var rfl hd4) ed_int (rd_ix (j := 0) rfl rfl)) (eds_cons ed_int (eds_cons ed_int eds_nil))) ⟨a, 2, 999, rfl, rfl⟩)) fun _ => et_T (ed_op (ed_var rfl (dat_int (i := (m : Int)))) ed_int (rd_I0 fun _ => dat_bl))
            · by_cases g : (l.length : Int) = 2
              · rw [decide_eq_true g, Bool.true_and]
              · have z : look2 (.tuple l) = false := by
                  unfold look2
                  split
                  · rename_i e
                    injection e with e
                    subst e
                    exact absurd rfl g
                  · rfl
                rw [z, Bool.false_and, Bool.and_false]
          · cases d <;> simp [isTup, look2]
        · -- a stretch, and deep > 0
          rw [Bool.and_eq_true] at hb2
          obtain ⟨t, b, rfl, ht1, ht2⟩ := look2_yes hb2.1
          have hm := of_decide_eq_true hb2.2
          obtain ⟨m', rfl⟩ : ∃ m', m = m' + 1 := ⟨m - 1, by omega⟩
          have hd5 := hd4.up e5
          refine qd_asg (ed_call (d := sD (szRec (m' + 1) b)) (eds_cons (ed_op (ed_var rfl hd5) ed_int (rd_ix (j := 1) rfl rfl)) (eds_cons (ed_op (ed_var rfl (dat_int (i := ((m' + 1 : Nat) : Int)))) ed_int (rd_I0 (d := .int (m' : Int)) fun _ => ?_)) eds_nil)) ⟨b, rfl, rfl⟩) fun v6 H6 e6 hd6 => ?_
          · have z : ((m' + 1 : Nat) : Int) - 1 = (m' : Int) := by omega
            rw [z]
            exact dat_int
          simp only [szGo, szItem, if_pos (show (2 : Int) ≤ t ∧ t ≤ 999 from ⟨ht1, ht2⟩)] at hg
          cases hz : szRec (m' + 1) b with
          | none =>
            rw [hz] at hd6 hg
            refine Evl.q_when (b := true) (Evl.et_or (a := true) (b := true) (et_T (ed_op (ed_var rfl hd6) ed_non rd_isN)) fun c => nomatch c) (fun _ H7 e7 => ?_) (fun c => nomatch c)
            have hg : none = tot := hg
            subst hg
            exact sd_ret ed_non fun v' H8 e8 hd8 => q v' H8 (((((e3.trans e4).trans e5).trans e6).trans e7).trans e8) hd8
          | some n =>
            rw [hz] at hd6 hg
            have hd6 : DAt H6 (.int n) v6 := hd6
            have e36 := ((e3.trans e4).trans e5).trans e6
            refine Evl.q_when (b := decide (n = 0)) (Evl.et_is (Evl.et_or (a := false) (b := decide (n = 0)) (et_T (ed_op (ed_var rfl hd6) ed_non rd_isN)) fun _ => et_T (ed_op (ed_var rfl hd6) ed_int rd_eqI)) (Bool.false_or _)) (fun g H7 e7 => ?_) (fun g H7 e7 => ?_)
            · have g := of_decide_eq_true g
              subst g
              have hg : none = tot := hg
              subst hg
              exact sd_ret ed_non fun v' H8 e8 hd8 => q v' H8 ((e36.trans e7).trans e8) hd8
            · have g := of_decide_eq_false g
              simp only [if_neg g] at hg
              refine Evl.s_aug (b := t * n) rfl (EvD.int (ed_op (ed_op (ed_var rfl (hd5.up (e6.trans e7))) ed_int (rd_ix (j := 0) rfl rfl)) (ed_var rfl (hd6.up e7)) (rd_I (.inl ⟨by omega, by omega⟩) fun _ => dat_int))) fun H8 e8 => ⟨(e36.trans e7).trans e8, acc + t * n, some xv, some v6, rfl, hg.symm⟩
        · -- neither
          have z : szItem (szRec m) d = none := by
            by_cases g : look2 d = true
            · rw [g, Bool.true_and] at hb2
              have hm := of_decide_eq_false hb2
              obtain ⟨t, b, rfl, ht1, ht2⟩ := look2_yes g
              have hm : m = 0 := by omega
              subst hm
              simp only [szItem, if_pos (show (2 : Int) ≤ t ∧ t ≤ 999 from ⟨ht1, ht2⟩), szRec]
            · exact szItem_no hb (by simpa using g)
          simp only [szGo, z] at hg
          subst hg
          exact sd_ret ed_non fun v' H8 e8 hd8 => q v' H8 (((e3.trans e4).trans e5).trans e8) hd8
    · rintro σ4 H4 ⟨e4, acc', z3, z4, rfl, hz⟩
      refine Evl.s_when (b := decide ((2000 : Int) < acc')) (et_T (ed_op (ed_var rfl (dat_int (i := acc'))) ed_int (rd_I0 fun _ => dat_bl))) (fun g H5 e5 => ?_) (fun g H5 e5 => ?_)
      · rw [if_pos (of_decide_eq_true g)] at hz
        subst hz
        exact sd_ret ed_non fun v' H8 e8 hd8 => q v' H8 ((e4.trans e5).trans e8) hd8
      · rw [if_neg (of_decide_eq_false g)] at hz
        exact ⟨e4.trans e5, acc', z3, z4, rfl, hz.symm⟩
  · rintro σ' H' ⟨e3, acc, y3, y4, rfl, hg⟩
    rw [List.drop_of_length_le (Nat.le_refl _)] at hg
    simp only [szGo] at hg
    subst hg
    exact sd_ret (ed_var rfl dat_int) fun v' H8 e8 hd8 => q v' H8 (e3.trans e8) hd8
theorem ok_size (D : Def K mg "size_of" s_size_of ["value", "deep"] f fd) (T : Top mg) (D1 : Def K mg "is_in" s_is_in ["value", "least", "most"] f1 fd1) :
    ∀ m : Nat, FnOk P w K mg base CX0 (m + 2) f fd ["value", "deep"] (spR (R_size m))
  | 0 => ok_size_zero
  | m + 1 => ok_size_succ D T D1 (ok_size D T D1 m)
end
end
end RF
namespace RF
section
open PySem L2 PyProof.Rows
open Evl (Ex Ev EvT EvA EvO)
/-! looped code read: appear_in, _law_said, unrolled_in, _law_unrolled, deep_in -/
theorem toDL_get {cs : List C} {i : Nat} {d : PyData} (h : (toDL cs)[i]? = some d) : ∃ c, cs[i]? = some c ∧ d = toD c := by
  rw [toDL_map, List.getElem?_map] at h
  obtain ⟨c, h1, h2⟩ := Option.map_eq_some_iff.mp h
  exact ⟨c, h1, h2.symm⟩
theorem saiL_take_le (cs : List C) (n : Nat) : (saiL (cs.take n)).length ≤ (saiL cs).length := by
  have h := saiL_append (cs.take n) (cs.drop n)
  rw [List.take_append_drop] at h
  rw [h, List.length_append]
  omega
theorem unrL_take_le (cs : List C) (n : Nat) : (unrL (cs.take n)).length ≤ (unrL cs).length := by
  have h := unrL_take_drop cs n
  omega
theorem len_le_unr : ∀ {cs : List C}, okL cs → cs.length ≤ (unrL cs).length
  | [], _ => by simp
  | c :: cs, h => by
    simp only [okL] at h
    have q := unr_pos c h.1
    have q2 := len_le_unr h.2
    simp only [unrL, List.length_cons, List.length_append]
    omega
theorem ints_cat (a b : List Int) : PyData.tuple (a.map .int ++ b.map .int) = intsD (a ++ b) := by
  show _ = PyData.tuple ((a ++ b).map .int)
  rw [List.map_append]
theorem rep_map {α β : Type} (g : α → β) (k : Nat) (l : List α) : (List.replicate k (l.map g)).flatten = ((List.replicate k l).flatten).map g := by
  induction k with
  | zero => rfl
  | succ k ih => rw [List.replicate_succ, List.replicate_succ, List.flatten_cons, List.flatten_cons, List.map_append, ih]
section
variable {P : Program} {w : World} {K : PySem.W.Frag} {mg : Str → Option Value} {base : Heap} {f f1 : Addr} {fd fd1 : FuncData}
theorem none_ok {k : Nat} {ps : List Str} {R : List PyData → PyData → Prop} (hR : ∀ ds d, ¬ R ds d) : FnOk P w K mg base CX0 k f fd ps (spR R) := by
  have no : ∀ vs H Q E, ¬ spR R vs H Q E := fun vs H Q E h => by
    obtain ⟨ds, d, _, z, _⟩ := h
    exact hR ds d z
  exact ⟨fun vs H Q E h => absurd h (no vs H Q E), fun A outer s H args us vs Q E _ _ _ _ h => absurd h (no vs H Q E)⟩
def R_said (n : Nat) (ds : List PyData) (d : PyData) : Prop := ∃ cs, ds = [.tuple (toDL cs)] ∧ okL cs ∧ depL cs < n ∧ (saiL cs).length ≤ 1000 ∧ d = intsD (saiL cs)
def R_unr (n : Nat) (ds : List PyData) (d : PyData) : Prop := ∃ cs, ds = [.tuple (toDL cs)] ∧ okL cs ∧ depL cs < n ∧ (unrL cs).length ≤ 1000 ∧ d = intsD (unrL cs)
def R_deep (n : Nat) (ds : List PyData) (d : PyData) : Prop := ∃ cs, ds = [.tuple (toDL cs)] ∧ okL cs ∧ depL cs < n ∧ (unrL cs).length ≤ 1000 ∧ d = .int (depL cs : Int)

theorem sc_appear : FnScope ["loop", "found", "item"] ["loop"] (defScope s_appear_in) := ⟨rfl, rfl, rfl, by decide +kernel, rfl, by decide +kernel, by decide +kernel⟩
theorem ok_appear_succ {n : Nat} (D : Def K mg "appear_in" s_appear_in ["loop"] f fd) (T : Top mg) (G : FnOk P w K mg base CX0 (n + 1) f fd ["loop"] (spR (R_said n))) : FnOk P w K mg base CX0 (n + 2) f fd ["loop"] (spR (R_said (n + 1))) := by
  refine D.okD sc_appear (fun ds d h => by obtain ⟨x, rfl, _⟩ := h; rfl) (fun cdv A outer s H vs Q E ds d hr h ha q => ?_)
  obtain ⟨cs, rfl, ok, dp, ln, rfl⟩ := h
  obtain ⟨v, rfl, hx⟩ := dall1 ha
  refine ⟨_, pss_cons (ps_set (i := 1) sc_appear.nd rfl (.inl rfl) (pe_tup pa_nil))
    (pss_cons (ps_for PassesOwn.never rfl (pi_tup (pv 0)) (pg_name (i := 2) sc_appear.nd rfl (.inl rfl))
      (pss_one (ps_set (i := 1) sc_appear.nd rfl (.inl rfl) (pe_op op_catA (pv 1) (pe_ifExp (pt_val (pe_callB call_isi rfl T.z_isinstance boot_isinstance (pa_cons (pv 2) (pa_cons (pe_bltn (v := .ty "tuple") rfl T.z_tuple boot_tuple rfl) pa_nil))))
        (pe_call G hr rfl D.g D.F.kp D.b .nil pass0 (pa_cons (pe_ix ix_tup (pv 2) pe_int (fun _ _ => rfl)) pa_nil)) (pe_tup (pa_cons (pv 2) pa_nil)))))))
    (pss_one (ps_ret (pv 1)))), ?_⟩
  refine qd_asg (d := intsD []) (ed_tup eds_nil (by decide)) fun v2 H2 e2 hd2 => ?_
  refine qd_forT (v := v) (ds := toDL cs) (hx.up e2) (Evl.ev_var rfl) (fun i σ' H' => Ex H2 H' ∧ ∃ vf y, σ' = [some v, some vf, y] ∧ DAt H' (intsD (saiL (cs.take i))) vf) ?_ ?_ ?_ ?_
  · intro H3 e3
    exact ⟨e3, v2, none, rfl, by rw [List.take_zero, saiL]; exact hd2.up e3⟩
  · intro i σ' H' p
    exact p.1
  · rintro i d xv σ' H' hi hd ⟨e3, vf, y, rfl, hf⟩
    obtain ⟨c, hc, rfl⟩ := toDL_get hi
    have okc := okL_mem.mp ok c (List.mem_of_getElem? hc)
    have dpc := dep_mem (List.mem_of_getElem? hc)
    have es : saiL (cs.take (i + 1)) = saiL (cs.take i) ++ sai c := by rw [List.take_add_one, hc]; simp [saiL_append, saiL]
    have l1 := saiL_take_le cs (i + 1)
    rw [es, List.length_append] at l1
    refine sd_asg (d := intsD (saiL (cs.take (i + 1)))) (ed_is (ed_op (dy := intsD (sai c)) (ed_var rfl hf) ?_ (rd_cat (by rw [List.length_map, List.length_map]; omega))) (by rw [es, ints_cat])) fun v3 H3 e4 hd3 => ⟨e3.trans e4, v3, some xv, rfl, hd3⟩
    refine ed_if (b := isTup (toD c)) (et_D (ed_isi (ed_var rfl hd) (kit_tuple (toD c)))) (fun hb => ?_) (fun hb => ?_)
    · cases c with
      | box j => simp [toD, isTup] at hb
      | rep t b =>
        rw [toD] at hd
        simp only [okC] at okc
        simp only [dep] at dpc
        exact ed_call (eds_cons (ed_op (ed_var rfl hd) ed_int (rd_ix (j := 1) rfl rfl)) eds_nil) ⟨b, rfl, okc.2.2.2, by omega, by simp only [sai] at l1; omega, by rw [sai]⟩
    · cases c with
      | rep t b => simp [toD, isTup] at hb
      | box j =>
        rw [toD] at hd
        exact ed_is (ed_tup (eds_cons (ed_var rfl hd) eds_nil) (by show 1 ≤ 100000; decide)) (by simp [sai])
  · rintro σ' H' ⟨e3, vf, y, rfl, hf⟩
    rw [toDL_length, List.take_of_length_le (Nat.le_refl _)] at hf
    exact sd_ret (ed_var rfl hf) fun v3 H3 e4 hd3 => q v3 H3 ((e2.trans e3).trans e4) hd3
theorem ok_appear (D : Def K mg "appear_in" s_appear_in ["loop"] f fd) (T : Top mg) : ∀ n : Nat, FnOk P w K mg base CX0 (n + 1) f fd ["loop"] (spR (R_said n))
  | 0 => none_ok fun ds d h => by obtain ⟨_, _, _, z, _⟩ := h; omega
  | n + 1 => ok_appear_succ D T (ok_appear D T n)

theorem sc_said : FnScope ["_law_loop_here", "_law_found", "_law_item"] ["_law_loop_here"] (defScope s_law_said) := ⟨rfl, rfl, rfl, by decide +kernel, rfl, by decide +kernel, by decide +kernel⟩
theorem ok_said_succ {n : Nat} (D : Def K mg "_law_said" s_law_said ["_law_loop_here"] f fd) (T : Top mg) (G : FnOk P w K mg base CX0 (n + 1) f fd ["_law_loop_here"] (spR (R_said n))) : FnOk P w K mg base CX0 (n + 2) f fd ["_law_loop_here"] (spR (R_said (n + 1))) := by
  refine D.okD sc_said (fun ds d h => by obtain ⟨x, rfl, _⟩ := h; rfl) (fun cdv A outer s H vs Q E ds d hr h ha q => ?_)
  obtain ⟨cs, rfl, ok, dp, ln, rfl⟩ := h
  obtain ⟨v, rfl, hx⟩ := dall1 ha
  refine ⟨_, pss_cons (ps_set (i := 1) sc_said.nd rfl (.inl rfl) (pe_tup pa_nil))
    (pss_cons (ps_for PassesOwn.never rfl (pi_tup (pv 0)) (pg_name (i := 2) sc_said.nd rfl (.inl rfl))
      (pss_one (ps_set (i := 1) sc_said.nd rfl (.inl rfl) (pe_op op_catA (pv 1) (pe_ifExp (pt_val (pe_callB call_isi rfl T.z_isinstance boot_isinstance (pa_cons (pv 2) (pa_cons (pe_bltn (v := .ty "tuple") rfl T.z_tuple boot_tuple rfl) pa_nil))))
        (pe_call G hr rfl D.g D.F.kp D.b .nil pass0 (pa_cons (pe_ix ix_tup (pv 2) pe_int (fun _ _ => rfl)) pa_nil)) (pe_tup (pa_cons (pv 2) pa_nil)))))))
    (pss_one (ps_ret (pv 1)))), ?_⟩
  refine qd_asg (d := intsD []) (ed_tup eds_nil (by decide)) fun v2 H2 e2 hd2 => ?_
  refine qd_forT (v := v) (ds := toDL cs) (hx.up e2) (Evl.ev_var rfl) (fun i σ' H' => Ex H2 H' ∧ ∃ vf y, σ' = [some v, some vf, y] ∧ DAt H' (intsD (saiL (cs.take i))) vf) ?_ ?_ ?_ ?_
  · intro H3 e3
    exact ⟨e3, v2, none, rfl, by rw [List.take_zero, saiL]; exact hd2.up e3⟩
  · intro i σ' H' p
    exact p.1
  · rintro i d xv σ' H' hi hd ⟨e3, vf, y, rfl, hf⟩
    obtain ⟨c, hc, rfl⟩ := toDL_get hi
    have okc := okL_mem.mp ok c (List.mem_of_getElem? hc)
    have dpc := dep_mem (List.mem_of_getElem? hc)
    have es : saiL (cs.take (i + 1)) = saiL (cs.take i) ++ sai c := by rw [List.take_add_one, hc]; simp [saiL_append, saiL]
    have l1 := saiL_take_le cs (i + 1)
    rw [es, List.length_append] at l1
    refine sd_asg (d := intsD (saiL (cs.take (i + 1)))) (ed_is (ed_op (dy := intsD (sai c)) (ed_var rfl hf) ?_ (rd_cat (by rw [List.length_map, List.length_map]; omega))) (by rw [es, ints_cat])) fun v3 H3 e4 hd3 => ⟨e3.trans e4, v3, some xv, rfl, hd3⟩
    refine ed_if (b := isTup (toD c)) (et_D (ed_isi (ed_var rfl hd) (kit_tuple (toD c)))) (fun hb => ?_) (fun hb => ?_)
    · cases c with
      | box j => simp [toD, isTup] at hb
      | rep t b =>
        rw [toD] at hd
        simp only [okC] at okc
        simp only [dep] at dpc
        exact ed_call (eds_cons (ed_op (ed_var rfl hd) ed_int (rd_ix (j := 1) rfl rfl)) eds_nil) ⟨b, rfl, okc.2.2.2, by omega, by simp only [sai] at l1; omega, by rw [sai]⟩
    · cases c with
      | rep t b => simp [toD, isTup] at hb
      | box j =>
        rw [toD] at hd
        exact ed_is (ed_tup (eds_cons (ed_var rfl hd) eds_nil) (by show 1 ≤ 100000; decide)) (by simp [sai])
  · rintro σ' H' ⟨e3, vf, y, rfl, hf⟩
    rw [toDL_length, List.take_of_length_le (Nat.le_refl _)] at hf
    exact sd_ret (ed_var rfl hf) fun v3 H3 e4 hd3 => q v3 H3 ((e2.trans e3).trans e4) hd3
theorem ok_said (D : Def K mg "_law_said" s_law_said ["_law_loop_here"] f fd) (T : Top mg) : ∀ n : Nat, FnOk P w K mg base CX0 (n + 1) f fd ["_law_loop_here"] (spR (R_said n))
  | 0 => none_ok fun ds d h => by obtain ⟨_, _, _, z, _⟩ := h; omega
  | n + 1 => ok_said_succ D T (ok_said D T n)

/-! ### unrolled_in -/
theorem sc_unr : FnScope ["loop", "found", "item"] ["loop"] (defScope s_unrolled_in) := ⟨rfl, rfl, rfl, by decide +kernel, rfl, by decide +kernel, by decide +kernel⟩
theorem ok_unr_succ {n : Nat} (D : Def K mg "unrolled_in" s_unrolled_in ["loop"] f fd) (T : Top mg) (G : FnOk P w K mg base CX0 (n + 1) f fd ["loop"] (spR (R_unr n))) : FnOk P w K mg base CX0 (n + 2) f fd ["loop"] (spR (R_unr (n + 1))) := by
  refine D.okD sc_unr (fun ds d h => by obtain ⟨x, rfl, _⟩ := h; rfl) (fun cdv A outer s H vs Q E ds d hr h ha q => ?_)
  obtain ⟨cs, rfl, ok, dp, ln, rfl⟩ := h
  obtain ⟨v, rfl, hx⟩ := dall1 ha
  refine ⟨_, pss_cons (ps_set (i := 1) sc_unr.nd rfl (.inl rfl) (pe_tup pa_nil))
    (pss_cons (ps_for PassesOwn.never rfl (pi_tup (pv 0)) (pg_name (i := 2) sc_unr.nd rfl (.inl rfl))
      (pss_one (ps_set (i := 1) sc_unr.nd rfl (.inl rfl) (pe_op op_catA (pv 1) (pe_ifExp (pt_val (pe_callB call_isi rfl T.z_isinstance boot_isinstance (pa_cons (pv 2) (pa_cons (pe_bltn (v := .ty "tuple") rfl T.z_tuple boot_tuple rfl) pa_nil))))
        (pe_op op_repT (pe_call G hr rfl D.g D.F.kp D.b .nil pass0 (pa_cons (pe_ix ix_tup (pv 2) pe_int (fun _ _ => rfl)) pa_nil)) (pe_ix ix_tup (pv 2) pe_int (fun _ _ => rfl))) (pe_tup (pa_cons (pv 2) pa_nil)))))))
    (pss_one (ps_ret (pv 1)))), ?_⟩
  refine qd_asg (d := intsD []) (ed_tup eds_nil (by decide)) fun v2 H2 e2 hd2 => ?_
  refine qd_forT (v := v) (ds := toDL cs) (hx.up e2) (Evl.ev_var rfl) (fun i σ' H' => Ex H2 H' ∧ ∃ vf y, σ' = [some v, some vf, y] ∧ DAt H' (intsD (unrL (cs.take i))) vf) ?_ ?_ ?_ ?_
  · intro H3 e3
    exact ⟨e3, v2, none, rfl, by rw [List.take_zero, unrL]; exact hd2.up e3⟩
  · intro i σ' H' p
    exact p.1
  · rintro i d xv σ' H' hi hd ⟨e3, vf, y, rfl, hf⟩
    obtain ⟨c, hc, rfl⟩ := toDL_get hi
    have okc := okL_mem.mp ok c (List.mem_of_getElem? hc)
    have dpc := dep_mem (List.mem_of_getElem? hc)
    have es : unrL (cs.take (i + 1)) = unrL (cs.take i) ++ unr c := by rw [List.take_add_one, hc]; simp [unrL_append, unrL]
    have l1 := unrL_take_le cs (i + 1)
    rw [es, List.length_append] at l1
    refine sd_asg (d := intsD (unrL (cs.take (i + 1)))) (ed_is (ed_op (dy := intsD (unr c)) (ed_var rfl hf) ?_ (rd_cat (by rw [List.length_map, List.length_map]; omega))) (by rw [es, ints_cat])) fun v3 H3 e4 hd3 => ⟨e3.trans e4, v3, some xv, rfl, hd3⟩
    refine ed_if (b := isTup (toD c)) (et_D (ed_isi (ed_var rfl hd) (kit_tuple (toD c)))) (fun hb => ?_) (fun hb => ?_)
    · cases c with
      | box j => simp [toD, isTup] at hb
      | rep t b =>
        rw [toD] at hd
        obtain ⟨r1, r2, r3⟩ := rep_half okc
        simp only [okC] at okc
        simp only [dep] at dpc
        refine ed_is (ed_op (ed_call (eds_cons (ed_op (ed_var rfl hd) ed_int (rd_ix (j := 1) rfl rfl)) eds_nil) ⟨b, rfl, okc.2.2.2, by omega, by omega, rfl⟩) (ed_op (ed_var rfl hd) ed_int (rd_ix (j := 0) rfl rfl)) (rd_rep ?_ okc.1 (by omega) (by rw [List.length_map]; omega))) ?_
        · intro z
          have z := congrArg List.length z
          rw [List.length_map] at z
          simp at z
          rw [z] at r2
          simp at r2
        · rw [rep_map, unr]
    · cases c with
      | rep t b => simp [toD, isTup] at hb
      | box j =>
        rw [toD] at hd
        exact ed_is (ed_tup (eds_cons (ed_var rfl hd) eds_nil) (by show 1 ≤ 100000; decide)) (by simp [unr])
  · rintro σ' H' ⟨e3, vf, y, rfl, hf⟩
    rw [toDL_length, List.take_of_length_le (Nat.le_refl _)] at hf
    exact sd_ret (ed_var rfl hf) fun v3 H3 e4 hd3 => q v3 H3 ((e2.trans e3).trans e4) hd3
theorem ok_unr (D : Def K mg "unrolled_in" s_unrolled_in ["loop"] f fd) (T : Top mg) : ∀ n : Nat, FnOk P w K mg base CX0 (n + 1) f fd ["loop"] (spR (R_unr n))
  | 0 => none_ok fun ds d h => by obtain ⟨_, _, _, z, _⟩ := h; omega
  | n + 1 => ok_unr_succ D T (ok_unr D T n)

/-! ### _law_unrolled -/
theorem sc_lun : FnScope ["_law_loop_here", "_law_found", "_law_item", "_law_turn"] ["_law_loop_here"] (defScope s_law_unrolled) := ⟨rfl, rfl, rfl, by decide +kernel, rfl, by decide +kernel, by decide +kernel⟩
theorem ok_lun_succ {n : Nat} (D : Def K mg "_law_unrolled" s_law_unrolled ["_law_loop_here"] f fd) (T : Top mg) (G : FnOk P w K mg base CX0 (n + 1) f fd ["_law_loop_here"] (spR (R_unr n))) : FnOk P w K mg base CX0 (n + 2) f fd ["_law_loop_here"] (spR (R_unr (n + 1))) := by
  refine D.okD sc_lun (fun ds d h => by obtain ⟨x, rfl, _⟩ := h; rfl) (fun cdv A outer s H vs Q E ds d hr h ha q => ?_)
  obtain ⟨cs, rfl, ok, dp, ln, rfl⟩ := h
  obtain ⟨v, rfl, hx⟩ := dall1 ha
  refine ⟨_, pss_cons (ps_set (i := 1) sc_lun.nd rfl (.inl rfl) (pe_tup pa_nil))
    (pss_cons (ps_for PassesOwn.never rfl (pi_tup (pv 0)) (pg_name (i := 2) sc_lun.nd rfl (.inl rfl))
      (pss_cons (ps_for PassesOwn.never rfl (pi_range1 rfl T.z_range (pa_cons (pe_ifExp (pt_val (pe_callB call_isi rfl T.z_isinstance boot_isinstance (pa_cons (pv 2) (pa_cons (pe_bltn (v := .ty "tuple") rfl T.z_tuple boot_tuple rfl) pa_nil)))) (pe_ix ix_tup (pv 2) pe_int (fun _ _ => rfl)) pe_int) pa_nil)) (pg_name (i := 3) sc_lun.nd rfl (.inl rfl))
          (pss_one (ps_set (i := 1) sc_lun.nd rfl (.inl rfl) (pe_op op_catA (pv 1) (pe_call G hr rfl D.g D.F.kp D.b .nil pass0 (pa_cons (pe_ix ix_tup (pv 2) pe_int (fun _ _ => rfl)) pa_nil))))))
        (pss_one (ps_set (i := 1) sc_lun.nd rfl (.inl rfl) (pe_op op_catA (pv 1) (pe_ifExp (pt_val (pe_callB call_isi rfl T.z_isinstance boot_isinstance (pa_cons (pv 2) (pa_cons (pe_bltn (v := .ty "tuple") rfl T.z_tuple boot_tuple rfl) pa_nil))))
          (pe_tup pa_nil) (pe_tup (pa_cons (pv 2) pa_nil))))))))
    (pss_one (ps_ret (pv 1)))), ?_⟩
  refine qd_asg (d := intsD []) (ed_tup eds_nil (by decide)) fun v2 H2 e2 hd2 => ?_
  refine qd_forT (v := v) (ds := toDL cs) (hx.up e2) (Evl.ev_var rfl) (fun i σ' H' => Ex H2 H' ∧ ∃ vf y z, σ' = [some v, some vf, y, z] ∧ DAt H' (intsD (unrL (cs.take i))) vf) ?_ ?_ ?_ ?_
  · intro H3 e3
    exact ⟨e3, v2, none, none, rfl, by rw [List.take_zero, unrL]; exact hd2.up e3⟩
  · intro i σ' H' p
    exact p.1
  · rintro i d xv σ' H' hi hd ⟨e3, vf, y, z, rfl, hf⟩
    obtain ⟨c, hc, rfl⟩ := toDL_get hi
    have okc := okL_mem.mp ok c (List.mem_of_getElem? hc)
    have dpc := dep_mem (List.mem_of_getElem? hc)
    have es : unrL (cs.take (i + 1)) = unrL (cs.take i) ++ unr c := by rw [List.take_add_one, hc]; simp [unrL_append, unrL]
    have l1 := unrL_take_le cs (i + 1)
    rw [es, List.length_append] at l1
    cases c with
    | box j =>
      rw [toD] at hd
      simp only [unr, List.length_singleton] at l1
      refine Evl.q_forR1 (n := 0) (Evl.ea_cons (EvD.int (ed_if (b := false) (et_D (ed_isi (ed_var rfl hd) (kit_tuple (.int j)))) (fun c => nomatch c) (fun _ => ed_int))) Evl.ea_nil) (by decide) (fun k σ' H'' => Ex H' H'' ∧ ∃ z, σ' = [some v, some vf, some xv, z]) ?_ ?_ ?_
      · intro H4 e4
        exact ⟨e4, z, rfl⟩
      · intro k σ' H'' hk
        exact absurd hk (by omega)
      · rintro σ' H4 ⟨e4, z', rfl⟩
        refine sd_asg (d := intsD (unrL (cs.take (i + 1)))) (ed_is (ed_op (ed_var rfl (hf.up e4)) (ed_if (b := false) (et_D (ed_isi (ed_var rfl (hd.up e4)) (kit_tuple (.int j)))) (fun c => nomatch c) (fun _ => ed_tup (eds_cons (ed_var rfl (hd.up e4)) eds_nil) (by show 1 ≤ 100000; decide))) (rd_cat (by rw [List.length_map]; show _ + 1 ≤ _; omega))) (by rw [es, unr]; exact ints_cat _ [j])) fun v3 H3 e5 hd3 => ⟨(e3.trans e4).trans e5, v3, some xv, z', rfl, hd3⟩
    | rep t b =>
      rw [toD] at hd
      obtain ⟨r1, r2, r3⟩ := rep_half okc
      simp only [okC] at okc
      simp only [dep] at dpc
      refine Evl.q_forR1 (n := t) (Evl.ea_cons (EvD.int (ed_if (b := true) (et_D (ed_isi (ed_var rfl hd) (kit_tuple _))) (fun _ => ed_op (ed_var rfl hd) ed_int (rd_ix (j := 0) rfl rfl)) (fun c => nomatch c))) Evl.ea_nil) (by omega) (fun k σ' H'' => Ex H' H'' ∧ ∃ vf z, σ' = [some v, some vf, some xv, z] ∧ DAt H'' (intsD (unrL (cs.take i) ++ (List.replicate k (unrL b)).flatten)) vf) ?_ ?_ ?_
      · intro H4 e4
        refine ⟨e4, vf, z, rfl, ?_⟩
        have z : (List.replicate 0 (unrL b)).flatten = [] := rfl
        rw [z, List.append_nil]
        exact hf.up e4
      · rintro k σ' H4 hk ⟨e4, vf', z', rfl, hf4⟩
        have hd4 := hd.up e4
        have l2 : (k + 1) * (unrL b).length ≤ t.toNat * (unrL b).length := Nat.mul_le_mul_right _ (by omega)
        have l3 : (k + 1) * (unrL b).length = k * (unrL b).length + (unrL b).length := by rw [Nat.succ_mul]
        refine sd_asg (d := intsD (unrL (cs.take i) ++ (List.replicate (k + 1) (unrL b)).flatten)) (ed_is (ed_op (ed_var rfl hf4) (ed_call (eds_cons (ed_op (ed_var rfl hd4) ed_int (rd_ix (j := 1) rfl rfl)) eds_nil) ⟨b, rfl, okc.2.2.2, by omega, by omega, rfl⟩) (rd_cat (by rw [List.length_map, List.length_map, List.length_append, len_rep]; omega))) ?_) fun v3 H3 e5 hd3 => ⟨e4.trans e5, v3, some (.int (k : Int)), rfl, hd3⟩
        rw [List.replicate_succ', List.flatten_append, ← List.map_append]
        simp [List.append_assoc]
      · rintro σ' H4 ⟨e4, vf', z', rfl, hf4⟩
        refine sd_asg (d := intsD (unrL (cs.take (i + 1)))) (ed_is (ed_op (ed_var rfl hf4) (ed_if (b := true) (et_D (ed_isi (ed_var rfl (hd.up e4)) (kit_tuple _))) (fun _ => ed_tup (ds := []) eds_nil (by decide)) (fun c => nomatch c)) (rd_cat (by rw [List.length_map, List.length_append, len_rep]; show _ + 0 ≤ _; omega))) ?_) fun v3 H3 e5 hd3 => ⟨(e3.trans e4).trans e5, v3, some xv, z', rfl, hd3⟩
        rw [es, unr, List.append_nil]
  · rintro σ' H' ⟨e3, vf, y, z, rfl, hf⟩
    rw [toDL_length, List.take_of_length_le (Nat.le_refl _)] at hf
    exact sd_ret (ed_var rfl hf) fun v3 H3 e4 hd3 => q v3 H3 ((e2.trans e3).trans e4) hd3
theorem ok_lun (D : Def K mg "_law_unrolled" s_law_unrolled ["_law_loop_here"] f fd) (T : Top mg) : ∀ n : Nat, FnOk P w K mg base CX0 (n + 1) f fd ["_law_loop_here"] (spR (R_unr n))
  | 0 => none_ok fun ds d h => by obtain ⟨_, _, _, z, _⟩ := h; omega
  | n + 1 => ok_lun_succ D T (ok_lun D T n)

/-! ### deep_in -/
theorem sc_deep : FnScope ["loop", "item"] ["loop"] (defScope s_deep_in) := ⟨rfl, rfl, rfl, by decide +kernel, rfl, by decide +kernel, by decide +kernel⟩
theorem rd_catL {H : Hp} {xs ys : List PyData} (hl : xs.length + ys.length ≤ 100000) : RD2 rCat H (.list xs) (.list ys) (.list (xs ++ ys)) := fun x y H1 _ hx hy Q q => by
  obtain ⟨p, us, h1, h2, h3⟩ := lst_dat hx
  obtain ⟨p', ws, g1, g2, g3⟩ := lst_dat hy
  subst h1 g1
  have l1 := h3.length
  have l2 := g3.length
  exact ⟨p, p', us, ws, rfl, rfl, h2, g2, Evl.sz_of (by omega), fun n hn => q _ _ (Ex.new hn) (dat_lst upd_same ((h3.append g3).up (Ex.new hn)))⟩
theorem ed_max {te : TE} {σ : L2.St} {H : Hp} {ns : List Int} {m : Int} (h : EvD te σ H (.list (ns.map .int))) (hm : m ∈ ns) (hx : ∀ y ∈ ns, y ≤ m) : EvD (tCB (rMax K) (tCons te tNil)) σ H (.int m) := fun H1 e _ q =>
  h H1 e _ fun v H2 e2 hd => by
    obtain ⟨p, xs, h1, h2, h3⟩ := lst_dat hd
    subst h1
    rw [ints_dall ns xs h3] at h2
    refine ⟨p, ns, rfl, SqL.of h2, List.length_pos_of_mem hm, fun m' g1 g2 => q _ H2 e2 ?_⟩
    have a := g2 m hm
    have b := hx m' g1
    have z : m' = m := by omega
    rw [z]
    exact dat_int
/-- the depths of the stretches, one more each -/
def one_more : C → List Int
  | .box _ => []
  | .rep _ b => [1 + (depL b : Int)]
theorem deep_mem : ∀ cs : List C, (depL cs : Int) ∈ (0 :: (cs.map one_more).flatten) ∧ ∀ y ∈ (0 :: (cs.map one_more).flatten), y ≤ (depL cs : Int)
  | [] => by simp [depL]
  | .box j :: cs => by
    have q := deep_mem cs
    have e : depL (.box j :: cs) = depL cs := by simp [depL, dep]
    rw [e]
    simpa [one_more] using q
  | .rep t b :: cs => by
    obtain ⟨q1, q2⟩ := deep_mem cs
    have e : depL (.rep t b :: cs) = max (depL b + 1) (depL cs) := by simp [depL, dep]
    rw [e]
    simp only [List.map_cons, one_more, List.flatten_cons, List.singleton_append, List.mem_cons] at q1 q2 ⊢
    refine ⟨?_, fun y hy => ?_⟩
    · by_cases c : depL cs ≤ depL b + 1
      · rw [Nat.max_eq_left c]
        exact .inr (.inl (by omega))
      · rw [Nat.max_eq_right (by omega)]
        rcases q1 with q1 | q1
        · exact .inl q1
        · exact .inr (.inr q1)
    · rcases hy with hy | hy | hy
      · omega
      · omega
      · have := q2 y (.inr hy)
        omega
/-- t[i] within a comprehension's block -/
theorem cixT {X : Cx} {K : PySem.W.Frag} (h : X.K = K) : IxR X (rIxT K) := by
  subst h
  exact ix_tup
theorem one_more_len (cs : List C) : ((cs.map one_more).flatten).length ≤ cs.length := by
  induction cs with
  | nil => simp
  | cons c cs ih =>
    rw [List.map_cons, List.flatten_cons, List.length_append, List.length_cons]
    cases c <;> simp only [one_more, List.length_nil, List.length_singleton] <;> omega
/-- a comprehension over looped code: an item gives nothing, or one int -/
theorem ed_lcC {σ : L2.St} {H : Hp} {tl te : TE} {t : TT} {v : V} {j : Nat} {vs : List Nat} (cs : List C) (g : C → List Int) (hv : DAt H (.tuple (toDL cs)) v) (h : Ev tl σ H v) (hl : cs.length ≤ 50000)
    (hw : ∀ x, wipe ((wipe σ vs).set j (some x)) vs = wipe σ vs) (ht : ∀ c ∈ cs, ∀ x H1, Ex H H1 → DAt H1 (toD c) x → (g c = [] ∧ EvT t ((wipe σ vs).set j (some x)) H1 false) ∨ ∃ z, g c = [z] ∧ EvT t ((wipe σ vs).set j (some x)) H1 true ∧ EvD te ((wipe σ vs).set j (some x)) H1 (.int z)) :
    EvD (tLc (iTup K tl) (gName j) t te vs) σ H (.list (((cs.map g).flatten).map .int)) := fun H0 e Q q =>
  h H0 e _ fun H1 e1 => by
    obtain ⟨p, xs, h1, h2, h3⟩ := tup_dat (hv.up (e.trans e1))
    subst h1
    have len := h3.length
    rw [toDL_length] at len
    refine ⟨p, rfl, ⟨xs, SqT.of h2⟩, fun Dl hD => ?_⟩
    refine lc_tup (xs := xs) (fun i H' => Ex H1 H' ∧ ∃ acc, H' Dl = some (.lst (acc.map V.int)) ∧ acc = ((cs.take i).map g).flatten ∧ acc.length ≤ i) ⟨Ex.new hD, [], upd_same, rfl, Nat.le_refl _⟩ (fun i H' _ ⟨q1, _⟩ => SqT.of (q1 p _ h2)) ?_ ?_
    · rintro i x H' hx ⟨q1, acc, q2, q3, q4⟩
      obtain ⟨d, g1, g2⟩ := h3.get hx
      obtain ⟨c, hc, rfl⟩ := toDL_get g1
      have hm := List.mem_of_getElem? hc
      have hi : i < cs.length := (List.getElem?_eq_some_iff.mp hc).1
      have ez : ((cs.take (i + 1)).map g).flatten = acc ++ g c := by rw [List.take_add_one, hc, q3]; simp
      refine ⟨hw x, ?_⟩
      rcases ht c hm x H' ((e.trans e1).trans q1) (g2.up q1) with ⟨z1, z2⟩ | ⟨z, z1, z2, z3⟩
      · refine z2 H' (Ex.refl H') _ fun H3 e3 => iteF ⟨q1.trans e3, acc, e3 _ _ q2, ?_, by omega⟩
        rw [ez, z1, List.append_nil]
      · refine z2 H' (Ex.refl H') _ fun H3 e3 => iteT (z3 H3 e3 _ fun y H4 e4 hy => ?_)
        have hy' := int_dat hy
        subst hy'
        refine ⟨_, e4 _ _ (e3 _ _ q2), ?_, Evl.Ex.mut ((q1.trans e3).trans e4) hD, acc ++ [z], ?_, ?_, ?_⟩
        · rw [List.length_map]
          exact Evl.sz_lt (by omega)
        · rw [upd_same, List.map_append]
          rfl
        · rw [ez, z1]
        · rw [List.length_append, List.length_singleton]
          omega
    · rintro H' ⟨q1, acc, q2, q3, q4⟩
      rw [len, List.take_of_length_le (Nat.le_refl _)] at q3
      subst q3
      exact q _ H' (e1.trans q1) (dat_lst q2 (dall_ints _))
theorem ok_deep_succ {n : Nat} (D : Def K mg "deep_in" s_deep_in ["loop"] f fd) (T : Top mg) (G : FnOk P w K mg base CX0 (n + 1) f fd ["loop"] (spR (R_deep n))) : FnOk P w K mg base CX0 (n + 2) f fd ["loop"] (spR (R_deep (n + 1))) := by
  refine D.okD sc_deep (fun ds d h => by obtain ⟨x, rfl, _⟩ := h; rfl) (fun cdv A outer s H vs Q E ds d hr h ha q => ?_)
  obtain ⟨cs, rfl, ok, dp, ln, rfl⟩ := h
  obtain ⟨v, rfl, hx⟩ := dall1 ha
  have lc := len_le_unr ok
  refine ⟨_, pss_one (ps_ret (pe_callB (cr_max rfl) rfl T.z_max (by decide +kernel) (pa_cons (pe_op op_cat (pe_lst (pa_cons pe_int pa_nil))
    (pe_lc (own := [("item", 1)]) (g := gName 1) rfl sc_deep.nd (pi_tup (pv 0)) (blkOk_by (N := ["loop", "item"]) (sc := defScope s_deep_in) (by decide +kernel)) (fun _ _ _ _ _ => pg_name (i := 1) sc_deep.nd rfl (Or.inl rfl))
      (fun _ _ _ _ _ => pts_one (pt_val (pe_callB (cisi (K := K) rfl) rfl T.z_isinstance boot_isinstance (pa_cons (pv 1) (pa_cons (pe_bltn (v := .ty "tuple") rfl T.z_tuple boot_tuple rfl) pa_nil)))))
      (fun _ _ _ _ _ => pe_op op_add pe_int (pe_call G hr rfl D.g D.F.kp D.b .nil pass0 (pa_cons (pe_ix (cixT (K := K) rfl) (pv 1) pe_int (fun _ _ => rfl)) pa_nil))))) pa_nil))), ?_⟩
  refine sd_ret (d := .int (depL cs : Int)) ?_ q
  have mem := deep_mem cs
  refine ed_max (ns := 0 :: (cs.map one_more).flatten) ?_ mem.1 mem.2
  refine ed_is (ed_op (ed_lst (ds := [.int 0]) (eds_cons ed_int eds_nil) (by show 1 ≤ 100000; decide)) (ed_lcC cs one_more hx (Evl.ev_var rfl) (by omega) (fun _ => rfl) ?_) (rd_catL ?_)) ?_
  · intro c hc x H1 e1 hd
    have okc := okL_mem.mp ok c hc
    have dpc := dep_mem hc
    have lnc := len_unrL_mem hc
    cases c with
    | box j => exact .inl ⟨rfl, et_D (ed_isi (ed_var rfl hd) (kit_tuple _))⟩
    | rep t b =>
      rw [toD] at hd
      obtain ⟨r1, r2, r3⟩ := rep_half okc
      simp only [okC] at okc
      simp only [dep] at dpc
      exact .inr ⟨_, rfl, et_D (ed_isi (ed_var rfl hd) (kit_tuple _)), ed_op ed_int (ed_call (d := .int (depL b : Int)) (eds_cons (ed_op (ed_var rfl hd) ed_int (rd_ix (j := 1) rfl rfl)) eds_nil) ⟨b, rfl, okc.2.2.2, by omega, by omega, rfl⟩) (rd_I0 fun _ => dat_int)⟩
  · have l := one_more_len cs
    rw [List.length_map]
    show 1 + _ ≤ _
    omega
  · rfl
theorem ok_deep (D : Def K mg "deep_in" s_deep_in ["loop"] f fd) (T : Top mg) : ∀ n : Nat, FnOk P w K mg base CX0 (n + 1) f fd ["loop"] (spR (R_deep n))
  | 0 => none_ok fun ds d h => by obtain ⟨_, _, _, z, _⟩ := h; omega
  | n + 1 => ok_deep_succ D T (ok_deep D T n)
end

end
end RF
namespace RF
section
open PySem L2 PyProof.Rows
open Evl (Ex Ev EvT EvA EvO)
/-! best_fold, folds_of -/
/-! ### dicts by tuples of ints -/
def keyI (ks : List Int) : List Key := ks.map Sum.inl
theorem keyI_kV : ∀ ks : List Int, ks.map V.int = (keyI ks).map kV
  | [] => rfl
  | k :: ks => congrArg (V.int k :: ·) (keyI_kV ks)
theorem keyI_inj : ∀ {a b : List Int}, keyI a = keyI b → a = b
  | [], [], _ => rfl
  | [], _ :: _, h => by simp [keyI] at h
  | _ :: _, [], h => by simp [keyI] at h
  | a :: as, b :: bs, h => by
    simp only [keyI, List.map_cons, List.cons.injEq, Sum.inl.injEq] at h
    rw [h.1, keyI_inj (a := as) (b := bs) h.2]
theorem ints_key {H : Hp} {ks : List Int} {v : V} (h : DAt H (intsD ks) v) : ∃ b, v = .ref b ∧ H b = some (.tup ((keyI ks).map kV)) := by
  obtain ⟨p, h1, h2⟩ := ints_dat h
  exact ⟨p, h1, keyI_kV ks ▸ h2⟩
section
variable {σ : L2.St} {H : Hp} {td ty : TE} {d : PyData} {D : Ends} {tz : TS}
theorem ed_dget {bd : Addr} {kvs : List (List Key × V)} {ks : List Int} {v0 : V} (h : Ev td σ H (.ref bd)) (hd : H bd = some (.dT kvs)) (hk : EvD ty σ H (intsD ks)) (hv : valV kvs (keyI ks) = some v0) (hdat : DAt H d v0) : EvD (tDGet td ty) σ H d := fun H1 e Q q =>
  h H1 e _ fun H2 e2 => hk H2 (e.trans e2) _ fun y H3 e3 hy => by
    obtain ⟨b, h1, h2⟩ := ints_key hy
    subst h1
    have e13 := e2.trans e3
    refine ⟨bd, v0, rfl, ?_, q v0 H3 e13 (hdat.up (e.trans e13))⟩
    rw [← hv]
    exact DGet.t ((e.trans e13) _ _ hd) h2
theorem qd_par {i j : Nat} {ta : TA} {d1 d2 : PyData} (h : EvDs ta σ H [d1, d2]) (k : ∀ v w H1, Ex H H1 → DAt H1 d1 v → DAt H1 d2 w → tz D ((σ.set i (some v)).set j (some w)) H1) : tSeq (tPar i j ta) tz D σ H :=
  h H (Ex.refl H) _ fun vs H1 e1 hs => by
    obtain ⟨v, w, h1, h2, h3⟩ := dall2 hs
    exact ⟨v, w, h1, k v w H1 e1 h2 h3⟩
end
theorem toDL_append (a b : List C) : toDL (a ++ b) = toDL a ++ toDL b := by
  rw [toDL_map, toDL_map, toDL_map, List.map_append]
/-! ### what the table holds -/
def Code (cs : List C) (s : Nat) : Prop := okL cs ∧ (unrL cs).length = s ∧ depL cs + 1 ≤ s
abbrev pairD (x : Int) (cs : List C) : PyData := .tuple [.int x, .tuple (toDL cs)]
def subw (w : List Int) (a s : Nat) : List Int := (w.drop a).take s
theorem subw_len {w : List Int} {a s : Nat} (h : a + s ≤ w.length) : (subw w a s).length = s := by
  unfold subw
  rw [List.length_take, List.length_drop]
  omega
theorem subw_take {w : List Int} {a s i : Nat} (h : i ≤ s) : (subw w a s).take i = subw w a i := by
  unfold subw
  rw [List.take_take, Nat.min_eq_left h]
theorem subw_drop {w : List Int} {a s i : Nat} : (subw w a s).drop i = subw w (a + i) (s - i) := by
  unfold subw
  rw [List.drop_take, List.drop_drop]
def Best (H : Hp) (w : List Int) (a s : Nat) (v : V) : Prop := ∃ cs, Code cs s ∧ DAt H (pairD (F (subw w a s)) cs) v
def Filled (H : Hp) (kvs : List (List Key × V)) (w : List Int) (S : Nat) : Prop := ∀ a s : Nat, 1 ≤ s → s < S → a + s ≤ w.length → ∃ v, valV kvs (keyI [(a : Int), (s : Int)]) = some v ∧ Best H w a s v
theorem pair_keep {H H' : Hp} (e : KeepT H H') {x : Int} {cs : List C} {v : V} (h : DAt H (pairD x cs) v) : DAt H' (pairD x cs) v := by
  obtain ⟨p, xs, h1, h2, h3⟩ := tup_dat h
  obtain ⟨y, z, h4, h5, h6⟩ := dall2 h3
  subst h1 h4
  rw [int_dat h5] at h2
  exact dat_tup (e _ _ h2) (dall_cons dat_int (dall_cons (dat_code_keep e h6) dall_nil))
theorem ex_keep {H H' : Hp} (e : Ex H H') : KeepT H H' := fun p xs h => e p _ h
theorem Filled.keep {H H' : Hp} {kvs : List (List Key × V)} {w : List Int} {S : Nat} (h : Filled H kvs w S) (e : KeepT H H') : Filled H' kvs w S := fun a s h1 h2 h3 => by
  obtain ⟨v, g1, cs, g2, g3⟩ := h a s h1 h2 h3
  exact ⟨v, g1, cs, g2, pair_keep e g3⟩
def spBest : Sp := fun vs H Q _ => ∃ (w : List Int) (a s : Nat) (bd : Addr) (vw : V) (kvs : List (List Key × V)), vs = [vw, .int (a : Int), .int (s : Int), .ref bd] ∧ DAt H (intsD w) vw ∧ w.length ≤ 10 ∧ (∀ i ∈ w, 0 ≤ i ∧ i < 8) ∧ 1 ≤ s ∧ a + s ≤ w.length ∧
  H bd = some (.dT kvs) ∧ Filled H kvs w s ∧ ∀ v H2, Ex H H2 → Best H2 w a s v → Q v H2
section
variable {P : Program} {w : World} {K : PySem.W.Frag} {mg : Str → Option Value} {base : Heap} {f f1 : Addr} {fd fd1 : FuncData}
theorem sc_best : FnScope ["word", "at", "size", "best", "found", "cut", "left", "right", "part", "inner"] ["word", "at", "size", "best"] (defScope s_best_fold) := ⟨rfl, rfl, rfl, by decide +kernel, rfl, by decide +kernel, by decide +kernel⟩
theorem Code.append {a b : List C} {s t : Nat} (h : Code a s) (g : Code b t) (hs : 1 ≤ s) (ht : 1 ≤ t) : Code (a ++ b) (s + t) := by
  obtain ⟨h1, h2, h3⟩ := h
  obtain ⟨g1, g2, g3⟩ := g
  refine ⟨(okL_append a b).mpr ⟨h1, g1⟩, ?_, ?_⟩
  · rw [unrL_append, List.length_append, h2, g2]
  · rw [depL_append]
    omega
theorem Code.rep {b : List C} {p s : Nat} (h : Code b p) (hp : 1 ≤ p) (hd : s % p = 0) (hlt : p < s) (hs : s ≤ 999) : Code [.rep ((s / p : Nat) : Int) b] s := by
  obtain ⟨h1, h2, h3⟩ := h
  have e : p * (s / p) = s := by
    have z := Nat.div_add_mod s p
    rw [hd] at z
    exact z
  have h2q : 2 ≤ s / p := by
    rcases Nat.lt_or_ge (s / p) 2 with c | c
    · have z : p * (s / p) ≤ p * 1 := Nat.mul_le_mul_left _ (by omega)
      omega
    · exact c
  have hq : s / p ≤ s := Nat.div_le_self _ _
  have nb : b ≠ [] := fun z => by
    subst z
    simp [unrL] at h2
    omega
  have okc : okC (.rep ((s / p : Nat) : Int) b) := by
    simp only [okC]
    exact ⟨by omega, by omega, nb, h1⟩
  refine ⟨?_, ?_, ?_⟩
  · simp only [okL, and_true]
    exact okc
  · simp only [unrL, List.append_nil]
    rw [(rep_half okc).2.2, h2]
    show ((s / p : Nat) : Int).toNat * p = s
    rw [Int.toNat_natCast, Nat.mul_comm]
    exact e
  · simp only [depL, dep]
    omega
theorem ok_best (D : Def K mg "best_fold" s_best_fold ["word", "at", "size", "best"] f fd) (T : Top mg) (D1 : Def K mg "deep_in" s_deep_in ["loop"] f1 fd1) : FnOk P w K mg base CX0 12 f fd ["word", "at", "size", "best"] spBest := by
  have G1 : FnOk P w K mg base CX0 11 f1 fd1 ["loop"] (spR (R_deep 10)) := ok_deep D1 T 10
  obtain ⟨t9, m9⟩ := T.c_MOST_TIMES
  obtain ⟨t8, m8⟩ := T.c_MOST_DEEP
  refine D.F.ok sc_best (fun vs H Q E h => by obtain ⟨_, _, _, _, _, _, rfl, _⟩ := h; rfl) (fun cdv A outer s H vs Q E hr h => ?_)
  obtain ⟨w, a, s, bd, vw, kvs, rfl, hw, lw, bw, s1, sw, hbd, fl, q⟩ := h
  refine ⟨_, pss_cons (ps_if (pt_cmpR op_eq (pv 2) pe_int (nomark _)) (pss_one (ps_ret (pe_tup (pa_cons pe_int (pa_cons (pe_tup (pa_cons (pe_ix ix_tup (pv 0) (pv 1) (fun _ _ => rfl)) pa_nil)) pa_nil))))) pss_nil)
    (pss_cons (ps_set (i := 4) sc_best.nd rfl (.inl rfl) pe_non)
    (pss_cons (ps_for PassesOwn.never rfl (pi_range2 rfl T.z_range (pa_cons pe_int (pa_cons (pv 2) pa_nil))) (pg_name (i := 5) sc_best.nd rfl (.inl rfl))
      (pss_cons (ps_par (i := 6) (j := 7) rfl sc_best.nd rfl rfl (by decide) rfl rfl (pa_cons (pe_dget (hu_of hr) (pv 3) (pe_tup (pa_cons (pv 1) (pa_cons (pv 5) pa_nil))) (fun _ _ => rfl))
          (pa_cons (pe_dget (hu_of hr) (pv 3) (pe_tup (pa_cons (pe_op op_add (pv 1) (pv 5)) (pa_cons (pe_op op_sub (pv 2) (pv 5)) pa_nil))) (fun _ _ => rfl)) pa_nil)) (by rfl))
      (pss_one (ps_if (PW.pt (pw_or (pt_cmpR op_isN (pv 4) pe_non (nomark _)) (pw_or1 (pt_cmpR op_lt (pe_op op_add (pe_ix ix_tup (pv 6) pe_int (fun _ _ => rfl)) (pe_ix ix_tup (pv 7) pe_int (fun _ _ => rfl))) (pe_ix ix_tup (pv 4) pe_int (fun _ _ => rfl)) (nomark _)))))
        (pss_one (ps_set (i := 4) sc_best.nd rfl (.inl rfl) (pe_tup (pa_cons (pe_op op_add (pe_ix ix_tup (pv 6) pe_int (fun _ _ => rfl)) (pe_ix ix_tup (pv 7) pe_int (fun _ _ => rfl)))
          (pa_cons (pe_op op_catA (pe_ix ix_tup (pv 6) pe_int (fun _ _ => rfl)) (pe_ix ix_tup (pv 7) pe_int (fun _ _ => rfl))) pa_nil))))) pss_nil))))
    (pss_cons (ps_for PassesOwn.never rfl (pi_range2 rfl T.z_range (pa_cons pe_int (pa_cons (pv 2) pa_nil))) (pg_name (i := 8) sc_best.nd rfl (.inl rfl))
      (pss_one (ps_if (PW.pt (pw_and (pt_cmpR op_eq (pe_op op_mod (pv 2) (pv 8)) pe_int (nomark _)) (pw_and1 (pt_cmpR (op_eqD hr.units) (pe_op op_repT (pe_slice sl_tupA (pv 0) (po_some (pv 1)) (po_some (pe_op op_add (pv 1) (pv 8)))) (pe_op op_fdiv (pv 2) (pv 8)))
          (pe_slice sl_tupA (pv 0) (po_some (pv 1)) (po_some (pe_op op_add (pv 1) (pv 2)))) (nomark _)))))
        (pss_cons (ps_set (i := 9) sc_best.nd rfl (.inl rfl) (pe_dget (hu_of hr) (pv 3) (pe_tup (pa_cons (pv 1) (pa_cons (pv 8) pa_nil))) (fun _ _ => rfl)))
        (pss_one (ps_if (PW.pt (pw_and (pt_cmpR op_lt (pe_ix ix_tup (pv 9) pe_int (fun _ _ => rfl)) (pe_ix ix_tup (pv 4) pe_int (fun _ _ => rfl)) (nomark _))
            (pw_and (pt_cmpR op_le (pe_op op_fdiv (pv 2) (pv 8)) (pe_glob (v := .int 999) rfl m9 ⟨_, rfl⟩) (nomark _))
            (pw_and1 (pt_cmpR op_lt (pe_call G1 hr rfl D1.g D1.F.kp D1.b .nil pass0 (pa_cons (pe_ix ix_tup (pv 9) pe_int (fun _ _ => rfl)) pa_nil)) (pe_glob (v := .int 8) rfl m8 ⟨_, rfl⟩) (nomark _))))))
          (pss_one (ps_set (i := 4) sc_best.nd rfl (.inl rfl) (pe_tup (pa_cons (pe_ix ix_tup (pv 9) pe_int (fun _ _ => rfl)) (pa_cons (pe_tup (pa_cons (pe_tup (pa_cons (pe_op op_fdiv (pv 2) (pv 8)) (pa_cons (pe_ix ix_tup (pv 9) pe_int (fun _ _ => rfl)) pa_nil))) pa_nil)) pa_nil))))) pss_nil))) pss_nil)))
    (pss_one (ps_ret (pv 4)))))), ?_⟩
  have da : ∀ H', DAt H' (.int (a : Int)) (.int (a : Int)) := fun _ => dat_int
  have dz : ∀ H', DAt H' (.int (s : Int)) (.int (s : Int)) := fun _ => dat_int
  have hb : ∀ {H' : Hp} {σ : L2.St} {y4 y5 y6 y7 y8 y9 : Option V}, σ = [some vw, some (.int (a : Int)), some (.int (s : Int)), some (.ref bd), y4, y5, y6, y7, y8, y9] → Ev (tVar 3) σ H' (.ref bd) := fun h => Evl.ev_var (by rw [h]; rfl)
  have sl := subw_len sw
  -- one sign alone
  refine Evl.q_when (b := decide ((s : Int) = 1)) (et_T (ed_op (ed_var rfl (dz H)) ed_int rd_eqI)) (fun g H1 e1 => ?_) (fun g H1 e1 => ?_)
  · have g := of_decide_eq_true g
    have g : s = 1 := by omega
    subst g
    have ha : a < w.length := by omega
    have es : subw w a 1 = [w[a]] := by
      unfold subw
      rw [List.drop_eq_getElem_cons ha]
      rfl
    have bo := bw _ (List.getElem_mem ha)
    refine sd_ret (d := pairD (F (subw w a 1)) [.box w[a]]) (ed_is (ed_tup (ds := [.int 1, .tuple [.int w[a]]]) (eds_cons ed_int (eds_cons (ed_tup (eds_cons (ed_op (ed_var rfl (hw.up e1)) (ed_var rfl (da _)) (rd_ix (j := a) (by rw [List.getElem?_map, List.getElem?_eq_getElem ha]; rfl) rfl)) eds_nil) (by show 1 ≤ 100000; decide)) eds_nil)) (by show 2 ≤ 100000; decide)) ?_) fun v H2 e2 hd => q v H2 (e1.trans e2) ⟨_, ⟨?_, rfl, Nat.le_refl _⟩, hd⟩
    · rw [es, F_small (show [w[a]].length < 2 from Nat.lt_succ_self 1)]
      simp [pairD, toDL, toD]
    · simp only [okL, okC, and_true]
      exact bo
  have g := of_decide_eq_false g
  have s2 : 2 ≤ s := by omega
  have mn := F_min (w := subw w a s) (by omega)
  unfold cands at mn
  rw [sl] at mn
  refine qd_asg ed_non fun v2 H2 e2 hd2 => ?_
  rw [non_dat hd2]
  clear hd2 v2
  have e2 := e1.trans e2
  -- the cuts
  refine Evl.q_forR2 (lo := 1) (n := (s : Int)) (Evl.ea_cons Evl.ev_c (Evl.ea_cons (Evl.ev_var rfl) Evl.ea_nil)) (by omega) (fun i σ' H' => Ex H H' ∧ ∃ vf y5 y6 y7, σ' = [some vw, some (.int (a : Int)), some (.int (s : Int)), some (.ref bd), some vf, y5, y6, y7, none, none] ∧
    ((i = 0 ∧ vf = .non) ∨ (1 ≤ i ∧ ∃ x cs, MinOf (cuts F (subw w a s) i) x ∧ Code cs s ∧ DAt H' (pairD x cs) vf))) ?_ ?_ ?_
  · intro H3 e3
    exact ⟨e2.trans e3, .non, none, none, none, rfl, .inl ⟨rfl, rfl⟩⟩
  · rintro i σ' H' hi ⟨e3, vf, y5, y6, y7, rfl, hf⟩
    have hi : i + 1 < s := by omega
    have ci : (1 : Int) + (i : Int) = ((i + 1 : Nat) : Int) := by omega
    rw [ci]
    have fl3 := fl.keep (ex_keep e3)
    obtain ⟨vl, l1, cl, l2, l3⟩ := fl3 a (i + 1) (by omega) hi (by omega)
    obtain ⟨vr, r1, cr, r2, r3⟩ := fl3 (a + (i + 1)) (s - (i + 1)) (by omega) (by omega) (by omega)
    refine qd_par (d1 := pairD (F (subw w a (i + 1))) cl) (d2 := pairD (F (subw w (a + (i + 1)) (s - (i + 1)))) cr) (eds_cons (ed_dget (ks := [(a : Int), ((i + 1 : Nat) : Int)]) (Evl.ev_var rfl) (e3 _ _ hbd) (ed_tup (eds_cons (ed_var rfl dat_int) (eds_cons (ed_var rfl dat_int) eds_nil)) (by show 2 ≤ 100000; decide)) l1 l3)
      (eds_cons (ed_dget (ks := [((a + (i + 1) : Nat) : Int), ((s - (i + 1) : Nat) : Int)]) (Evl.ev_var rfl) (e3 _ _ hbd) (ed_tup (eds_cons (ed_op (ed_var rfl dat_int) (ed_var rfl dat_int) (rd_I0 fun _ => ?_)) (eds_cons (ed_op (ed_var rfl dat_int) (ed_var rfl dat_int) (rd_I0 fun _ => ?_)) eds_nil)) (by show 2 ≤ 100000; decide)) r1 r3) eds_nil)) fun v w' H4 e4 hl hr' => ?_
    · rw [show (a : Int) + ((i + 1 : Nat) : Int) = ((a + (i + 1) : Nat) : Int) by omega]
      exact dat_int
    · rw [show (s : Int) - ((i + 1 : Nat) : Int) = ((s - (i + 1) : Nat) : Int) by omega]
      exact dat_int
    have et : (subw w a s).take (i + 1) = subw w a (i + 1) := subw_take (by omega)
    have ed : (subw w a s).drop (i + 1) = subw w (a + (i + 1)) (s - (i + 1)) := subw_drop
    have cc : Code (cl ++ cr) s := by
      have z := l2.append r2 (by omega) (by omega)
      rwa [show i + 1 + (s - (i + 1)) = s by omega] at z
    have sumI : ∀ {σ : L2.St} {H5 : Hp} {y4 y8 y9 : Option V}, σ = [some vw, some (.int (a : Int)), some (.int (s : Int)), some (.ref bd), y4, some (.int ((i + 1 : Nat) : Int)), some v, some w', y8, y9] → Ex H4 H5 →
        EvD (tOp (rI0 fun i j => .int (i + j)) (tOp (rIxT K) (tVar 6) (tC (.int 0))) (tOp (rIxT K) (tVar 7) (tC (.int 0)))) σ H5 (.int (F (subw w a (i + 1)) + F (subw w (a + (i + 1)) (s - (i + 1))))) := fun h e => by
      subst h
      exact ed_op (ed_op (ed_var rfl (hl.up e)) ed_int (rd_ix (j := 0) rfl rfl)) (ed_op (ed_var rfl (hr'.up e)) ed_int (rd_ix (j := 0) rfl rfl)) (rd_I0 fun _ => dat_int)
    have newF : ∀ {σ : L2.St} {H5 : Hp} {y4 y8 y9 : Option V}, σ = [some vw, some (.int (a : Int)), some (.int (s : Int)), some (.ref bd), y4, some (.int ((i + 1 : Nat) : Int)), some v, some w', y8, y9] → Ex H4 H5 →
        EvD (tTup (tCons (tOp (rI0 fun i j => .int (i + j)) (tOp (rIxT K) (tVar 6) (tC (.int 0))) (tOp (rIxT K) (tVar 7) (tC (.int 0)))) (tCons (tOp (rCatA K) (tOp (rIxT K) (tVar 6) (tC (.int 1))) (tOp (rIxT K) (tVar 7) (tC (.int 1)))) tNil))) σ H5
          (pairD (F (subw w a (i + 1)) + F (subw w (a + (i + 1)) (s - (i + 1)))) (cl ++ cr)) := fun h e => by
      have q1 := sumI h e
      subst h
      refine ed_tup (eds_cons q1 (eds_cons (ed_is (ed_op (ed_op (ed_var rfl (hl.up e)) ed_int (rd_ix (j := 1) rfl rfl)) (ed_op (ed_var rfl (hr'.up e)) ed_int (rd_ix (j := 1) rfl rfl)) (rd_cat ?_)) (by rw [toDL_append])) eds_nil)) (by show 2 ≤ 100000; decide)
      rw [toDL_length, toDL_length]
      have z1 := len_le_unr l2.1
      have z2 := len_le_unr r2.1
      have z3 := l2.2.1
      have z4 := r2.2.1
      omega
    have newM := cuts_succ F (subw w a s) i
    rw [et, ed] at newM
    rcases hf with ⟨i0, vf0⟩ | ⟨i1, x, cs, h1, h2, h3⟩
    · subst i0 vf0
      refine Evl.s_when (b := true) (Evl.et_or (a := true) (b := true) (et_T (ed_op (ed_var rfl dat_non) ed_non rd_isN)) fun c => nomatch c) (fun _ H5 e5 => ?_) (fun c => nomatch c)
      refine sd_asg (newF rfl e5) fun v6 H6 e6 hd6 => ⟨((e3.trans e4).trans e5).trans e6, v6, _, _, _, rfl, .inr ⟨by omega, _, _, ?_, cc, hd6⟩⟩
      rw [newM]
      exact MinOf.one _
    · refine Evl.s_when (b := decide (F (subw w a (i + 1)) + F (subw w (a + (i + 1)) (s - (i + 1))) < x)) (Evl.et_is (Evl.et_or (a := false) (et_T (ed_op (ed_var rfl (h3.up e4)) ed_non rd_isN)) fun _ => et_T (ed_op (sumI rfl (Ex.refl _)) (ed_op (ed_var rfl (h3.up e4)) ed_int (rd_ix (j := 0) rfl rfl)) (rd_I0 fun _ => dat_bl))) (Bool.false_or _)) (fun c H5 e5 => ?_) (fun c H5 e5 => ?_)
      · refine sd_asg (newF rfl e5) fun v6 H6 e6 hd6 => ⟨((e3.trans e4).trans e5).trans e6, v6, _, _, _, rfl, .inr ⟨by omega, _, _, ?_, cc, hd6⟩⟩
        have z := h1.snoc (x := F (subw w a (i + 1)) + F (subw w (a + (i + 1)) (s - (i + 1))))
        rw [if_pos (of_decide_eq_true c)] at z
        rw [newM]
        exact z
      · refine ⟨(e3.trans e4).trans e5, vf, _, _, _, rfl, .inr ⟨by omega, x, cs, ?_, h2, h3.up (e4.trans e5)⟩⟩
        have z := h1.snoc (x := F (subw w a (i + 1)) + F (subw w (a + (i + 1)) (s - (i + 1))))
        rw [if_neg (of_decide_eq_false c)] at z
        rw [newM]
        exact z
  rintro σ3 H3 ⟨e3, vf, y5, y6, y7, rfl, hf⟩
  have es1 : ((s : Int) - 1).toNat = s - 1 := by omega
  rw [es1] at hf
  obtain ⟨x, cs, h1, h2, h3⟩ : ∃ x cs, MinOf (cuts F (subw w a s) (s - 1)) x ∧ Code cs s ∧ DAt H3 (pairD x cs) vf := by
    rcases hf with ⟨z, _⟩ | ⟨_, h⟩
    · omega
    · exact h
  clear hf
  -- the parts
  refine Evl.q_forR2 (lo := 1) (n := (s : Int)) (Evl.ea_cons Evl.ev_c (Evl.ea_cons (Evl.ev_var rfl) Evl.ea_nil)) (by omega) (fun i σ' H' => Ex H H' ∧ ∃ vf y8 y9, σ' = [some vw, some (.int (a : Int)), some (.int (s : Int)), some (.ref bd), some vf, y5, y6, y7, y8, y9] ∧
    ∃ x cs, MinOf (cuts F (subw w a s) (s - 1) ++ parts F (subw w a s) i) x ∧ Code cs s ∧ DAt H' (pairD x cs) vf) ?_ ?_ ?_
  · intro H4 e4
    refine ⟨e3.trans e4, vf, none, none, rfl, x, cs, ?_, h2, h3.up e4⟩
    have z : parts F (subw w a s) 0 = [] := rfl
    rw [z, List.append_nil]
    exact h1
  · clear h1 h2 h3
    rintro i σ' H' hi ⟨e4, vf, y8, y9, rfl, x, cs, h1, h2, h3⟩
    have hi : i + 1 < s := by omega
    have ci : (1 : Int) + (i : Int) = ((i + 1 : Nat) : Int) := by omega
    rw [ci]
    have hw4 := hw.up e4
    have et : (subw w a s).take (i + 1) = subw w a (i + 1) := subw_take (by omega)
    have newP := parts_succ F (subw w a s) i
    rw [et] at newP
    have pd : period (subw w a s) (i + 1) = (decide (s % (i + 1) = 0) && decide (subw w a s = (List.replicate (s / (i + 1)) (subw w a (i + 1))).flatten)) := by
      unfold period
      rw [sl, et]
    have quo : ∀ {σ : L2.St} {H5 : Hp} {y4 y9 : Option V}, σ = [some vw, some (.int (a : Int)), some (.int (s : Int)), some (.ref bd), y4, y5, y6, y7, some (.int ((i + 1 : Nat) : Int)), y9] →
        EvD (tOp (rI CDiv fun i j => .int (i / j)) (tVar 2) (tVar 8)) σ H5 (.int ((s / (i + 1) : Nat) : Int)) := fun h => by
      subst h
      refine ed_op (ed_var rfl dat_int) (ed_var rfl dat_int) (rd_I ⟨by omega, by omega⟩ fun _ => ?_)
      rw [← Int.natCast_ediv]
      exact dat_int
    refine Evl.s_when (b := period (subw w a s) (i + 1)) ?_ (fun hp H5 e5 => ?_) (fun hp H5 e5 => ?_)
    · rw [pd]
      refine Evl.et_and (a := decide (s % (i + 1) = 0)) (Evl.et_is (et_T (ed_op (dx := .int ((s % (i + 1) : Nat) : Int)) (ed_op (ed_var rfl dat_int) (ed_var rfl dat_int) (rd_I (by omega) fun _ => ?_)) ed_int rd_eqI)) ?_) fun hm => ?_
      · rw [← Int.natCast_emod]
        exact dat_int
      · rw [Bool.eq_iff_iff, decide_eq_true_eq, decide_eq_true_eq]
        omega
      · have hm := of_decide_eq_true hm
        have hdv : (i + 1) * (s / (i + 1)) = s := by
          have z := Nat.div_add_mod s (i + 1)
          rw [hm] at z
          exact z
        have h2q : 2 ≤ s / (i + 1) := by
          rcases Nat.lt_or_ge (s / (i + 1)) 2 with c | c
          · have z : (i + 1) * (s / (i + 1)) ≤ (i + 1) * 1 := Nat.mul_le_mul_left _ (by omega)
            omega
          · exact c
        have hqs : s / (i + 1) ≤ s := Nat.div_le_self _ _
        have lp := subw_len (w := w) (a := a) (s := i + 1) (by omega)
        refine Evl.et_is (et_T (ed_op (dx := intsD ((List.replicate (s / (i + 1)) (subw w a (i + 1))).flatten)) (dy := intsD (subw w a s)) (ed_is (ed_op (dx := intsD (subw w a (i + 1))) (ed_is (ed_slice (ed_var rfl hw4) (eo_D (i := (a : Int)) (ed_var rfl dat_int)) (eo_D (i := (a : Int) + ((i + 1 : Nat) : Int)) (ed_op (ed_var rfl dat_int) (ed_var rfl dat_int) (rd_I0 fun _ => dat_int)))) ?_) (quo rfl) (rd_rep ?_ (by omega) (by omega) (by rw [List.length_map, lp]; omega))) ?_)
          (ed_is (ed_slice (ed_var rfl hw4) (eo_D (i := (a : Int)) (ed_var rfl dat_int)) (eo_D (i := (a : Int) + (s : Int)) (ed_op (ed_var rfl dat_int) (ed_var rfl dat_int) (rd_I0 fun _ => dat_int)))) ?_) rd_eqT)) ?_
        · rw [cutD_map, cutD_mid _ _ _ (by omega)]
          rfl
        · intro z
          have z := congrArg List.length z
          rw [List.length_map, lp] at z
          simp at z
        · rw [rep_map, Int.toNat_natCast]
        · rw [cutD_map, cutD_mid _ _ _ sw]
          rfl
        · rw [Bool.eq_iff_iff, decide_eq_true_eq, decide_eq_true_eq]
          exact eq_comm
    · rw [pd, Bool.and_eq_true] at hp
      have hm := of_decide_eq_true hp.1
      obtain ⟨vi, i1, ci, i2, i3⟩ := fl.keep (ex_keep (e4.trans e5)) a (i + 1) (by omega) hi (by omega)
      refine qd_asg (d := pairD (F (subw w a (i + 1))) ci) (ed_dget (ks := [(a : Int), ((i + 1 : Nat) : Int)]) (Evl.ev_var rfl) ((e4.trans e5) _ _ hbd) (ed_tup (eds_cons (ed_var rfl dat_int) (eds_cons (ed_var rfl dat_int) eds_nil)) (by show 2 ≤ 100000; decide)) i1 i3) fun v6 H6 e6 hd6 => ?_
      have hf6 := h3.up (e5.trans e6)
      have hp2 : period (subw w a s) (i + 1) = true := by rw [pd, Bool.and_eq_true]; exact hp
      rw [if_pos hp2] at newP
      have p5 : 2 * (i + 1) ≤ s := by
        have z := Nat.div_add_mod s (i + 1)
        rw [hm] at z
        rcases Nat.lt_or_ge (s / (i + 1)) 2 with c | c
        · have z2 : (i + 1) * (s / (i + 1)) ≤ (i + 1) * 1 := Nat.mul_le_mul_left _ (by omega)
          omega
        · have z2 : (i + 1) * 2 ≤ (i + 1) * (s / (i + 1)) := Nat.mul_le_mul_left _ c
          omega
      refine Evl.s_when (b := decide (F (subw w a (i + 1)) < x)) (Evl.et_is (Evl.et_and (a := decide (F (subw w a (i + 1)) < x)) (b := true) (et_T (ed_op (ed_op (ed_var rfl hd6) ed_int (rd_ix (j := 0) rfl rfl)) (ed_op (ed_var rfl hf6) ed_int (rd_ix (j := 0) rfl rfl)) (rd_I0 fun _ => dat_bl))) fun _ => Evl.et_and (a := true) (b := true) ?_ fun _ => ?_) (Bool.and_true _)) (fun c H7 e7 => ?_) (fun c H7 e7 => ?_)
      · refine Evl.et_is (et_T (ed_op (quo rfl) ed_int (rd_I0 fun _ => dat_bl))) (decide_eq_true ?_)
        have hqs : s / (i + 1) ≤ s := Nat.div_le_self _ _
        omega
      · have z := i2.2.1
        have z2 := i2.2.2
        refine Evl.et_is (et_T (ed_op (ed_call (d := .int (depL ci : Int)) (eds_cons (ed_op (ed_var rfl hd6) ed_int (rd_ix (j := 1) rfl rfl)) eds_nil) ⟨ci, rfl, i2.1, by omega, by omega, rfl⟩) ed_int (rd_I0 fun _ => dat_bl))) (decide_eq_true ?_)
        omega
      · refine sd_asg (d := pairD (F (subw w a (i + 1))) [.rep ((s / (i + 1) : Nat) : Int) ci]) (ed_is (ed_tup (eds_cons (ed_op (ed_var rfl (hd6.up e7)) ed_int (rd_ix (j := 0) rfl rfl)) (eds_cons (ed_tup (eds_cons (ed_tup (eds_cons (quo rfl) (eds_cons (ed_op (ed_var rfl (hd6.up e7)) ed_int (rd_ix (j := 1) rfl rfl)) eds_nil)) (by show 2 ≤ 100000; decide)) eds_nil) (by show 1 ≤ 100000; decide)) eds_nil)) (by show 2 ≤ 100000; decide)) (by simp [pairD, toDL, toD])) fun v8 H8 e8 hd8 => ⟨(((e4.trans e5).trans e6).trans e7).trans e8, v8, _, _, rfl, _, _, ?_, i2.rep (by omega) hm hi (by omega), hd8⟩
        have z := h1.snoc (x := F (subw w a (i + 1)))
        rw [if_pos (of_decide_eq_true c)] at z
        rw [newP, ← List.append_assoc]
        exact z
      · refine ⟨((e4.trans e5).trans e6).trans e7, vf, _, _, rfl, x, cs, ?_, h2, hf6.up e7⟩
        have z := h1.snoc (x := F (subw w a (i + 1)))
        rw [if_neg (of_decide_eq_false c)] at z
        rw [newP, ← List.append_assoc]
        exact z
    · refine ⟨e4.trans e5, vf, _, _, rfl, x, cs, ?_, h2, h3.up e5⟩
      rw [newP, if_neg (by rw [hp]; exact Bool.false_ne_true), List.append_nil]
      exact h1
  · clear h1 h2 h3
    rintro σ' H4 ⟨e4, vf, y8, y9, rfl, x, cs, h1, h2, h3⟩
    rw [es1] at h1
    rw [h1.uniq mn] at h3
    exact sd_ret (ed_var rfl h3) fun v H5 e5 hd => q v H5 (e4.trans e5) ⟨cs, h2, hd⟩
end
end
end RF
namespace RF
section
open PySem L2 PyProof.Rows
open Evl (Ex Ev EvT EvA EvO)
/-! folds_of, need_short, folded, shows_fold -/
def Fil (H : Hp) (kvs : List (List Key × V)) (w : List Int) (S A : Nat) : Prop := ∀ a s : Nat, 1 ≤ s → a + s ≤ w.length → (s < S ∨ (s = S ∧ a < A)) → ∃ v, valV kvs (keyI [(a : Int), (s : Int)]) = some v ∧ Best H w a s v
theorem Fil.keep {H H' : Hp} {kvs : List (List Key × V)} {w : List Int} {S A : Nat} (h : Fil H kvs w S A) (e : KeepT H H') : Fil H' kvs w S A := fun a s h1 h2 h3 => by
  obtain ⟨v, g1, cs, g2, g3⟩ := h a s h1 h2 h3
  exact ⟨v, g1, cs, g2, pair_keep e g3⟩
theorem Fil.filled {H : Hp} {kvs : List (List Key × V)} {w : List Int} {S A : Nat} (h : Fil H kvs w S A) : Filled H kvs w S := fun a s h1 h2 h3 => h a s h1 h3 (.inl h2)
theorem Fil.put {H : Hp} {kvs : List (List Key × V)} {w : List Int} {S A : Nat} {v : V} (h : Fil H kvs w S A) (hb : Best H w A S v) : Fil H (putK kvs (keyI [(A : Int), (S : Int)]) v) w S (A + 1) := fun a s h1 h2 h3 => by
  rw [valV_put]
  by_cases c : s = S ∧ a = A
  · obtain ⟨c1, c2⟩ := c
    subst c1 c2
    rw [if_pos rfl]
    exact ⟨v, rfl, hb⟩
  · rw [if_neg]
    · exact h a s h1 h2 (by omega)
    · intro z
      have z := keyI_inj z
      simp only [List.cons.injEq, and_true] at z
      omega
theorem Fil.next {H : Hp} {kvs : List (List Key × V)} {w : List Int} {S A : Nat} (h : Fil H kvs w S A) (hA : w.length < A + S) : Fil H kvs w (S + 1) 0 := fun a s h1 h2 h3 => h a s h1 h2 (by omega)
theorem keep_upd {H : Hp} {b : Addr} {o : HO} (h : ∀ xs, H b ≠ some (.tup xs)) : KeepT H (upd H b o) := fun p xs hp => by
  by_cases c : p = b
  · subst c
    exact absurd hp (h xs)
  · rw [upd_ne c]
    exact hp
def Word (w : List Int) : Prop := w.length ≤ 10 ∧ ∀ i ∈ w, 0 ≤ i ∧ i < 8
def spFolds : Sp := fun vs H Q _ => ∃ (w : List Int) (vw : V), vs = [vw] ∧ DAt H (intsD w) vw ∧ Word w ∧ ∀ (bd : Addr) (kvs : List (List Key × V)) (H2 : Hp), Ex H H2 → H2 bd = some (.dT kvs) → Filled H2 kvs w (w.length + 1) → Q (.ref bd) H2
def spFolded : Sp := fun vs H Q _ => ∃ (w : List Int) (vw : V), vs = [vw] ∧ DAt H (intsD w) vw ∧ Word w ∧ ∀ (cs : List C) (v : V) (H2 : Hp), Ex H H2 → DAt H2 (.tuple (toDL cs)) v → okL cs → (unrL cs).length = w.length → depL cs ≤ 9 → Q v H2
section
variable {P : Program} {w : World} {K : PySem.W.Frag} {mg : Str → Option Value} {base : Heap} {f f1 f2 f3 f4 f5 : Addr} {fd fd1 fd2 fd3 fd4 fd5 : FuncData}
theorem sc_folds : FnScope ["word", "best", "size", "at"] ["word"] (defScope s_folds_of) := ⟨rfl, rfl, rfl, by decide +kernel, rfl, by decide +kernel, by decide +kernel⟩
theorem ok_folds (D : Def K mg "folds_of" s_folds_of ["word"] f fd) (T : Top mg) (D1 : Def K mg "best_fold" s_best_fold ["word", "at", "size", "best"] f1 fd1) (G1 : FnOk P w K mg base CX0 12 f1 fd1 ["word", "at", "size", "best"] spBest) :
    FnOk P w K mg base CX0 13 f fd ["word"] spFolds := by
  refine D.F.ok sc_folds (fun vs H Q E h => by obtain ⟨_, _, rfl, _⟩ := h; rfl) (fun cdv A outer s H vs Q E hr h => ?_)
  obtain ⟨w, vw, rfl, hw, ⟨lw, bw⟩, q⟩ := h
  refine ⟨_, pss_cons (ps_set (i := 1) sc_folds.nd rfl (.inl rfl) pe_dnewT)
    (pss_cons (ps_for PassesOwn.never rfl (pi_range2 rfl T.z_range (pa_cons pe_int (pa_cons (pe_op op_add (pe_callB call_lenA rfl T.z_len PySem.boot_len (pa_cons (pv 0) pa_nil)) pe_int) pa_nil))) (pg_name (i := 2) sc_folds.nd rfl (.inl rfl))
      (pss_one (ps_for PassesOwn.never rfl (pi_range1 rfl T.z_range (pa_cons (pe_op op_add (pe_op op_sub (pe_callB call_lenA rfl T.z_len PySem.boot_len (pa_cons (pv 0) pa_nil)) (pv 2)) pe_int) pa_nil)) (pg_name (i := 3) sc_folds.nd rfl (.inl rfl))
        (pss_one (ps_dput (hu_of hr) (pv 1) (pe_tup (pa_cons (pv 3) (pa_cons (pv 2) pa_nil))) (pe_call G1 hr rfl D1.g D1.F.kp D1.b .nil pass0 (pa_cons (pv 0) (pa_cons (pv 3) (pa_cons (pv 2) (pa_cons (pv 1) pa_nil))))) rfl)))))
    (pss_one (ps_ret (pv 1)))), ?_⟩
  intro bd nb
  have e1 : Ex H (upd H bd (.dT [])) := Ex.new nb
  refine Evl.q_forR2 (lo := 1) (n := ((w.length + 1 : Nat) : Int)) (Evl.ea_cons Evl.ev_c (Evl.ea_cons (EvD.int (ed_op (ed_len (ds := w.map .int) (ed_var rfl (hw.up e1))) ed_int (rd_I0 fun _ => ?_))) Evl.ea_nil)) (by omega)
    (fun i σ' H' => Ex H H' ∧ ∃ kvs y2 y3, σ' = [some vw, some (.ref bd), y2, y3] ∧ H' bd = some (.dT kvs) ∧ Fil H' kvs w (i + 1) 0 ∧ kvs.length ≤ 20 * i) ?_ ?_ ?_
  · rw [List.length_map]
    exact dat_int
  · intro H2 e2
    refine ⟨e1.trans e2, [], none, none, rfl, e2 _ _ upd_same, fun a s h1 _ h3 => absurd h3 (by omega), Nat.zero_le _⟩
  · rintro i σ' H2 hi ⟨e2, kvs, y2, y3, rfl, hb2, fl, lk⟩
    have ci : (1 : Int) + (i : Int) = ((i + 1 : Nat) : Int) := by omega
    rw [ci]
    have hi : i + 1 ≤ w.length := by omega
    refine Evl.s_forR1 (n := ((w.length - i : Nat) : Int)) (Evl.ea_cons (EvD.int (ed_op (dx := .int ((w.length - (i + 1) : Nat) : Int)) (ed_op (ed_len (ds := w.map .int) (ed_var rfl (hw.up e2))) (ed_var rfl dat_int) (rd_I0 fun _ => ?_)) ed_int (rd_I0 fun _ => ?_))) Evl.ea_nil) (by omega)
      (fun j σ' H' => Ex H H' ∧ ∃ kvs y3, σ' = [some vw, some (.ref bd), some (.int ((i + 1 : Nat) : Int)), y3] ∧ H' bd = some (.dT kvs) ∧ Fil H' kvs w (i + 1) j ∧ kvs.length ≤ 20 * i + j) ?_ ?_ ?_
    · rw [List.length_map, show ((w.length : Nat) : Int) - ((i + 1 : Nat) : Int) = ((w.length - (i + 1) : Nat) : Int) by omega]
      exact dat_int
    · rw [show ((w.length - (i + 1) : Nat) : Int) + 1 = ((w.length - i : Nat) : Int) by omega]
      exact dat_int
    · intro H3 e3
      exact ⟨e2.trans e3, kvs, y3, rfl, e3 _ _ hb2, fl.keep (ex_keep e3), by omega⟩
    · clear hb2 fl lk
      rintro j σ' H3 hj ⟨e3, kvs, y3, rfl, hb3, fl, lk⟩
      have hj : j + (i + 1) ≤ w.length := by omega
      refine ⟨_, rfl, _, rfl, _, rfl, _, rfl, w, j, i + 1, bd, vw, kvs, rfl, hw.up e3, lw, bw, by omega, hj, hb3, fl.filled, fun v H4 e4 hv => ?_⟩
      refine ⟨_, rfl, ?_⟩
      refine ed_tup (σ := [some vw, some (.ref bd), some (.int ((i + 1 : Nat) : Int)), some (.int (j : Int))]) (H := H4) (ds := [.int (j : Int), .int ((i + 1 : Nat) : Int)]) (eds_cons (ed_var rfl dat_int) (eds_cons (ed_var rfl dat_int) eds_nil)) (by show 2 ≤ 100000; decide) H4 (Ex.refl H4) _ fun y H5 e5 hy => ?_
      obtain ⟨b, rfl, hk⟩ := ints_key (ks := [(j : Int), ((i + 1 : Nat) : Int)]) hy
      have hb5 := (e4.trans e5) _ _ hb3
      refine ⟨bd, _, rfl, DPut.t hb5 hk (Evl.sz_lt (by omega)), ?_⟩
      have kp : KeepT H5 (upd H5 bd (.dT (putK kvs (keyI [(j : Int), ((i + 1 : Nat) : Int)]) v))) := keep_upd fun xs z => by rw [hb5] at z; cases z
      refine ⟨Evl.Ex.mut (e3.trans (e4.trans e5)) nb, _, _, rfl, upd_same, Fil.put (Fil.keep fl ?_) ?_, ?_⟩
      · exact fun p xs hp => kp _ _ ((e4.trans e5) _ _ hp)
      · obtain ⟨cs, c1, c2⟩ := hv
        exact ⟨cs, c1, pair_keep kp (c2.up e5)⟩
      · have z := length_putK kvs (keyI [(j : Int), ((i + 1 : Nat) : Int)]) v
        omega
    · clear hb2 fl lk
      rintro σ' H3 ⟨e3, kvs, y3, rfl, hb3, fl, lk⟩
      rw [Int.toNat_natCast] at fl lk
      exact ⟨e3, kvs, _, y3, rfl, hb3, fl.next (by omega), by omega⟩
  · rintro σ' H2 ⟨e2, kvs, y2, y3, rfl, hb2, fl, lk⟩
    have z : (((w.length + 1 : Nat) : Int) - 1).toNat = w.length := by omega
    rw [z] at fl
    exact ⟨_, rfl, q bd kvs H2 e2 hb2 fl.filled⟩
/-! ### need_short -/
theorem sc_need : FnScope ["word", "box"] ["word"] (defScope s_need_short) := ⟨rfl, rfl, rfl, by decide +kernel, rfl, by decide +kernel, by decide +kernel⟩
def R_need (ds : List PyData) (d : PyData) : Prop := ∃ w, ds = [intsD w] ∧ Word w ∧ d = .none
theorem ok_need (D : Def K mg "need_short" s_need_short ["word"] f fd) (T : Top mg) (D1 : Def K mg "is_in" s_is_in ["value", "least", "most"] f1 fd1) : FnOk P w K mg base CX0 2 f fd ["word"] (spR R_need) := by
  have G1 : FnOk P w K mg base CX0 1 f1 fd1 ["value", "least", "most"] (spR R_is_in) := ok_is_in D1 T
  obtain ⟨t8, m8⟩ := T.c_MOST_BOXES
  obtain ⟨t24, m24⟩ := T.c_MOST_FOLDED
  refine D.okD sc_need (fun ds d h => by obtain ⟨x, rfl, _⟩ := h; rfl) (fun cdv A outer s H vs Q E ds d hr h ha q => ?_)
  obtain ⟨w, rfl, ⟨lw, bw⟩, rfl⟩ := h
  obtain ⟨vw, rfl, hw⟩ := dall1 ha
  refine ⟨_, pss_cons (ps_if (PW.pt (pw_or (pt_not (pt_val (pe_callB call_isi rfl T.z_isinstance boot_isinstance (pa_cons (pv 0) (pa_cons (pe_bltn (v := .ty "tuple") rfl T.z_tuple boot_tuple rfl) pa_nil)))))
      (pw_or1 (pt_cmpR (op_neD hr.units) (pe_lc (own := [("box", 1)]) (g := gName 1) rfl sc_need.nd (pi_tup (pv 0)) (blkOk_by (N := ["word", "box"]) (sc := defScope s_need_short) (by decide +kernel)) (fun _ _ _ _ _ => pg_name (i := 1) sc_need.nd rfl (Or.inl rfl))
        (fun _ _ _ _ _ => pts_one (pt_not (pt_val (pe_call G1 hr rfl D1.g D1.F.kp D1.b .nil pass0 (pa_cons (pv 1) (pa_cons pe_int (pa_cons (pe_op op_sub (pe_glob (v := .int 8) rfl m8 ⟨_, rfl⟩) pe_int) pa_nil)))))))
        (fun _ _ _ _ _ => pv 1)) (pe_lst pa_nil) (nomark _))))) (pss_one ps_never) pss_nil)
    (pss_one (ps_if (pt_cmpR op_gt (pe_callB call_lenA rfl T.z_len PySem.boot_len (pa_cons (pv 0) pa_nil)) (pe_glob (v := .int 24) rfl m24 ⟨_, rfl⟩) (nomark _)) (pss_one ps_never) pss_nil)), ?_⟩
  refine Evl.q_when (b := false) (Evl.et_or (a := false) (b := false) (Evl.et_not (et_D (ed_isi (ed_var rfl hw) (kit_tuple (intsD w))))) fun _ => et_T (ed_op (dx := .list []) (ed_is (ed_lcT (ds := w.map .int) (fun _ => false) (fun _ => 0) hw (Evl.ev_var rfl) (by rw [List.length_map]; omega) (fun _ => rfl) (fun d hd x H2 e2 h => ?_) (fun d hd c => nomatch c)) (by simp)) (ed_lst (ds := []) eds_nil (by decide)) (rd_neD rfl rfl))) (fun c => nomatch c) (fun _ H1 e1 => ?_)
  · obtain ⟨i, hi, rfl⟩ := List.mem_map.mp hd
    have b := bw i hi
    refine Evl.et_is (Evl.et_not (et_D (ed_call (eds_cons (ed_var rfl h) (eds_cons ed_int (eds_cons (ed_op ed_int ed_int (rd_I0 fun _ => dat_int)) eds_nil))) ⟨.int i, 0, 7, rfl, rfl⟩))) ?_
    simp only [dIn]
    rw [decide_eq_true b.1, decide_eq_true (show i ≤ 7 by omega)]
    rfl
  · refine Evl.s_when (b := false) (Evl.et_is (et_T (ed_op (ed_len (ds := w.map .int) (ed_var rfl (hw.up e1))) ed_int (rd_I0 fun _ => dat_bl))) ?_) (fun c => nomatch c) (fun _ H2 e2 => q .non H2 (e1.trans e2) dat_non)
    rw [List.length_map]
    exact decide_eq_false (by omega)
/-! ### the table asked for the whole word -/
theorem ed_whole {σ : L2.St} {H : Hp} {E : XK} {w : List Int} {vw : V} (hs : σ[0]? = some (some vw)) (hw : DAt H (intsD w) vw) (ok : Word w) (ne : w ≠ []) : ∀ H1, Ex H H1 → ∀ Q : VK, (∀ cs v H2, Ex H1 H2 → Code cs w.length → DAt H2 (pairD (F w) cs) v → Q v H2) →
    tDGet (tCall spFolds [] E (tCons (tVar 0) tNil)) (tTup (tCons (tC (.int 0)) (tCons (tCB (rLenA K) (tCons (tVar 0) tNil)) tNil))) σ H1 Q := fun H1 e Q q => by
  have n1 : 1 ≤ w.length := by
    cases w with
    | nil => exact absurd rfl ne
    | cons a b => simp
  refine ⟨vw, hs, w, vw, rfl, hw.up e, ok, fun bd kvs H2 e2 hb fl => ?_⟩
  refine ed_tup (σ := σ) (H := H2) (ds := [.int 0, .int (w.length : Int)]) (eds_cons ed_int (eds_cons (ed_is (ed_len (ds := w.map .int) (ed_var hs (hw.up (e.trans e2)))) (by rw [List.length_map])) eds_nil)) (by show 2 ≤ 100000; decide) H2 (Ex.refl H2) _ fun y H3 e3 hy => ?_
  obtain ⟨b, rfl, hk⟩ := ints_key (ks := [(0 : Int), (w.length : Int)]) hy
  obtain ⟨v, v1, cs, v2, v3⟩ := fl 0 w.length n1 (by omega) (by omega)
  have v1 : valV kvs (keyI [(0 : Int), (w.length : Int)]) = some v := v1
  have es : subw w 0 w.length = w := by
    unfold subw
    rw [List.drop_zero, List.take_of_length_le (Nat.le_refl _)]
  rw [es] at v3
  refine ⟨bd, v, rfl, ?_, q cs v H3 (e2.trans e3) v2 (v3.up e3)⟩
  rw [← v1]
  exact DGet.t (e3 _ _ hb) hk
theorem word_ne (w : List Int) : (!decide (w = [])) = !w.isEmpty := by cases w <;> simp
/-! ### folded -/
theorem sc_folded : FnScope ["word"] ["word"] (defScope s_folded) := ⟨rfl, rfl, rfl, by decide +kernel, rfl, by decide +kernel, by decide +kernel⟩
theorem ok_folded (D : Def K mg "folded" s_folded ["word"] f fd) (T : Top mg) (D1 : Def K mg "need_short" s_need_short ["word"] f1 fd1) (D2 : Def K mg "folds_of" s_folds_of ["word"] f2 fd2)
    (G1 : FnOk P w K mg base CX0 2 f1 fd1 ["word"] (spR R_need)) (G2 : FnOk P w K mg base CX0 13 f2 fd2 ["word"] spFolds) : FnOk P w K mg base CX0 14 f fd ["word"] spFolded := by
  refine D.F.ok sc_folded (fun vs H Q E h => by obtain ⟨_, _, rfl, _⟩ := h; rfl) (fun cdv A outer s H vs Q E hr h => ?_)
  obtain ⟨w, vw, rfl, hw, ok, q⟩ := h
  refine ⟨_, pss_cons (ps_expr (pe_call G1 (hr.mono (by decide)) rfl D1.g D1.F.kp D1.b .nil pass0 (pa_cons (pv 0) pa_nil)))
    (pss_one (ps_ret (pe_ifExp (pt_cmpR (op_neD hr.units) (pv 0) (pe_tup pa_nil) (nomark _)) (pe_ix ix_tup (pe_dget (hu_of hr) (pe_call G2 hr rfl D2.g D2.F.kp D2.b .nil pass0 (pa_cons (pv 0) pa_nil)) (pe_tup (pa_cons pe_int (pa_cons (pe_callB call_lenA rfl T.z_len PySem.boot_len (pa_cons (pv 0) pa_nil)) pa_nil))) (fun _ _ => rfl)) pe_int (fun _ _ => rfl)) (pe_tup pa_nil)))), ?_⟩
  refine Evl.q_drop (v := .non) (fun H0 e0 Q' q' => ed_call (d := .none) (R := R_need) (eds_cons (ed_var rfl hw) eds_nil) ⟨w, rfl, ok, rfl⟩ H0 e0 Q' fun v H2 e2 hd => by rw [non_dat hd]; exact q' H2 e2) fun H1 e1 => ?_
  have hw1 := hw.up e1
  refine et_T (ed_op (ed_var rfl hw1) (ed_tup (ds := ([] : List Int).map .int) eds_nil (by decide)) rd_neT) H1 (Ex.refl H1) _ fun H2 e2 => ?_
  rw [word_ne]
  cases w with
  | nil =>
    refine iteF (ed_tup (σ := [some vw]) (H := H2) (ds := []) eds_nil (by decide) H2 (Ex.refl H2) _ fun v H3 e3 hd => q [] v H3 ((e1.trans e2).trans e3) (by rw [toDL]; exact hd) ?_ ?_ ?_)
    · simp [okL]
    · simp [unrL]
    · simp [depL]
  | cons i r =>
    refine iteT (ed_whole rfl hw1 ok (by simp) H2 e2 _ fun cs v H3 e3 hc hd => ?_)
    have z := hc.2.2
    have z2 := ok.1
    exact ed_op (r := rIxT K) (ta := fun _ H Q => Q v H) (σ := []) (H := H3) (fun H4 e4 Q' q' => q' v H4 (Ex.refl H4) (hd.up e4)) ed_int (rd_ix (j := 1) rfl rfl) H3 (Ex.refl H3) _ fun v' H4 e4 hd4 => q cs v' H4 (((e1.trans e2).trans e3).trans e4) hd4 hc.1 hc.2.1 (by omega)
/-! ### shows_fold -/
theorem sc_shows : FnScope ["word", "value"] ["word", "value"] (defScope s_shows_fold) := ⟨rfl, rfl, rfl, by decide +kernel, rfl, by decide +kernel, by decide +kernel⟩
def R_shows (ds : List PyData) (d : PyData) : Prop := ∃ w x, ds = [intsD w, x] ∧ Word w ∧ ((∃ cs, x = .tuple (toDL cs) ∧ okL cs ∧ (unrL cs).length ≤ 1000 ∧ depL cs ≤ 8 ∧ d = .bool (decide (unrL cs = w) && decide (((saiL cs).length : Int) = F w))) ∨ (szOf 8 x = none ∧ d = .bool false))
theorem ok_shows (D : Def K mg "shows_fold" s_shows_fold ["word", "value"] f fd) (T : Top mg) (D1 : Def K mg "need_short" s_need_short ["word"] f1 fd1) (D2 : Def K mg "folds_of" s_folds_of ["word"] f2 fd2) (D3 : Def K mg "size_of" s_size_of ["value", "deep"] f3 fd3)
    (D4 : Def K mg "unrolled_in" s_unrolled_in ["loop"] f4 fd4) (D5 : Def K mg "appear_in" s_appear_in ["loop"] f5 fd5)
    (G1 : FnOk P w K mg base CX0 2 f1 fd1 ["word"] (spR R_need)) (G2 : FnOk P w K mg base CX0 13 f2 fd2 ["word"] spFolds) (G3 : FnOk P w K mg base CX0 11 f3 fd3 ["value", "deep"] (spR (R_size 9)))
    (G4 : FnOk P w K mg base CX0 21 f4 fd4 ["loop"] (spR (R_unr 20))) (G5 : FnOk P w K mg base CX0 21 f5 fd5 ["loop"] (spR (R_said 20))) : FnOk P w K mg base CX0 22 f fd ["word", "value"] (spR R_shows) := by
  obtain ⟨t8, m8⟩ := T.c_MOST_DEEP
  refine D.okD sc_shows (fun ds d h => by obtain ⟨_, _, rfl, _⟩ := h; rfl) (fun cdv A outer s H vs Q E ds d hr h ha q => ?_)
  obtain ⟨w, x, rfl, ok, h⟩ := h
  obtain ⟨vw, vx, rfl, hw, hx⟩ := dall2 ha
  refine ⟨_, pss_cons (ps_expr (pe_call G1 (hr.mono (by decide)) rfl D1.g D1.F.kp D1.b .nil pass0 (pa_cons (pv 0) pa_nil)))
    (pss_cons (ps_if (PW.pt (pw_or (pt_cmpR op_ne (pe_call G3 (hr.mono (by decide)) rfl D3.g D3.F.kp D3.b .nil pass0 (pa_cons (pv 1) (pa_cons (pe_glob (v := .int 8) rfl m8 ⟨_, rfl⟩) pa_nil))) (pe_callB call_lenA rfl T.z_len PySem.boot_len (pa_cons (pv 0) pa_nil)) (nomark _))
      (pw_or1 (pt_cmpR (op_neD hr.units) (pe_call G4 hr rfl D4.g D4.F.kp D4.b .nil pass0 (pa_cons (pv 1) pa_nil)) (pv 0) (nomark _))))) (pss_one (ps_ret pe_bl)) pss_nil)
    (pss_one (ps_ret (pe_cmpR op_eq (pe_callB call_lenA rfl T.z_len PySem.boot_len (pa_cons (pe_call G5 hr rfl D5.g D5.F.kp D5.b .nil pass0 (pa_cons (pv 1) pa_nil)) pa_nil))
      (pe_ifExp (pt_cmpR (op_neD hr.units) (pv 0) (pe_tup pa_nil) (nomark _)) (pe_ix ix_tup (pe_dget (hu_of hr) (pe_call G2 (hr.mono (by decide)) rfl D2.g D2.F.kp D2.b .nil pass0 (pa_cons (pv 0) pa_nil)) (pe_tup (pa_cons pe_int (pa_cons (pe_callB call_lenA rfl T.z_len PySem.boot_len (pa_cons (pv 0) pa_nil)) pa_nil))) (fun _ _ => rfl)) pe_int (fun _ _ => rfl)) pe_int) (nomark _))))), ?_⟩
  refine Evl.q_drop (v := .non) (fun H0 e0 Q' q' => ed_call (d := .none) (R := R_need) (eds_cons (ed_var rfl hw) eds_nil) ⟨w, rfl, ok, rfl⟩ H0 e0 Q' fun v H2 e2 hd => by rw [non_dat hd]; exact q' H2 e2) fun H1 e1 => ?_
  have hw1 := hw.up e1
  have hx1 := hx.up e1
  have lenW : ∀ {σ : L2.St} {H' : Hp}, σ[0]? = some (some vw) → Ex H1 H' → EvD (tCB (rLenA K) (tCons (tVar 0) tNil)) σ H' (.int (w.length : Int)) := fun h e => ed_is (ed_len (ds := w.map .int) (ed_var h (hw1.up e))) (by rw [List.length_map])
  rcases h with ⟨cs, rfl, okc, l17, dp, rfl⟩ | ⟨sz, rfl⟩
  · have sz := szOf_code cs okc (by omega) dp
    refine Evl.q_when (b := !decide (unrL cs = w)) (Evl.et_is (Evl.et_or (a := !decide (((unrL cs).length : Int) = (w.length : Int))) (b := !decide (unrL cs = w)) (et_T (ed_op (dx := .int ((unrL cs).length : Int)) (ed_call (eds_cons (ed_var rfl hx1) (eds_cons ed_int eds_nil)) ⟨_, rfl, ?_⟩) (lenW rfl (Ex.refl _)) rd_neI)) fun _ => et_T (ed_op (ed_call (eds_cons (ed_var rfl hx1) eds_nil) ⟨cs, rfl, okc, by omega, by omega, rfl⟩) (ed_var rfl hw1) rd_neT)) ?_) (fun g H2 e2 => ?_) (fun g H2 e2 => ?_)
    · have z : szRec (8 + 1) (.tuple (toDL cs)) = some ((unrL cs).length : Int) := sz
      rw [z]
      rfl
    · by_cases c : unrL cs = w
      · rw [c]
        simp
      · rw [decide_eq_false c]
        simp
    · have z : decide (unrL cs = w) = false := by simpa using g
      rw [z, Bool.false_and] at q
      exact sd_ret ed_bl fun v H3 e3 hd => q v H3 ((e1.trans e2).trans e3) hd
    · have z : decide (unrL cs = w) = true := by simpa using g
      rw [z, Bool.true_and] at q
      have hw2 := hw1.up e2
      have hx2 := hx1.up e2
      have sl := saiL_le cs okc
      refine sd_ret (ed_op (dx := .int ((saiL cs).length : Int)) (dy := .int (F w)) (ed_is (ed_len (ds := (saiL cs).map .int) (ed_call (eds_cons (ed_var rfl hx2) eds_nil) ⟨cs, rfl, okc, by omega, by omega, rfl⟩)) (by rw [List.length_map])) (ed_if (b := !w.isEmpty) (Evl.et_is (et_T (ed_op (ed_var rfl hw2) (ed_tup (ds := ([] : List Int).map .int) eds_nil (by decide)) rd_neT)) (word_ne w)) (fun c => ?_) (fun c => ?_)) rd_eqI) fun v H3 e3 hd => q v H3 ((e1.trans e2).trans e3) hd
      · have ne : w ≠ [] := fun z => by
          subst z
          simp at c
        exact fun H3 e3 Q' q' => ed_whole rfl (hw2.up e3) ok ne H3 (Ex.refl H3) _ fun cs' v H4 e4 _ hd => ed_op (r := rIxT K) (ta := fun _ H Q => Q v H) (σ := []) (H := H4) (fun H5 e5 Q' q' => q' v H5 (Ex.refl H5) (hd.up e5)) ed_int (rd_ix (j := 0) rfl rfl) H4 (Ex.refl H4) _ fun v' H5 e5 hd5 => q' v' H5 (e4.trans e5) hd5
      · have z : w = [] := by
          cases w with
          | nil => rfl
          | cons a b => simp at c
        subst z
        exact ed_int
  · refine Evl.q_when (b := true) (Evl.et_or (a := true) (b := true) (et_T (ed_op (dx := .none) (ed_call (eds_cons (ed_var rfl hx1) (eds_cons ed_int eds_nil)) ⟨_, rfl, ?_⟩) (lenW rfl (Ex.refl _)) rd_neN)) fun c => nomatch c) (fun _ H2 e2 => ?_) (fun c => nomatch c)
    · have z : szRec (8 + 1) x = none := sz
      rw [z]
      rfl
    · exact sd_ret ed_bl fun v H3 e3 hd => q v H3 ((e1.trans e2).trans e3) hd
end
end
end RF
namespace RF
section
open PySem L2 PyProof.Rows
open Evl (Ex Ev EvT EvA EvO)
/-! _law_is_loop -/
/-- a value as the law meets it: n turns deep, items that are ints, or pairs of an int and something -/
def Shp : Nat → List PyData → Prop
  | 0, _ => False
  | n + 1, l => ∀ d ∈ l, (∃ i, d = .int i) ∨ ∃ t b, d = .tuple [.int t, b] ∧ ((∃ bs, b = .tuple bs ∧ SeqAt.shaped (.tuple bs) = true ∧ Shp n bs) ∨ isTup b = false)
theorem shp_code : ∀ (n : Nat) (cs : List C), depL cs < n → depL cs ≤ 30 → Shp n (toDL cs)
  | 0, _, h, _ => by omega
  | n + 1, cs, h, h30 => by
    intro d hd
    rw [toDL_map] at hd
    obtain ⟨c, hc, e2⟩ := List.mem_map.mp hd
    have hdp := dep_mem hc
    subst e2
    cases c with
    | box i => exact .inl ⟨i, by rw [toD]⟩
    | rep t b =>
      simp only [dep] at hdp
      exact .inr ⟨t, _, by rw [toD], .inl ⟨toDL b, rfl, shaped_code (by omega), shp_code n b (by omega) (by omega)⟩⟩
section
variable {P : Program} {w : World} {K : PySem.W.Frag} {mg : Str → Option Value} {base : Heap} {f f1 : Addr} {fd fd1 : FuncData}
theorem sc_isl : FnScope ["_law_value", "_law_item"] ["_law_value"] (defScope s_law_is_loop) := ⟨rfl, rfl, rfl, by decide +kernel, rfl, by decide +kernel, by decide +kernel⟩
def R_isl (n : Nat) (ds : List PyData) (d : PyData) : Prop := ∃ l, ds = [.tuple l] ∧ Shp n l ∧ d = .bool (il n l)
theorem ok_isl_succ {n : Nat} (D : Def K mg "_law_is_loop" s_law_is_loop ["_law_value"] f fd) (T : Top mg) (D1 : Def K mg "_law_is_vector" s_law_is_vector ["_law_value", "_law_size"] f1 fd1)
    (G : FnOk P w K mg base CX0 (n + 1) f fd ["_law_value"] (spR (R_isl n))) : FnOk P w K mg base CX0 (n + 2) f fd ["_law_value"] (spR (R_isl (n + 1))) := by
  have G1 : FnOk P w K mg base CX0 1 f1 fd1 ["_law_value", "_law_size"] (spR R_is_vector) := ok_is_vector D1 T
  refine D.okD sc_isl (fun ds d h => by obtain ⟨x, rfl, _⟩ := h; rfl) (fun cdv A outer s H vs Q E ds d hr h ha q => ?_)
  obtain ⟨l, rfl, sh, rfl⟩ := h
  obtain ⟨v, rfl, hx⟩ := dall1 ha
  have hr1 := hr.mono (show 1 ≤ n + 1 by omega)
  refine ⟨_, pss_cons (ps_for PassesOwn.never rfl (pi_tup (pv 0)) (pg_name (i := 1) sc_isl.nd rfl (.inl rfl))
      (pss_one (ps_if (pt_val (pe_callB call_isi rfl T.z_isinstance boot_isinstance (pa_cons (pv 1) (pa_cons (pe_bltn (v := .ty "tuple") rfl T.z_tuple boot_tuple rfl) pa_nil))))
        (pss_cons (ps_if (PW.pt (pw_or (pt_cmpR op_ne (pe_callB call_lenA rfl T.z_len PySem.boot_len (pa_cons (pv 1) pa_nil)) pe_int (nomark _))
            (pw_or (pt_not (pt_val (pe_call G1 hr1 rfl D1.g D1.F.kp D1.b .nil pass0 (pa_cons (pe_slice sl_tupA (pv 1) po_none (po_some pe_int)) (pa_cons pe_int pa_nil)))))
            (pw_or1 (pt_cmpR op_lt (pe_ix ix_tup (pv 1) pe_int (fun _ _ => rfl)) pe_int (nomark _)))))) (pss_one (ps_ret pe_bl)) pss_nil)
        (pss_cons (ps_if (PW.pt (pw_or (pt_not (pt_val (pe_callB call_isi rfl T.z_isinstance boot_isinstance (pa_cons (pe_ix ix_tup (pv 1) pe_int (fun _ _ => rfl)) (pa_cons (pe_bltn (v := .ty "tuple") rfl T.z_tuple boot_tuple rfl) pa_nil)))))
            (pw_or1 (pt_cmpR (op_eqD hr.units) (pe_ix ix_tup (pv 1) pe_int (fun _ _ => rfl)) (pe_tup pa_nil) (nomark _))))) (pss_one (ps_ret pe_bl)) pss_nil)
        (pss_one (ps_if (pt_not (pt_val (pe_call G hr rfl D.g D.F.kp D.b .nil pass0 (pa_cons (pe_ix ix_tup (pv 1) pe_int (fun _ _ => rfl)) pa_nil)))) (pss_one (ps_ret pe_bl)) pss_nil))))
        (pss_one (ps_if (PW.pt (pw_or (pt_not (pt_val (pe_call G1 hr1 rfl D1.g D1.F.kp D1.b .nil pass0 (pa_cons (pe_tup (pa_cons (pv 1) pa_nil)) (pa_cons pe_int pa_nil)))))
            (pw_or1 (pt_not (pt_chain op_le op_lt pe_int (pv 1) pe_int))))) (pss_one (ps_ret pe_bl)) pss_nil)))))
    (pss_one (ps_ret pe_bl)), ?_⟩
  refine qd_forT (v := v) (ds := l) hx (Evl.ev_var rfl) (fun i σ' H' => Ex H H' ∧ ∃ y, σ' = [some v, y] ∧ (l.take i).all (ilItem (il n)) = true) ?_ ?_ ?_ ?_
  · intro H1 e1
    exact ⟨e1, none, rfl, rfl⟩
  · intro i σ' H' p
    exact p.1
  · rintro i d xv σ' H' hi hd ⟨e1, y, rfl, al⟩
    have hm := List.mem_of_getElem? hi
    have nxt : ilItem (il n) d = true → (l.take (i + 1)).all (ilItem (il n)) = true := fun z => by
      rw [List.take_add_one, hi, List.all_append, al]
      simp [z]
    have bad : ilItem (il n) d = false → ∀ H2, Ex H H2 → Q (.bl false) H2 := fun z H2 e2 => by
      have z2 : il (n + 1) l = false := by
        simp only [il]
        rw [Bool.eq_false_iff]
        intro c
        rw [List.all_eq_true] at c
        rw [c d hm] at z
        cases z
      rw [z2] at q
      exact q _ H2 e2 dat_bl
    rcases sh d hm with ⟨j, rfl⟩ | ⟨t, b, rfl, hb⟩
    · refine Evl.s_if (b := false) (et_D (ed_isi (ed_var rfl hd) (kit_tuple (.int j)))) (fun c => nomatch c) (fun _ H2 e2 => ?_)
      have hd2 := hd.up e2
      refine Evl.s_when (b := !(decide ((0 : Int) ≤ j) && decide (j < 8))) (Evl.et_is (Evl.et_or (a := false) (Evl.et_not (et_D (ed_call (d := .bool true) (eds_cons (ed_tup (eds_cons (ed_var rfl hd2) eds_nil) (by show 1 ≤ 100000; decide)) (eds_cons ed_int eds_nil)) ⟨[j], 1, rfl, by simp, by simp⟩))) fun _ => Evl.et_not (et_T (ed_chain (dx := .int 0) (dy := .int j) (dz := .int 8) ed_int (ed_var rfl hd2) (rd_I0 fun _ => dat_bl) (fun _ => ed_int) (fun _ => rd_I0 fun _ => dat_bl)))) (Bool.false_or _)) (fun c H3 e3 => ?_) (fun c H3 e3 => ?_)
      · exact sd_ret ed_bl fun v' H4 e4 hd4 => by
          rw [bl_dat hd4]
          refine bad ?_ H4 (((e1.trans e2).trans e3).trans e4)
          simp only [ilItem]
          rw [← Bool.not_inj_iff, c]
          rfl
      · refine ⟨(e1.trans e2).trans e3, _, rfl, nxt ?_⟩
        simp only [ilItem]
        rw [← Bool.not_inj_iff, c]
        rfl
    · refine Evl.s_if (b := true) (et_D (ed_isi (ed_var rfl hd) (kit_tuple _))) (fun _ H2 e2 => ?_) (fun c => nomatch c)
      have hd2 := hd.up e2
      refine Evl.q_when (b := decide (t < 2)) (Evl.et_is (Evl.et_or (a := false) (b := decide (t < 2)) (Evl.et_is (et_T (ed_op (ed_len (ed_var rfl hd2)) ed_int rd_neI)) rfl) fun _ => Evl.et_is (Evl.et_or (a := false) (b := decide (t < 2)) (Evl.et_not (et_D (ed_call (d := .bool true) (eds_cons (ed_is (d' := intsD [t]) (ed_slice (ed_var rfl hd2) Evl.eo_none (eo_D ed_int)) (by rw [show (1 : Int) = ((1 : Nat) : Int) from rfl, cutD_to]; rfl)) (eds_cons ed_int eds_nil)) ⟨[t], 1, rfl, by simp, by simp⟩))) fun _ => et_T (ed_op (ed_op (ed_var rfl hd2) ed_int (rd_ix (j := 0) rfl rfl)) ed_int (rd_I0 fun _ => dat_bl))) (Bool.false_or _)) (Bool.false_or _)) (fun c H3 e3 => ?_) (fun c H3 e3 => ?_)
      · exact sd_ret ed_bl fun v' H4 e4 hd4 => by
          rw [bl_dat hd4]
          refine bad ?_ H4 (((e1.trans e2).trans e3).trans e4)
          have c := of_decide_eq_true c
          unfold ilItem
          split
          · rename_i e
            cases e
          · rename_i e
            injection e with e
            injection e with e1 e2
            injection e1 with e1
            subst e1
            rw [decide_eq_false (by omega), Bool.false_and]
          · rfl
      have ht : 2 ≤ t := by
        have c := of_decide_eq_false c
        omega
      have hd3 := hd2.up e3
      rcases hb with ⟨bs, rfl, sb, shb⟩ | hb
      · refine Evl.q_when (b := bs.isEmpty) (Evl.et_is (Evl.et_or (a := false) (b := bs.isEmpty) (Evl.et_not (et_D (ed_isi (ed_op (ed_var rfl hd3) ed_int (rd_ix (j := 1) rfl rfl)) (kit_tuple _)))) fun _ => Evl.et_is (et_T (ed_op (ed_op (ed_var rfl hd3) ed_int (rd_ix (j := 1) rfl rfl)) (ed_tup (ds := []) eds_nil (by decide)) (rd_eqD sb rfl))) (eqv_nil bs)) (Bool.false_or _)) (fun c H4 e4 => ?_) (fun c H4 e4 => ?_)
        · exact sd_ret ed_bl fun v' H5 e5 hd5 => by
            rw [bl_dat hd5]
            refine bad ?_ H5 ((((e1.trans e2).trans e3).trans e4).trans e5)
            simp [ilItem, c]
        · have hd4 := hd3.up e4
          refine Evl.s_when (b := !il n bs) (Evl.et_not (et_D (ed_call (eds_cons (ed_op (ed_var rfl hd4) ed_int (rd_ix (j := 1) rfl rfl)) eds_nil) ⟨bs, rfl, shb, rfl⟩))) (fun c2 H5 e5 => ?_) (fun c2 H5 e5 => ?_)
          · exact sd_ret ed_bl fun v' H6 e6 hd6 => by
              rw [bl_dat hd6]
              refine bad ?_ H6 (((((e1.trans e2).trans e3).trans e4).trans e5).trans e6)
              have c3 : il n bs = false := by simpa using c2
              simp [ilItem, c3]
          · refine ⟨(((e1.trans e2).trans e3).trans e4).trans e5, _, rfl, nxt ?_⟩
            have c3 : il n bs = true := by simpa using c2
            simp [ilItem, c, c3, ht]
      · refine Evl.q_when (b := true) (Evl.et_or (a := true) (b := true) (Evl.et_is (Evl.et_not (et_D (ed_isi (ed_op (ed_var rfl hd3) ed_int (rd_ix (j := 1) rfl rfl)) (kit_tuple b)))) (by rw [hb]; rfl)) fun c => nomatch c) (fun _ H4 e4 => ?_) (fun c => nomatch c)
        exact sd_ret ed_bl fun v' H5 e5 hd5 => by
          rw [bl_dat hd5]
          refine bad ?_ H5 ((((e1.trans e2).trans e3).trans e4).trans e5)
          cases b <;> simp [ilItem, isTup] at hb ⊢
  · rintro σ' H' ⟨e1, y, rfl, al⟩
    rw [List.take_of_length_le (Nat.le_refl _)] at al
    have z : il (n + 1) l = true := by simp only [il]; exact al
    rw [z] at q
    exact sd_ret ed_bl fun v' H4 e4 hd4 => q v' H4 (e1.trans e4) hd4
theorem ok_isl (D : Def K mg "_law_is_loop" s_law_is_loop ["_law_value"] f fd) (T : Top mg) (D1 : Def K mg "_law_is_vector" s_law_is_vector ["_law_value", "_law_size"] f1 fd1) :
    ∀ n : Nat, FnOk P w K mg base CX0 (n + 1) f fd ["_law_value"] (spR (R_isl n))
  | 0 => none_ok fun ds d h => by obtain ⟨_, _, z, _⟩ := h; exact z
  | n + 1 => ok_isl_succ D T D1 (ok_isl D T D1 n)
end
end
end RF
namespace RF
section
open PySem L2 PyProof.Rows
open Evl (Ex Ev EvT EvA EvO)
/-! _law_taken, _law_loop -/
/-! ### a list that changes -/
def SameX (a : Addr) (H H' : Hp) : Prop := ∀ b o, b ≠ a → H b = some o → H' b = some o
theorem SameX.refl (a : Addr) (H : Hp) : SameX a H H := fun _ _ _ h => h
theorem SameX.trans {a : Addr} {H H1 H2 : Hp} (h : SameX a H H1) (g : SameX a H1 H2) : SameX a H H2 := fun b o n e => g b o n (h b o n e)
theorem SameX.of {a : Addr} {H H' : Hp} (e : Ex H H') : SameX a H H' := fun b o _ h => e b o h
theorem SameX.put {a : Addr} {H H' : Hp} {o : HO} (h : SameX a H H') : SameX a H (upd H' a o) := fun b u n e => by
  rw [upd_ne n]
  exact h b u n e
theorem SameX.keep {a : Addr} {H H' : Hp} (h : SameX a H H') (n : ∀ xs, H a ≠ some (.tup xs)) : KeepT H H' := fun p xs hp => by
  refine h p _ (fun e => ?_) hp
  subst e
  exact n xs hp
def RowAt (K : PySem.W.Frag) (H : Hp) (a sc : Addr) : Prop := ∃ (ns : List Int) (i1 i2 i3 : Int), H a = some (.lst [.ref sc, .int i1, .int i2, .int i3]) ∧ SqL K H sc (ns.map V.int) ∧ 0 ≤ i1 ∧ (0 ≤ i2 ∧ i2 < 2147483647) ∧ 0 ≤ i3
theorem sqX {K : PySem.W.Frag} {H H' : Hp} {a sc sc0 : Addr} {ns : List Int} {r : List V} (h : SqL K H sc (ns.map V.int)) (ha : H a = some (.lst (.ref sc0 :: r))) (e : SameX a H H') : SqL K H' sc (ns.map V.int) := by
  rcases h with (h | ⟨o, h⟩) | h
  · refine .inl (.inl (e _ _ (fun z => ?_) h))
    subst z
    rw [ha] at h
    cases ns <;> simp at h
  · refine .inl (.inr ⟨o, e _ _ (fun z => ?_) h⟩)
    subst z
    rw [ha] at h
    cases h
  · exact .inr h
theorem RowAt.up {K : PySem.W.Frag} {H H' : Hp} {a sc : Addr} (h : RowAt K H a sc) (e : Ex H H') : RowAt K H' a sc := by
  obtain ⟨ns, i1, i2, i3, h1, h2, h3⟩ := h
  exact ⟨ns, i1, i2, i3, e _ _ h1, Evl.ex_l e h2, h3⟩
theorem RowAt.no {K : PySem.W.Frag} {H : Hp} {a sc : Addr} (h : RowAt K H a sc) : ∀ xs, H a ≠ some (.tup xs) := fun xs z => by
  obtain ⟨_, _, _, _, h1, _⟩ := h
  rw [h1] at z
  cases z
section
variable {K : PySem.W.Frag} {σ : L2.St} {H : Hp} {te : TE}
def rInt1 : List V → Hp → VK → Prop := fun xs H Q => (∃ i, xs = [.int i] ∧ Q (.int i) H) ∨ ∃ k, xs = [.bl k] ∧ Q (.int (if k then 1 else 0)) H
theorem call_intA {X : Cx} : CallR X (.type "int") rInt1 := call_int1
theorem ev_int1 {i : Int} (h : Ev te σ H (.int i)) : Ev (tCB rInt1 (tCons te tNil)) σ H (.int i) := fun H1 e Q q => h H1 e _ fun H2 e2 => .inl ⟨i, rfl, q H2 e2⟩
theorem ev_lenL {p : Addr} {xs : List V} (h : Ev te σ H (.ref p)) (hx : SqL K H p xs) : Ev (tCB (rLenA K) (tCons te tNil)) σ H (.int (xs.length : Int)) := fun H1 e Q q =>
  h H1 e _ fun H2 e2 => ⟨p, xs, rfl, .inl (Evl.ex_l (e.trans e2) hx), q H2 e2⟩
theorem ev_row {a : Addr} {xs : List V} {v : V} {i : Nat} {j : Nat} (hs : σ[i]? = some (some (.ref a))) (h : H a = some (.lst xs)) (hv : xs[j]? = some v) : Ev (tOp (rIxL K) (tVar i) (tC (.int (j : Int)))) σ H v :=
  Evl.ev_op (Evl.ev_var hs) Evl.ev_c (Evl.rv_ixL (SqL.of h) (atI_nat hv))
end
def spTaken (K : PySem.W.Frag) : Sp := fun vs H Q _ => ∃ (a sc : Addr) (m : Int), vs = [.ref a, .int m] ∧ 2 ≤ m ∧ m ≤ 8 ∧ RowAt K H a sc ∧ ∀ (r : Int) (H' : Hp), 0 ≤ r → r < m → SameX a H H' → RowAt K H' a sc → Q (.int r) H'
section
variable {P : Program} {w : World} {K : PySem.W.Frag} {mg : Str → Option Value} {base : Heap} {f f1 : Addr} {fd fd1 : FuncData}
theorem sc_taken : FnScope ["_law_row", "_law_many", "_law_found", "_law_cell"] ["_law_row", "_law_many"] (defScope s_law_taken) := ⟨rfl, rfl, rfl, by decide +kernel, rfl, by decide +kernel, by decide +kernel⟩
theorem ok_taken {k : Nat} (D : Def K mg "_law_taken" s_law_taken ["_law_row", "_law_many"] f fd) (T : Top mg) : FnOk P w K mg base CX0 (k + 1) f fd ["_law_row", "_law_many"] (spTaken K) := by
  refine D.F.ok sc_taken (fun vs H Q E h => by obtain ⟨_, _, _, rfl, _⟩ := h; rfl) (fun cdv A outer s H vs Q E hr h => ?_)
  obtain ⟨a, sc, m, rfl, m2, m8, ⟨ns, i1, i2, i3, hH, hS, b1, b2, b3⟩, q⟩ := h
  refine ⟨_, pss_cons (ps_if (pt_cmpR op_gt (pe_ix ix_list (pv 0) pe_int (fun _ _ => rfl)) pe_int (nomark _))
      (pss_cons (ps_set (i := 2) sc_taken.nd rfl (.inl rfl) (pe_op op_mod (pe_callTy call_intA rfl T.z_int boot_int (pa_cons (pe_ix ix_list (pv 0) pe_int (fun _ _ => rfl)) pa_nil)) (pv 1)))
      (pss_cons (ps_asg (pe_op op_fdiv (pe_ix ix_list (pv 0) pe_int (fun _ _ => rfl)) (pv 1)) (pg_sub (pv 0) pe_int set_list))
      (pss_one (ps_ret (pv 2))))) pss_nil)
    (pss_cons (ps_asg (pe_op op_add (pe_ix ix_list (pv 0) pe_int (fun _ _ => rfl)) pe_int) (pg_sub (pv 0) pe_int set_list))
    (pss_cons (ps_if (pt_cmpR op_gt (pe_ix ix_list (pv 0) pe_int (fun _ _ => rfl)) (pe_callB call_lenA rfl T.z_len PySem.boot_len (pa_cons (pe_ix ix_list (pv 0) pe_int (fun _ _ => rfl)) pa_nil)) (nomark _))
      (pss_cons (ps_asg (pe_op op_mod (pe_callTy call_intA rfl T.z_int boot_int (pa_cons (pe_op op_add (pe_op op_mul (pe_ix ix_list (pv 0) pe_int (fun _ _ => rfl)) pe_int) pe_int) pa_nil)) pe_int) (pg_sub (pv 0) pe_int set_list))
      (pss_one (ps_ret (pe_op op_mod (pe_callTy call_intA rfl T.z_int boot_int (pa_cons (pe_op op_fdiv (pe_ix ix_list (pv 0) pe_int (fun _ _ => rfl)) pe_int) pa_nil)) (pv 1))))) pss_nil)
    (pss_cons (ps_set (i := 3) sc_taken.nd rfl (.inl rfl) (pe_ix ix_list (pe_ix ix_list (pv 0) pe_int (fun _ _ => rfl)) (pe_op op_sub (pe_ix ix_list (pv 0) pe_int (fun _ _ => rfl)) pe_int) (fun _ _ => rfl)))
    (pss_cons (ps_asg (pe_op op_mod (pe_callTy call_intA rfl T.z_int boot_int (pa_cons (pe_op op_add (pe_op op_add (pe_op op_mul (pe_ix ix_list (pv 0) pe_int (fun _ _ => rfl)) pe_int) (pv 3)) pe_int) pa_nil)) pe_int) (pg_sub (pv 0) pe_int set_list))
    (pss_cons (ps_if (pt_cmpR op_ge (pv 3) (pe_op op_pow pe_int pe_int) (nomark _)) (pss_one (ps_asg (pe_op op_fdiv (pv 3) (pv 1)) (pg_sub (pv 0) pe_int set_list))) pss_nil)
    (pss_one (ps_ret (pe_op op_mod (pe_callTy call_intA rfl T.z_int boot_int (pa_cons (pv 3) pa_nil)) (pv 1))))))))), ?_⟩
  have pm : ∀ x : Int, 0 ≤ x % m ∧ x % m < m := fun x => ⟨Int.emod_nonneg _ (by omega), Int.emod_lt_of_pos _ (by omega)⟩
  have pM : ∀ x : Int, 0 ≤ x % 2147483647 ∧ x % 2147483647 < 2147483647 := fun x => ⟨Int.emod_nonneg _ (by decide), Int.emod_lt_of_pos _ (by decide)⟩
  refine Evl.q_when (b := decide (0 < i3)) (Evl.et_test (Evl.ev_op (ev_row (j := 3) rfl hH rfl) Evl.ev_c Evl.rv_I0)) (fun c H1 e1 => ?_) (fun c H1 e1 => ?_)
  · -- the rest of a great cell
    have hH1 := e1 _ _ hH
    refine Evl.q_asg (v := .int (i3 % m)) (Evl.ev_op (ev_int1 (ev_row (j := 3) rfl hH1 rfl)) (Evl.ev_var rfl) (Evl.rv_I (by omega))) fun H2 e2 => ?_
    have hH2 := e2 _ _ hH1
    refine Evl.q_setL (j := 3) (v := .int (i3 / m)) hH2 (Evl.ev_op (ev_row (j := 3) rfl hH2 rfl) (Evl.ev_var rfl) (Evl.rv_I ⟨by omega, by omega⟩)) (Evl.ev_var rfl) Evl.ev_c (by simp) fun H3 e3 => ?_
    have e13 := (e1.trans e2).trans e3
    have sx : SameX a H (upd H3 a (.lst [.ref sc, .int i1, .int i2, .int (i3 / m)])) := (SameX.of e13).put
    exact ⟨_, rfl, q _ _ (pm _).1 (pm _).2 sx ⟨ns, i1, i2, i3 / m, upd_same, sqX hS hH sx, b1, b2, Int.ediv_nonneg b3 (by omega)⟩⟩
  have hH1 := e1 _ _ hH
  have i30 : i3 = 0 := by
    have c := of_decide_eq_false c
    omega
  subst i30
  refine Evl.q_setL (j := 1) (v := .int (i1 + 1)) hH1 (Evl.ev_op (ev_row (j := 1) rfl hH1 rfl) Evl.ev_c Evl.rv_I0) (Evl.ev_var rfl) Evl.ev_c (by simp) fun H2 e2 => ?_
  have sx2 : SameX a H (upd H2 a (.lst [.ref sc, .int (i1 + 1), .int i2, .int 0])) := (SameX.of (e1.trans e2)).put
  have hS2 := sqX hS hH sx2
  have hH2 : (upd H2 a (.lst [.ref sc, .int (i1 + 1), .int i2, .int 0])) a = some (.lst [.ref sc, .int (i1 + 1), .int i2, .int 0]) := upd_same
  show tSeq _ _ _ _ (upd H2 a (.lst [.ref sc, .int (i1 + 1), .int i2, .int 0]))
  generalize (upd H2 a (.lst [.ref sc, .int (i1 + 1), .int i2, .int 0])) = H2' at sx2 hS2 hH2 ⊢
  refine Evl.q_when (b := decide (((ns.map V.int).length : Int) < i1 + 1)) (Evl.et_test (Evl.ev_op (ev_row (j := 1) rfl hH2 rfl) (ev_lenL (ev_row (j := 0) rfl hH2 rfl) hS2) Evl.rv_I0)) (fun c H3 e3 => ?_) (fun c H3 e3 => ?_)
  · -- behind the script's end
    have hH3 := e3 _ _ hH2
    refine Evl.q_setL (j := 2) (v := .int ((i2 * 48271 + 11) % 2147483647)) hH3 (Evl.ev_op (ev_int1 (Evl.ev_op (Evl.ev_op (ev_row (j := 2) rfl hH3 rfl) Evl.ev_c (Evl.rv_I (.inl ⟨by omega, by omega⟩))) Evl.ev_c Evl.rv_I0)) Evl.ev_c (Evl.rv_I (by decide))) (Evl.ev_var rfl) Evl.ev_c (by simp) fun H4 e4 => ?_
    have sx4 : SameX a H2' (upd H4 a (.lst [.ref sc, .int (i1 + 1), .int ((i2 * 48271 + 11) % 2147483647), .int 0])) := (SameX.of (e3.trans e4)).put
    have hS4 := sqX hS2 hH2 sx4
    have hH4 : (upd H4 a (.lst [.ref sc, .int (i1 + 1), .int ((i2 * 48271 + 11) % 2147483647), .int 0])) a = some (.lst [.ref sc, .int (i1 + 1), .int ((i2 * 48271 + 11) % 2147483647), .int 0]) := upd_same
    show tRet _ _ _ (upd H4 a (.lst [.ref sc, .int (i1 + 1), .int ((i2 * 48271 + 11) % 2147483647), .int 0]))
    generalize (upd H4 a (.lst [.ref sc, .int (i1 + 1), .int ((i2 * 48271 + 11) % 2147483647), .int 0])) = H4' at sx4 hS4 hH4 ⊢
    refine Evl.s_ret (v := .int ((i2 * 48271 + 11) % 2147483647 / 7 % m)) (Evl.ev_op (ev_int1 (Evl.ev_op (ev_row (j := 2) rfl hH4 rfl) Evl.ev_c (Evl.rv_I ⟨by decide, by decide⟩))) (Evl.ev_var rfl) (Evl.rv_I (by omega))) fun H5 e5 => ?_
    exact q _ _ (pm _).1 (pm _).2 ((sx2.trans sx4).trans (SameX.of e5)) ⟨ns, i1 + 1, _, 0, e5 _ _ hH4, Evl.ex_l e5 hS4, by omega, pM _, by omega⟩
  · -- a cell of the script
    have c := of_decide_eq_false c
    rw [List.length_map] at c
    have lt : i1.toNat < ns.length := by omega
    have hH3 := e3 _ _ hH2
    have hS3 := Evl.ex_l e3 hS2
    refine Evl.q_asg (v := .int ns[i1.toNat]) (Evl.ev_op (ev_row (j := 0) rfl hH3 rfl) (Evl.ev_op (y := .int 1) (ev_row (j := 1) rfl hH3 rfl) Evl.ev_c Evl.rv_I0) (Evl.rv_ixL hS3 (at_of (j := i1.toNat) (by omega) (by rw [List.getElem?_map, List.getElem?_eq_getElem lt]; rfl)))) fun H4 e4 => ?_
    have hH4 := e4 _ _ hH3
    have hS4 := Evl.ex_l e4 hS3
    generalize ns[i1.toNat] = cell
    refine Evl.q_setL (j := 2) (v := .int ((i2 * 48271 + cell + 11) % 2147483647)) hH4 (Evl.ev_op (ev_int1 (Evl.ev_op (Evl.ev_op (Evl.ev_op (ev_row (j := 2) rfl hH4 rfl) Evl.ev_c (Evl.rv_I (.inl ⟨by omega, by omega⟩))) (Evl.ev_var rfl) Evl.rv_I0) Evl.ev_c Evl.rv_I0)) Evl.ev_c (Evl.rv_I (by decide))) (Evl.ev_var rfl) Evl.ev_c (by simp) fun H5 e5 => ?_
    have sx5 : SameX a H2' (upd H5 a (.lst [.ref sc, .int (i1 + 1), .int ((i2 * 48271 + cell + 11) % 2147483647), .int 0])) := (SameX.of ((e3.trans e4).trans e5)).put
    have hS5 := sqX hS2 hH2 sx5
    have hH5 : (upd H5 a (.lst [.ref sc, .int (i1 + 1), .int ((i2 * 48271 + cell + 11) % 2147483647), .int 0])) a = some (.lst [.ref sc, .int (i1 + 1), .int ((i2 * 48271 + cell + 11) % 2147483647), .int 0]) := upd_same
    show tSeq _ _ _ _ (upd H5 a (.lst [.ref sc, .int (i1 + 1), .int ((i2 * 48271 + cell + 11) % 2147483647), .int 0]))
    generalize (upd H5 a (.lst [.ref sc, .int (i1 + 1), .int ((i2 * 48271 + cell + 11) % 2147483647), .int 0])) = H5' at sx5 hS5 hH5 ⊢
    refine Evl.q_when (b := decide ((10 : Int) ^ (18 : Int).toNat ≤ cell)) (Evl.et_test (Evl.ev_op (Evl.ev_var rfl) (Evl.ev_op (x := .int 10) (y := .int 18) Evl.ev_c Evl.ev_c (Evl.rv_I ⟨by decide, by decide, by decide⟩)) Evl.rv_I0)) (fun g H6 e6 => ?_) (fun g H6 e6 => ?_)
    · have g := of_decide_eq_true g
      have c0 : 0 ≤ cell := Int.le_trans (by decide) g
      have hH6 := e6 _ _ hH5
      refine Evl.s_setL (j := 3) (v := .int (cell / m)) hH6 (Evl.ev_op (Evl.ev_var rfl) (Evl.ev_var rfl) (Evl.rv_I ⟨by omega, by omega⟩)) (Evl.ev_var rfl) Evl.ev_c (by simp) fun H7 e7 => ?_
      have sx7 : SameX a H5' (upd H7 a (.lst [.ref sc, .int (i1 + 1), .int ((i2 * 48271 + cell + 11) % 2147483647), .int (cell / m)])) := (SameX.of (e6.trans e7)).put
      have hS7 := sqX hS5 hH5 sx7
      refine Evl.s_ret (v := .int (cell % m)) (Evl.ev_op (ev_int1 (Evl.ev_var rfl)) (Evl.ev_var rfl) (Evl.rv_I (by omega))) fun H8 e8 => ?_
      exact q _ _ (pm _).1 (pm _).2 (((sx2.trans sx5).trans sx7).trans (SameX.of e8)) ⟨ns, i1 + 1, _, cell / m, e8 _ _ upd_same, Evl.ex_l e8 hS7, by omega, pM _, Int.ediv_nonneg c0 (by omega)⟩
    · refine Evl.s_ret (v := .int (cell % m)) (Evl.ev_op (ev_int1 (Evl.ev_var rfl)) (Evl.ev_var rfl) (Evl.rv_I (by omega))) fun H8 e8 => ?_
      have e68 := e6.trans e8
      exact q _ _ (pm _).1 (pm _).2 ((sx2.trans sx5).trans (SameX.of e68)) ⟨ns, i1 + 1, _, 0, e68 _ _ hH5, Evl.ex_l e68 hS5, by omega, pM _, by omega⟩
/-! ### _law_loop -/
def ulen : Nat → Nat
  | 0 => 3
  | n + 1 => 3 * (4 * ulen n)
def spLoopS (K : PySem.W.Frag) : Nat → Sp
  | 0 => fun _ _ _ _ => False
  | n + 1 => fun vs H Q _ => ∃ a sc : Addr, vs = [.ref a, .int (n : Int), .int 3] ∧ RowAt K H a sc ∧ ∀ (cs : List C) (v : V) (H' : Hp), SameX a H H' → RowAt K H' a sc → DAt H' (.tuple (toDL cs)) v → okL cs → depL cs ≤ n → (unrL cs).length ≤ ulen n → Q v H'
theorem sc_loop : FnScope ["_law_row", "_law_deep", "_law_most", "_law_found", "_law_turn", "_law_body"] ["_law_row", "_law_deep", "_law_most"] (defScope s_law_loop) := ⟨rfl, rfl, rfl, by decide +kernel, rfl, by decide +kernel, by decide +kernel⟩
theorem ok_loop_succ {n : Nat} (hn : n ≤ 10) (D : Def K mg "_law_loop" s_law_loop ["_law_row", "_law_deep", "_law_most"] f fd) (T : Top mg) (D1 : Def K mg "_law_taken" s_law_taken ["_law_row", "_law_many"] f1 fd1)
    (G : FnOk P w K mg base CX0 (n + 2) f fd ["_law_row", "_law_deep", "_law_most"] (spLoopS K n)) : FnOk P w K mg base CX0 (n + 3) f fd ["_law_row", "_law_deep", "_law_most"] (spLoopS K (n + 1)) := by
  have G1 : FnOk P w K mg base CX0 1 f1 fd1 ["_law_row", "_law_many"] (spTaken K) := ok_taken D1 T
  refine D.F.ok sc_loop (fun vs H Q E h => by obtain ⟨_, _, rfl, _⟩ := h; rfl) (fun cdv A outer s H vs Q E hr h => ?_)
  obtain ⟨a, sc, rfl, ra, q⟩ := h
  have hr1 := hr.mono (show 1 ≤ n + 2 by omega)
  refine ⟨_, pss_cons (ps_set (i := 3) sc_loop.nd rfl (.inl rfl) (pe_tup pa_nil))
    (pss_cons (ps_for PassesOwn.never rfl (pi_range1 rfl T.z_range (pa_cons (pe_call G1 hr1 rfl D1.g D1.F.kp D1.b .nil pass0 (pa_cons (pv 0) (pa_cons (pe_op op_add (pv 2) pe_int) pa_nil))) pa_nil)) (pg_name (i := 4) sc_loop.nd rfl (.inl rfl))
      (Evl.pss_cut (ps_set (i := 5) sc_loop.nd rfl (.inl rfl) (pe_ifExp (PW.pt (pw_and (pt_cmpR op_gt (pv 1) pe_int (nomark _)) (pw_and1 (pt_cmpR op_eq (pe_call G1 hr1 rfl D1.g D1.F.kp D1.b .nil pass0 (pa_cons (pv 0) (pa_cons pe_int pa_nil))) pe_int (nomark _)))))
          (pe_call G hr rfl D.g D.F.kp D.b .nil pass0 (pa_cons (pv 0) (pa_cons (pe_op op_sub (pv 1) pe_int) (pa_cons pe_int pa_nil)))) (pe_tup pa_nil)))
      (pss_one (ps_set (i := 3) sc_loop.nd rfl (.inl rfl) (pe_op op_catA (pv 3) (pe_ifExp (pt_cmpR (op_neD hr.units) (pv 5) (pe_tup pa_nil) (nomark _))
        (pe_tup (pa_cons (pe_tup (pa_cons (pe_op op_add pe_int (pe_call G1 hr1 rfl D1.g D1.F.kp D1.b .nil pass0 (pa_cons (pv 0) (pa_cons pe_int pa_nil)))) (pa_cons (pv 5) pa_nil))) pa_nil))
        (pe_tup (pa_cons (pe_call G1 hr1 rfl D1.g D1.F.kp D1.b .nil pass0 (pa_cons (pv 0) (pa_cons pe_int pa_nil))) pa_nil))))))))
    (pss_one (ps_ret (pv 3)))), ?_⟩
  refine qd_asg (d := .tuple []) (ed_tup eds_nil (by decide)) fun v2 H2 e2 hd2 => ?_
  refine ⟨_, rfl, _, rfl, _, _, rfl, rfl, a, sc, 4, rfl, by decide, by decide, ra.up e2, fun r H3 r0 r4 sx3 ra3 => ?_⟩
  refine ⟨r, rfl, by omega, by omega, ?_⟩
  refine for_range (lo := 0) (n := r.toNat) (fun i σ' H' => ∃ cs vf y4 y5, σ' = [some (.ref a), some (.int (n : Int)), some (.int 3), some vf, y4, y5] ∧ SameX a H H' ∧ RowAt K H' a sc ∧ DAt H' (.tuple (toDL cs)) vf ∧ okL cs ∧ depL cs ≤ n ∧ cs.length = i ∧ 3 * (unrL cs).length ≤ i * ulen n) ?_ ?_ ?_
  · refine ⟨[], v2, none, none, rfl, (SameX.of e2).trans sx3, ra3, ?_, ?_, ?_, rfl, ?_⟩
    · rw [toDL]
      have k3 := sx3.keep (ra.up e2).no
      have z := ints_keep (ns := []) k3 (show DAt H2 (intsD []) v2 from hd2)
      exact z
    · simp [okL]
    · simp [depL]
    · simp [unrL]
  · rintro i σ' H4 hi ⟨cs, vf, y4, y5, rfl, sx4, ra4, hf, okc, dc, lc, uc⟩
    have i3 : i < 3 := by omega
    -- the body: nothing, or looped code one less deep
    refine Evl.q_cut (M := fun σ' H' => ∃ bs vb, σ' = [some (.ref a), some (.int (n : Int)), some (.int 3), some vf, some (.int (0 + (i : Int))), some vb] ∧ SameX a H H' ∧ RowAt K H' a sc ∧ DAt H' (.tuple (toDL cs)) vf ∧ DAt H' (.tuple (toDL bs)) vb ∧ okL bs ∧ (bs = [] ∨ depL bs + 1 ≤ n) ∧ 12 * (unrL bs).length ≤ ulen n) ?_ ?_
    · have none_b : ∀ H5, SameX a H H5 → RowAt K H5 a sc → DAt H5 (.tuple (toDL cs)) vf → tTup tNil [some (.ref a), some (.int (n : Int)), some (.int 3), some vf, some (.int (0 + (i : Int))), y5] H5 fun x H1 => ∃ bs vb, [some (V.ref a), some (.int (n : Int)), some (.int 3), some vf, some (.int (0 + (i : Int))), some x] = [some (.ref a), some (.int (n : Int)), some (.int 3), some vf, some (.int (0 + (i : Int))), some vb] ∧ SameX a H H1 ∧ RowAt K H1 a sc ∧ DAt H1 (.tuple (toDL cs)) vf ∧ DAt H1 (.tuple (toDL bs)) vb ∧ okL bs ∧ (bs = [] ∨ depL bs + 1 ≤ n) ∧ 12 * (unrL bs).length ≤ ulen n := fun H5 sx5 ra5 hf5 => by
        refine ed_tup (σ := _) (H := H5) (ds := []) eds_nil (by decide) H5 (Ex.refl H5) _ fun v H6 e6 hd6 => ?_
        exact ⟨[], v, rfl, sx5.trans (SameX.of e6), ra5.up e6, hf5.up e6, by rw [toDL]; exact hd6, by simp [okL], .inl rfl, by simp [unrL]⟩
      refine ⟨_, rfl, _, _, rfl, rfl, _, rfl, ?_⟩
      refine ite2 (fun c => ?_) (fun c => ?_)
      · have c := of_decide_eq_true c
        obtain ⟨n', rfl⟩ : ∃ n', n = n' + 1 := ⟨n - 1, by omega⟩
        refine ⟨_, rfl, a, sc, 3, rfl, by decide, by decide, ra4, fun r5 H5 p0 p3 sx5 ra5 => ?_⟩
        have hf5 := dat_code_keep (sx5.keep ra4.no) hf
        refine ⟨rfl, _, rfl, ?_⟩
        refine ite2 (fun c5 => ?_) (fun c5 => none_b H5 (sx4.trans sx5) ra5 hf5)
        refine ⟨_, rfl, _, rfl, _, _, rfl, rfl, a, sc, ?_, ra5, fun bs vb H6 sx6 ra6 hb6 okb db ub => ?_⟩
        · have z : ((n' + 1 : Nat) : Int) - 1 = (n' : Int) := by omega
          show [V.ref a, .int (((n' + 1 : Nat) : Int) - 1), .int 3] = _
          rw [z]
        · exact ⟨bs, vb, rfl, (sx4.trans sx5).trans sx6, ra6, dat_code_keep (sx6.keep ra5.no) hf5, hb6, okb, .inr (by omega), by simp only [ulen]; omega⟩
      · exact none_b H4 sx4 ra4 hf
    · -- found + ..
      rintro σ5 H5 ⟨bs, vb, rfl, sx5, ra5, hf5, hb5, okb, db, ub⟩
      have done : ∀ (c : C) (v : V) (H6 : Hp), SameX a H5 H6 → RowAt K H6 a sc → DAt H6 (.tuple [toD c]) v → okC c → dep c ≤ n → 3 * (unr c).length ≤ ulen n → rCatA K vf v H6 fun x H1 => ∃ cs vf y4 y5, [some (V.ref a), some (.int (n : Int)), some (.int 3), some x, some (.int (0 + (i : Int))), some vb] = [some (.ref a), some (.int (n : Int)), some (.int 3), some vf, y4, y5] ∧ SameX a H H1 ∧ RowAt K H1 a sc ∧ DAt H1 (.tuple (toDL cs)) vf ∧ okL cs ∧ depL cs ≤ n ∧ cs.length = i + 1 ∧ 3 * (unrL cs).length ≤ (i + 1) * ulen n := fun c v H6 sx6 ra6 hv okv dv uv => by
        have hf6 := dat_code_keep (sx6.keep ra5.no) hf5
        refine rd_cat (K := K) (H := H6) (xs := toDL cs) (ys := [toD c]) (by rw [toDL_length]; simp; omega) vf v H6 (Ex.refl H6) hf6 hv _ fun x H7 e7 hd7 => ?_
        refine ⟨cs ++ [c], x, _, _, rfl, (sx5.trans sx6).trans (SameX.of e7), ra6.up e7, ?_, ?_, ?_, ?_, ?_⟩
        · rw [toDL_append]
          exact hd7
        · rw [okL_append]
          exact ⟨okc, by simp [okL, okv]⟩
        · rw [depL_append]
          simp [depL]
          omega
        · rw [List.length_append, lc]
          rfl
        · have z : (i + 1) * ulen n = i * ulen n + ulen n := Nat.succ_mul i (ulen n)
          rw [unrL_append, List.length_append, z]
          simp only [unrL, List.append_nil]
          omega
      refine ⟨_, rfl, _, rfl, ?_⟩
      refine ed_tup (σ := _) (H := H5) (ds := []) eds_nil (by decide) H5 (Ex.refl H5) _ fun v6 H6 e6 hd6 => ?_
      have hb6 := hb5.up e6
      have ra6 := ra5.up e6
      have sb : SeqAt.shaped (.tuple (toDL bs)) = true := shaped_code (by
        rcases db with rfl | db
        · simp [depL]
        · omega)
      refine rd_neD (K := K) (H := H6) sb rfl vb v6 H6 (Ex.refl H6) hb6 hd6 _ fun t H7 e7 ht => ?_
      rw [eqv_nil] at ht
      refine ⟨_, bl_dat ht, ?_⟩
      have ra7 := ra6.up e7
      have hb7 := hb6.up e7
      have e57 := e6.trans e7
      refine ite2 (fun c => ?_) (fun c => ?_)
      · refine ⟨_, rfl, a, sc, 3, rfl, by decide, by decide, ra7, fun r8 H8 p0 p3 sx8 ra8 => ?_⟩
        refine ⟨2, r8, rfl, rfl, ?_⟩
        refine ⟨vb, rfl, ?_⟩
        have hb8 := dat_code_keep (sx8.keep ra7.no) hb7
        have ne : bs ≠ [] := fun z => by
          subst z
          simp [toDL] at c
        have okn : okC (.rep (2 + r8) bs) := by
          simp only [okC]
          exact ⟨by omega, by omega, ne, okb⟩
        have un : 3 * (unr (.rep (2 + r8) bs)).length ≤ ulen n := by
          rw [(rep_half okn).2.2]
          have t4 : (2 + r8).toNat ≤ 4 := by omega
          have z : (2 + r8).toNat * (unrL bs).length ≤ 4 * (unrL bs).length := Nat.mul_le_mul_right _ t4
          omega
        refine ⟨by show 2 ≤ sizeLine; decide, fun p hp => ?_⟩
        refine ⟨by show 1 ≤ sizeLine; decide, fun p' hp' => ?_⟩
        refine done (.rep (2 + r8) bs) _ _ (((SameX.of e57).trans sx8).trans (SameX.of ((Ex.new hp).trans (Ex.new hp')))) (ra8.up ((Ex.new hp).trans (Ex.new hp'))) ?_ okn ?_ un
        · rw [toD]
          exact dat_tup upd_same (dall_cons (DAt.up (dat_tup upd_same (dall_cons dat_int (dall_cons (hb8.up (Ex.new hp)) dall_nil))) (Ex.new hp')) dall_nil)
        · simp only [dep]
          rcases db with rfl | db
          · exact absurd rfl ne
          · exact db
      · refine ⟨_, rfl, a, sc, 4, rfl, by decide, by decide, ra7, fun r8 H8 p0 p3 sx8 ra8 => ?_⟩
        refine ⟨by show 1 ≤ sizeLine; decide, fun p hp => ?_⟩
        refine done (.box r8) _ _ (((SameX.of e57).trans sx8).trans (SameX.of (Ex.new hp))) (ra8.up (Ex.new hp)) ?_ ?_ ?_ ?_
        · rw [toD]
          exact dat_tup upd_same (dall_cons dat_int dall_nil)
        · simp only [okC]
          omega
        · simp [dep]
        · simp only [unr, List.length_singleton]
          cases n with
          | zero => simp [ulen]
          | succ k =>
            have z : ∀ k, 3 ≤ ulen k := fun k => by
              induction k with
              | zero => simp [ulen]
              | succ k ih => simp only [ulen]; omega
            exact z _
  · rintro σ' H4 ⟨cs, vf, y4, y5, rfl, sx4, ra4, hf, okc, dc, lc, uc⟩
    refine ⟨vf, rfl, q cs vf H4 sx4 ra4 hf okc dc ?_⟩
    have z : r.toNat * ulen n ≤ 3 * ulen n := Nat.mul_le_mul_right _ (by omega)
    omega
theorem ok_loop (D : Def K mg "_law_loop" s_law_loop ["_law_row", "_law_deep", "_law_most"] f fd) (T : Top mg) (D1 : Def K mg "_law_taken" s_law_taken ["_law_row", "_law_many"] f1 fd1) :
    ∀ n : Nat, n ≤ 10 → FnOk P w K mg base CX0 (n + 2) f fd ["_law_row", "_law_deep", "_law_most"] (spLoopS K n)
  | 0, _ => ⟨fun vs H Q E h => h.elim, fun A outer s H args us vs Q E _ _ _ _ h => h.elim⟩
  | n + 1, h => ok_loop_succ (by omega) D T D1 (ok_loop D T D1 n (by omega))
end
end
end RF
namespace RF
section
open PySem L2 PyProof.Rows
open Evl (Ex Ev EvT EvA EvO)
/-! _law_folds -/
def Known (kvs : List (List Key × V)) : Prop := ∀ (ks : List Int) (v : V), valV kvs (keyI ks) = some v → v = .int (F ks)
theorem Known.put {kvs : List (List Key × V)} (h : Known kvs) (w : List Int) : Known (putK kvs (keyI w) (.int (F w))) := fun ks v e => by
  rw [valV_put] at e
  by_cases c : keyI ks = keyI w
  · rw [if_pos c] at e
    cases e
    rw [keyI_inj c]
  · rw [if_neg c] at e
    exact h ks v e
def spLf : Nat → Sp := fun n vs H Q _ => ∃ (w : List Int) (vw : V) (kd : Addr) (kvs : List (List Key × V)), vs = [vw, .ref kd] ∧ DAt H (intsD w) vw ∧ w.length < n ∧ w.length ≤ 10 ∧ H kd = some (.dT kvs) ∧ Known kvs ∧ kvs.length + 4 ^ w.length ≤ 8000000 ∧
  ∀ (kvs' : List (List Key × V)) (H' : Hp), SameX kd H H' → H' kd = some (.dT kvs') → Known kvs' → kvs'.length ≤ kvs.length + 4 ^ w.length → Q (.int (F w)) H'
theorem pow_up {a b : Nat} (h : a ≤ b) : 4 ^ a ≤ 4 ^ b := Nat.pow_le_pow_right (by decide) h
/-- y = [e for x in range(a, b)], e may change what stands: Pv by the new list, the heap ahead, the turn and the heap -/
theorem q_lcR2 {σ : L2.St} {H : Hp} {ta : TA} {te : TE} {D : Ends} {tz : TS} {i j : Nat} {vs : List Nat} {lo n : Int} (h : EvA ta σ H [.int lo, .int n]) (hn : 0 ≤ lo ∧ lo ≤ 100000 ∧ -100000 ≤ n ∧ n ≤ 100000) (hw : ∀ x, wipe ((wipe σ vs).set j (some x)) vs = wipe σ vs)
    (Pv : Addr → Hp → Nat → Hp → Prop) (h0 : ∀ Dl H1, Ex H H1 → H1 Dl = none → Pv Dl H1 0 (upd H1 Dl (.lst [])))
    (hs : ∀ Dl H1 (k : Nat) H', Ex H H1 → H1 Dl = none → lo + (k : Int) < n → Pv Dl H1 k H' → te ((wipe σ vs).set j (some (.int (lo + (k : Int))))) H' fun y H4 => ∃ acc, H4 Dl = some (.lst acc) ∧ acc.length < sizeLine ∧ Pv Dl H1 (k + 1) (upd H4 Dl (.lst (acc ++ [y]))))
    (hd : ∀ Dl H1 H', Ex H H1 → H1 Dl = none → Pv Dl H1 (n - lo).toNat H' → tz D (σ.set i (some (.ref Dl))) H') : tSeq (tAsg (tLc (iRng2 ta) (gName j) tYes te vs) (gName i)) tz D σ H :=
  h H (Ex.refl H) _ fun H1 e1 => ⟨lo, n, rfl, ⟨by omega, by omega, by omega, by omega⟩, fun Dl hD => lc_range (lo := lo) (n := (n - lo).toNat) (Pv Dl H1) (h0 Dl H1 e1 hD) (fun k H' hk p => ⟨hw _, hs Dl H1 k H' e1 hD (by omega) p⟩) (fun H' p => hd Dl H1 H' e1 hD p)⟩
section
variable {P : Program} {w : World} {K : PySem.W.Frag} {mg : Str → Option Value} {base : Heap} {f f1 : Addr} {fd fd1 : FuncData}
theorem csl {X : Cx} {K : PySem.W.Frag} (h : X.K = K) : SlR X (rSlA K) := by
  subst h
  exact sl_tupA
theorem sc_lf : FnScope ["_law_word", "_law_known", "_law_found", "_law_size", "_law_cut"] ["_law_word", "_law_known"] (defScope s_law_folds) := ⟨rfl, rfl, rfl, by decide +kernel, rfl, by decide +kernel, by decide +kernel⟩
theorem dT_no {H : Hp} {kd : Addr} {kvs : List (List Key × V)} (h : H kd = some (.dT kvs)) : ∀ xs, H kd ≠ some (.tup xs) := fun xs z => by
  rw [h] at z
  cases z
theorem ok_lf_succ {n : Nat} (D : Def K mg "_law_folds" s_law_folds ["_law_word", "_law_known"] f fd) (T : Top mg) (G : FnOk P w K mg base CX0 (n + 1) f fd ["_law_word", "_law_known"] (spLf n)) : FnOk P w K mg base CX0 (n + 2) f fd ["_law_word", "_law_known"] (spLf (n + 1)) := by
  refine D.F.ok sc_lf (fun vs H Q E h => by obtain ⟨_, _, _, _, rfl, _⟩ := h; rfl) (fun cdv A outer s H vs Q E hr h => ?_)
  obtain ⟨w, vw, kd, kvs, rfl, hw, ln, l10, hkd, kn, bk, q⟩ := h
  refine ⟨_, pss_cons (ps_if (pt_cmpR op_lt (pe_callB call_lenA rfl T.z_len PySem.boot_len (pa_cons (pv 0) pa_nil)) pe_int (nomark _)) (pss_one (ps_ret (pe_callB call_lenA rfl T.z_len PySem.boot_len (pa_cons (pv 0) pa_nil)))) pss_nil)
    (Evl.pss_cut (ps_if (pt_cmp (pc_dnotin (hu_of hr) (pv 0) (pv 1)))
      (pss_cons (ps_setLc (i := 2) (own := [("_law_cut", 4)]) (g := gName 4) (tt := tYes) rfl sc_lf.nd rfl rfl (sw_true rfl rfl rfl (by decide +kernel)) (pi_range2 rfl T.z_range (pa_cons pe_int (pa_cons (pe_callB call_lenA rfl T.z_len PySem.boot_len (pa_cons (pv 0) pa_nil)) pa_nil)))
          (blkOk_by (N := ["_law_word", "_law_known", "_law_found", "_law_size", "_law_cut"]) (sc := defScope s_law_folds) (by decide +kernel)) (fun _ _ _ _ _ => pg_name (i := 4) sc_lf.nd rfl (Or.inl rfl)) (fun _ _ _ _ _ => pts_nil)
          (fun _ _ _ _ _ => pe_op op_add (pe_call G hr rfl D.g D.F.kp D.b .nil pass0 (pa_cons (pe_slice (csl (K := K) rfl) (pv 0) po_none (po_some (pv 4))) (pa_cons (pv 1) pa_nil)))
            (pe_call G hr rfl D.g D.F.kp D.b .nil pass0 (pa_cons (pe_slice (csl (K := K) rfl) (pv 0) (po_some (pv 4)) po_none) (pa_cons (pv 1) pa_nil)))))
      (pss_cons (ps_for PassesOwn.never rfl (pi_range2 rfl T.z_range (pa_cons pe_int (pa_cons (pe_callB call_lenA rfl T.z_len PySem.boot_len (pa_cons (pv 0) pa_nil)) pa_nil))) (pg_name (i := 3) sc_lf.nd rfl (.inl rfl))
        (pss_one (ps_if (PW.pt (pw_and (pt_cmpR op_eq (pe_op op_mod (pe_callB call_lenA rfl T.z_len PySem.boot_len (pa_cons (pv 0) pa_nil)) (pv 3)) pe_int (nomark _))
            (pw_and1 (pt_cmpR (op_eqD hr.units) (pv 0) (pe_op op_repT (pe_slice sl_tupA (pv 0) po_none (po_some (pv 3))) (pe_op op_fdiv (pe_callB call_lenA rfl T.z_len PySem.boot_len (pa_cons (pv 0) pa_nil)) (pv 3))) (nomark _)))))
          (pss_one (ps_expr (pe_bm PySem.F.plainAttrs_list PySem.F.slot_list_append PySem.F.type_list_append mt_append (pv 2) (pa_cons (pe_call G hr rfl D.g D.F.kp D.b .nil pass0 (pa_cons (pe_slice sl_tupA (pv 0) po_none (po_some (pv 3))) (pa_cons (pv 1) pa_nil))) pa_nil)))) pss_nil)))
      (pss_one (ps_dput (hu_of hr) (pv 1) (pv 0) (pe_callB (cr_min rfl) rfl T.z_min (by decide +kernel) (pa_cons (pv 2) pa_nil)) rfl)))) pss_nil)
    (pss_one (ps_ret (pe_dget (hu_of hr) (pv 1) (pv 0) (fun _ _ => rfl))))), ?_⟩
  have lenW : ∀ {σ : L2.St} {H' : Hp}, σ[0]? = some (some vw) → DAt H' (intsD w) vw → EvD (tCB (rLenA K) (tCons (tVar 0) tNil)) σ H' (.int (w.length : Int)) := fun h e => ed_is (ed_len (ds := w.map .int) (ed_var h e)) (by rw [List.length_map])
  have cutW : ∀ {σ : L2.St} {H' : Hp} {j : Nat} {i : Nat}, σ[0]? = some (some vw) → DAt H' (intsD w) vw → σ[j]? = some (some (.int (i : Int))) → EvD (tSl (rSlA K) (tVar 0) tNoPart (tPart (tVar j))) σ H' (intsD (w.take i)) := fun h e h3 =>
    ed_is (ed_slice (ed_var h e) Evl.eo_none (eo_D (ed_var h3 dat_int))) (by rw [cutD_map, cutD_to])
  have dropW : ∀ {σ : L2.St} {H' : Hp} {j : Nat} {i : Nat}, σ[0]? = some (some vw) → DAt H' (intsD w) vw → σ[j]? = some (some (.int (i : Int))) → EvD (tSl (rSlA K) (tVar 0) (tPart (tVar j)) tNoPart) σ H' (intsD (w.drop i)) := fun h e h3 =>
    ed_is (ed_slice (ed_var h e) (eo_D (ed_var h3 dat_int)) Evl.eo_none) (by rw [cutD_map, cutD_from])
  refine Evl.q_when (b := decide ((w.length : Int) < 2)) (et_T (ed_op (lenW rfl hw) ed_int (rd_I0 fun _ => dat_bl))) (fun c H1 e1 => ?_) (fun c H1 e1 => ?_)
  · have c := of_decide_eq_true c
    refine Evl.s_ret (lenW rfl (hw.up e1)).int fun H2 e2 => ?_
    have z := q kvs H2 (SameX.of (e1.trans e2)) ((e1.trans e2) _ _ hkd) kn (Nat.le_add_right _ _)
    rwa [F_small (by omega)] at z
  have c := of_decide_eq_false c
  have n2 : 2 ≤ w.length := by omega
  have hw1 := hw.up e1
  have hkd1 := e1 _ _ hkd
  refine Evl.q_cut (M := fun σ' H' => ∃ y2 y3 y4 kvs', σ' = [some vw, some (.ref kd), y2, y3, y4] ∧ SameX kd H1 H' ∧ H' kd = some (.dT kvs') ∧ Known kvs' ∧ kvs'.length ≤ kvs.length + 4 ^ w.length ∧ valV kvs' (keyI w) = some (.int (F w))) ?_ ?_
  · -- not known?
    obtain ⟨bw, rfl, hbw⟩ := ints_key hw1
    refine ⟨_, rfl, _, rfl, kd, _, rfl, DGet.t hkd1 hbw, _, rfl, ?_⟩
    cases hv : valV kvs (keyI w) with
    | some v =>
      refine iteF ⟨_, _, _, kvs, rfl, SameX.refl _ _, hkd1, kn, Nat.le_add_right _ _, ?_⟩
      rw [hv, kn w v hv]
    | none =>
      refine iteT ?_
      -- the cuts
      refine q_lcR2 (lo := 1) (n := (w.length : Int)) (Evl.ea_cons Evl.ev_c (Evl.ea_cons (lenW rfl hw1).int Evl.ea_nil)) (by omega) (fun _ => rfl) (fun Dl H2 i H' => SameX kd H2 H' ∧ H' Dl = some (.lst ((cuts F w i).map V.int)) ∧ ∃ kvs', H' kd = some (.dT kvs') ∧ Known kvs' ∧ 3 * kvs'.length + 4 + 4 ^ (w.length - i) ≤ 3 * kvs.length + 4 ^ (i + 1) + 4 ^ w.length) ?_ ?_ ?_
      · intro Dl H2 e2 hD
        have hkd2 := e2 _ _ hkd1
        have nDk : Dl ≠ kd := fun z => by rw [z, hkd2] at hD; cases hD
        exact ⟨SameX.of (Ex.new hD), upd_same, kvs, by rw [upd_ne nDk.symm]; exact hkd2, kn, by simp⟩
      · rintro Dl H2 i H3 e2 hD hi ⟨sx3, hD3, kvs3, hk3, kn3, b3⟩
        have hkd2 := e2 _ _ hkd1
        have nDk : Dl ≠ kd := fun z => by rw [z, hkd2] at hD; cases hD
        have hi : i + 1 < w.length := by omega
        have ci : (1 : Int) + (i : Int) = ((i + 1 : Nat) : Int) := by omega
        have hw3 : DAt H3 (intsD w) (.ref bw) := ints_keep (sx3.keep (dT_no hkd2)) (hw1.up e2)
        have p1 : 4 ^ (i + 1 + 1) = 4 * 4 ^ (i + 1) := by rw [Nat.pow_succ]; omega
        have p2 : 4 ^ (w.length - i) = 4 * 4 ^ (w.length - (i + 1)) := by
          rw [show w.length - i = (w.length - (i + 1)) + 1 by omega, Nat.pow_succ]
          omega
        have p3 : 4 ^ (i + 1 + 1) ≤ 4 ^ w.length := pow_up (by omega)
        rw [ci]
        have lt1 : (w.take (i + 1)).length = i + 1 := by rw [List.length_take]; omega
        have ld1 : (w.drop (i + 1)).length = w.length - (i + 1) := by rw [List.length_drop]
        refine cutW (σ := [some (.ref bw), some (.ref kd), none, none, some (.int ((i + 1 : Nat) : Int))]) (j := 4) (i := i + 1) rfl hw3 rfl H3 (Ex.refl H3) _ fun v4 H4 e4 hv4 => ?_
        refine ⟨_, rfl, w.take (i + 1), v4, kd, kvs3, rfl, hv4, by omega, by omega, e4 _ _ hk3, kn3, by rw [lt1]; omega, fun kvs5 H5 sx5 hk5 kn5 b5 => ?_⟩
        rw [lt1] at b5
        have sx35 : SameX kd H3 H5 := (SameX.of e4).trans sx5
        have hw5 : DAt H5 (intsD w) (.ref bw) := ints_keep (sx35.keep (dT_no hk3)) hw3
        refine dropW (σ := [some (.ref bw), some (.ref kd), none, none, some (.int ((i + 1 : Nat) : Int))]) (j := 4) (i := i + 1) rfl hw5 rfl H5 (Ex.refl H5) _ fun v6 H6 e6 hv6 => ?_
        refine ⟨_, rfl, w.drop (i + 1), v6, kd, kvs5, rfl, hv6, by omega, by omega, e6 _ _ hk5, kn5, by rw [ld1]; omega, fun kvs7 H7 sx7 hk7 kn7 b7 => ?_⟩
        rw [ld1] at b7
        have sx37 : SameX kd H3 H7 := sx35.trans ((SameX.of e6).trans sx7)
        refine ⟨_, _, rfl, rfl, _, sx37 _ _ nDk hD3, ?_, fun b o nb hb => ?_, ?_, kvs7, ?_, kn7, by omega⟩
        · rw [List.length_map, cuts_length]
          exact Evl.sz_lt (by omega)
        · have nbD : b ≠ Dl := fun z => by rw [z, hD] at hb; cases hb
          rw [upd_ne nbD]
          exact sx37 b o nb (sx3 b o nb hb)
        · rw [upd_same, cuts_succ, List.map_append]
          rfl
        · rw [upd_ne nDk.symm]
          exact hk7
      · rintro Dl H2 H3 e2 hD ⟨sx3, hD3, kvs3, hk3, kn3, b3⟩
        have hkd2 := e2 _ _ hkd1
        have nDk : Dl ≠ kd := fun z => by rw [z, hkd2] at hD; cases hD
        have e1n : ((w.length : Int) - 1).toNat = w.length - 1 := by omega
        rw [e1n] at hD3 b3
        have p2 : 4 ^ (w.length - (w.length - 1)) = 4 := by rw [show w.length - (w.length - 1) = 1 by omega]
        have p3 : 4 ^ (w.length - 1 + 1) = 4 ^ w.length := by rw [show w.length - 1 + 1 = w.length by omega]
        rw [p2, p3] at b3
        have sx13 : SameX kd H1 H3 := (SameX.of e2).trans sx3
        have hw3 : DAt H3 (intsD w) (.ref bw) := ints_keep (sx13.keep (dT_no hkd1)) hw1
        -- the parts
        refine Evl.q_forR2 (lo := 1) (n := (w.length : Int)) (Evl.ea_cons Evl.ev_c (Evl.ea_cons (lenW rfl hw3).int Evl.ea_nil)) (by omega) (fun j σ' H' => ∃ y3, σ' = [some (.ref bw), some (.ref kd), some (.ref Dl), y3, none] ∧ SameX kd H1 H' ∧ H' Dl = some (.lst ((cuts F w (w.length - 1) ++ parts F w j).map V.int)) ∧
          ∃ kvs', H' kd = some (.dT kvs') ∧ Known kvs' ∧ 3 * kvs'.length + 12 ≤ 3 * kvs.length + 2 * 4 ^ w.length + 4 ^ (j + 1)) ?_ ?_ ?_
        · intro H4 e4
          refine ⟨none, rfl, sx13.trans (SameX.of e4), ?_, kvs3, e4 _ _ hk3, kn3, by simp; omega⟩
          have z : parts F w 0 = [] := rfl
          rw [z, List.append_nil]
          exact e4 _ _ hD3
        · clear hD3 b3 hk3 kn3 hw3
          rintro j σ' H4 hj ⟨y3, rfl, sx4, hD4, kvs4, hk4, kn4, b4⟩
          have hj : j + 1 < w.length := by omega
          have cj : (1 : Int) + (j : Int) = ((j + 1 : Nat) : Int) := by omega
          rw [cj]
          have hw4 : DAt H4 (intsD w) (.ref bw) := ints_keep (sx4.keep (dT_no hkd1)) hw1
          have p1 : 4 ^ (j + 1 + 1) = 4 * 4 ^ (j + 1) := by rw [Nat.pow_succ]; omega
          have p3 : 4 ^ (j + 1 + 1) ≤ 4 ^ w.length := pow_up (by omega)
          have lt1 : (w.take (j + 1)).length = j + 1 := by rw [List.length_take]; omega
          have newP := parts_succ F w j
          refine Evl.s_when (b := period w (j + 1)) ?_ (fun hp H5 e5 => ?_) (fun hp H5 e5 => ?_)
          · unfold period
            refine Evl.et_and (a := decide (w.length % (j + 1) = 0)) (Evl.et_is (et_T (ed_op (dx := .int ((w.length % (j + 1) : Nat) : Int)) (ed_op (lenW rfl hw4) (ed_var rfl dat_int) (rd_I (by omega) fun _ => ?_)) ed_int rd_eqI)) ?_) fun hm => ?_
            · rw [← Int.natCast_emod]
              exact dat_int
            · rw [Bool.eq_iff_iff, decide_eq_true_eq, decide_eq_true_eq]
              omega
            · have hm := of_decide_eq_true hm
              have h2q : 2 ≤ w.length / (j + 1) := by
                have z := Nat.div_add_mod w.length (j + 1)
                rw [hm] at z
                rcases Nat.lt_or_ge (w.length / (j + 1)) 2 with c | c
                · have z2 : (j + 1) * (w.length / (j + 1)) ≤ (j + 1) * 1 := Nat.mul_le_mul_left _ (by omega)
                  omega
                · exact c
              have hqs : w.length / (j + 1) ≤ w.length := Nat.div_le_self _ _
              refine et_T (ed_op (ed_var rfl hw4) (ed_is (ed_op (cutW (j := 3) (i := j + 1) rfl hw4 rfl) (ed_op (d := .int ((w.length / (j + 1) : Nat) : Int)) (lenW rfl hw4) (ed_var rfl dat_int) (rd_I ⟨by omega, by omega⟩ fun _ => ?_)) (rd_rep ?_ (by omega) (by omega) (by rw [List.length_map, lt1]; omega))) ?_) rd_eqT)
              · rw [← Int.natCast_ediv]
                exact dat_int
              · intro z
                have z := congrArg List.length z
                rw [List.length_map, lt1] at z
                simp at z
              · rw [rep_map, Int.toNat_natCast]
          · rw [if_pos hp] at newP
            have hD5 := e5 _ _ hD4
            have hk5 := e5 _ _ hk4
            refine ⟨_, rfl, .inl ⟨rfl, _, SqL.of hD5⟩, ?_⟩
            refine cutW (σ := [some (.ref bw), some (.ref kd), some (.ref Dl), some (.int ((j + 1 : Nat) : Int)), none]) (j := 3) (i := j + 1) rfl (hw4.up e5) rfl H5 (Ex.refl H5) _ fun v6 H6 e6 hv6 => ?_
            refine ⟨_, rfl, w.take (j + 1), v6, kd, kvs4, rfl, hv6, by omega, by omega, e6 _ _ hk5, kn4, by rw [lt1]; omega, fun kvs7 H7 sx7 hk7 kn7 b7 => ?_⟩
            rw [lt1] at b7
            have sx47 : SameX kd H4 H7 := (SameX.of (e5.trans e6)).trans sx7
            refine ⟨Dl, _, _, rfl, rfl, sx47 _ _ nDk hD4, ?_, ?_⟩
            · have z := parts_length F w j
              rw [List.length_map, List.length_append, cuts_length]
              exact Evl.sz_lt (by omega)
            · refine ⟨_, rfl, fun b o nb hb => ?_, ?_, kvs7, ?_, kn7, by omega⟩
              · have nbD : b ≠ Dl := fun z => by
                  rw [z] at hb
                  rw [e2 _ _ hb] at hD
                  cases hD
                rw [upd_ne nbD]
                exact sx47 b o nb (sx4 b o nb hb)
              · rw [upd_same, newP, ← List.append_assoc, List.map_append (l₁ := cuts F w (w.length - 1) ++ parts F w j)]
                rfl
              · rw [upd_ne nDk.symm]
                exact hk7
          · rw [if_neg (by rw [hp]; exact Bool.false_ne_true), List.append_nil] at newP
            refine ⟨_, rfl, sx4.trans (SameX.of e5), ?_, kvs4, e5 _ _ hk4, kn4, by omega⟩
            rw [newP]
            exact e5 _ _ hD4
        · clear hD3 b3 hk3 kn3 hw3
          rintro σ' H4 ⟨y3, rfl, sx4, hD4, kvs4, hk4, kn4, b4⟩
          rw [e1n] at hD4 b4
          rw [p3] at b4
          have mn := F_min n2
          unfold cands at mn
          refine ⟨_, rfl, Dl, _, rfl, SqL.of hD4, ?_, fun m g1 g2 => ?_⟩
          · rw [List.length_append, cuts_length]
            omega
          have em : m = F w := MinOf.uniq ⟨g1, g2⟩ mn
          subst em
          have hw4 : H4 bw = some (.tup ((keyI w).map kV)) := sx4.keep (dT_no hkd1) _ _ hbw
          have lp := length_putK kvs4 (keyI w) (.int (F w))
          have b5 : kvs4.length + 4 ≤ kvs.length + 4 ^ w.length := by omega
          refine ⟨_, rfl, _, rfl, kd, _, rfl, DPut.t hk4 hw4 (by rw [sizeLine_eq]; omega), ?_⟩
          refine ⟨_, _, _, putK kvs4 (keyI w) (.int (F w)), rfl, sx4.put, upd_same, kn4.put w, by omega, ?_⟩
          rw [valV_put, if_pos rfl]
  · rintro σ' H2 ⟨y2, y3, y4, kvs2, rfl, sx2, hk2, kn2, b2, hv⟩
    obtain ⟨bw, rfl, hbw⟩ := ints_key hw1
    have hw2 := sx2.keep (dT_no hkd1) _ _ hbw
    refine ⟨_, rfl, _, rfl, kd, .int (F w), rfl, ?_, q kvs2 H2 ((SameX.of e1).trans sx2) hk2 kn2 b2⟩
    rw [← hv]
    exact DGet.t hk2 hw2
theorem ok_lf (D : Def K mg "_law_folds" s_law_folds ["_law_word", "_law_known"] f fd) (T : Top mg) : ∀ n : Nat, FnOk P w K mg base CX0 (n + 1) f fd ["_law_word", "_law_known"] (spLf n)
  | 0 => by
    have no : ∀ vs H Q E, ¬ spLf 0 vs H Q E := fun vs H Q E h => by
      obtain ⟨_, _, _, _, _, _, z, _⟩ := h
      omega
    exact ⟨fun vs H Q E h => absurd h (no vs H Q E), fun A outer s H args us vs Q E _ _ _ _ h => absurd h (no vs H Q E)⟩
  | n + 1 => ok_lf_succ D T (ok_lf D T n)
end
end
end RF
namespace RF
section
open PySem L2 PyProof.Rows
open Evl (Ex Ev EvT EvA EvO)
/-! law -/
/-! ### a list whose items are only known to be some -/
abbrev opq : PyData := .dict [(.none, .none)]
theorem dat_opq {H : Hp} {ds : List PyData} {v : V} (h : DAt H (.list ds) v) : DAt H opq v := by
  obtain ⟨p, xs, h1, h2, _⟩ := lst_dat h
  rw [DAt]
  exact ⟨p, h1, xs, h2⟩
theorem ed_opq {te : TE} {σ : L2.St} {H : Hp} {ds : List PyData} (h : EvD te σ H (.list ds)) : EvD te σ H opq := fun H1 e Q q => h H1 e Q fun v H2 e2 hd => q v H2 e2 (dat_opq hd)
/-- tuples kept, lists stay lists, empty dicts stay so -/
structure KeepL (H H' : Hp) : Prop where
  tup : KeepT H H'
  lst : ∀ p xs, H p = some (.lst xs) → ∃ ys, H' p = some (.lst ys)
  dk : ∀ p, H p = some (.dK []) → H' p = some (.dK [])
theorem KeepL.of {H H' : Hp} (e : Ex H H') : KeepL H H' := ⟨fun p xs h => e p _ h, fun p xs h => ⟨xs, e p _ h⟩, fun p h => e p _ h⟩
theorem KeepL.trans {H H1 H2 : Hp} (a : KeepL H H1) (b : KeepL H1 H2) : KeepL H H2 := ⟨fun p xs h => b.tup p xs (a.tup p xs h), fun p xs h => by
  obtain ⟨ys, h1⟩ := a.lst p xs h
  exact b.lst p ys h1, fun p h => b.dk p (a.dk p h)⟩
theorem KeepL.put {H : Hp} {l : Addr} {xs ys : List V} (h : H l = some (.lst xs)) : KeepL H (upd H l (.lst ys)) where
  tup := keep_upd fun zs z => by rw [h] at z; cases z
  lst := fun p zs hp => by
    by_cases c : p = l
    · subst c
      exact ⟨ys, upd_same⟩
    · exact ⟨zs, by rw [upd_ne c]; exact hp⟩
  dk := fun p hp => by
    have c : p ≠ l := fun z => by
      rw [z, h] at hp
      cases hp
    rw [upd_ne c]
    exact hp
mutual
/-- no list whose items are told -/
def noL : PyData → Bool
  | .list _ => false
  | .tuple ds => noLs ds
  | _ => true
def noLs : List PyData → Bool
  | [] => true
  | d :: ds => noL d && noLs ds
end
mutual
theorem DAt.keepL {H H' : Hp} (k : KeepL H H') : ∀ (d : PyData) (v : V), noL d = true → DAt H d v → DAt H' d v
  | .none, _, _, h => by rw [DAt] at h ⊢; exact h
  | .bool _, _, _, h => by rw [DAt] at h ⊢; exact h
  | .int _, _, _, h => by rw [DAt] at h ⊢; exact h
  | .str _, _, _, h => by rw [DAt] at h ⊢; exact h
  | .list _, _, n, _ => by simp [noL] at n
  | .tuple ds, _, n, h => by
    obtain ⟨p, xs, h1, h2, h3⟩ := tup_dat h
    subst h1
    exact dat_tup (k.tup _ _ h2) (DAll.keepL k ds xs (by simpa [noL] using n) h3)
  | .dict [], _, _, h => by
    rw [DAt] at h ⊢
    obtain ⟨p, h1, h2⟩ := h
    exact ⟨p, h1, k.dk p h2⟩
  | .dict (_ :: _), _, _, h => by
    rw [DAt] at h ⊢
    obtain ⟨p, h1, xs, h2⟩ := h
    exact ⟨p, h1, k.lst p xs h2⟩
theorem DAll.keepL {H H' : Hp} (k : KeepL H H') : ∀ (ds : List PyData) (xs : List V), noLs ds = true → DAll H ds xs → DAll H' ds xs
  | [], _, _, h => by
    rw [nil_dall h]
    exact dall_nil
  | d :: ds, _, n, h => by
    obtain ⟨x, r, h1, h2, h3⟩ := cons_dall h
    subst h1
    simp only [noLs, Bool.and_eq_true] at n
    exact dall_cons (DAt.keepL k d x n.1 h2) (DAll.keepL k ds r n.2 h3)
end
mutual
theorem noL_code : ∀ c : C, noL (toD c) = true
  | .box i => by simp [toD, noL]
  | .rep t b => by simp [toD, noL, noLs, noLs_code b]
theorem noLs_code : ∀ cs : List C, noLs (toDL cs) = true
  | [] => by simp [toDL, noLs]
  | c :: cs => by simp [toDL, noLs, noL_code c, noLs_code cs]
end
theorem noLs_append : ∀ a b : List PyData, noLs (a ++ b) = (noLs a && noLs b)
  | [], b => by simp [noLs]
  | d :: ds, b => by simp [noLs, noLs_append ds b, Bool.and_assoc]
/-! ### a value of the law -/
def VOk (d : PyData) : Prop := noL d = true ∧ ((∃ cs, d = .tuple (toDL cs) ∧ okL cs ∧ (unrL cs).length ≤ 1000 ∧ depL cs ≤ 8) ∨ (szOf 8 d = none ∧ (isTup d = false ∨ ∃ l, d = .tuple l ∧ Shp 20 l ∧ il 20 l = false)))
theorem vok_code {cs : List C} (h1 : okL cs) (h2 : (unrL cs).length ≤ 1000) (h3 : depL cs ≤ 8) : VOk (.tuple (toDL cs)) := ⟨by simp [noL, noLs_code], .inl ⟨cs, rfl, h1, h2, h3⟩⟩
theorem vok_other {d : PyData} (h : isTup d = false) (n : noL d = true) : VOk d := ⟨n, .inr ⟨szOf_other 8 d h, .inl h⟩⟩
def boxes (w : List Int) : List C := w.map .box
theorem boxes_D : ∀ w : List Int, toDL (boxes w) = w.map .int
  | [] => by simp [boxes, toDL]
  | i :: w => by
    have q := boxes_D w
    simp only [boxes, List.map_cons, toDL, toD] at q ⊢
    rw [q]
theorem boxes_unr : ∀ w : List Int, unrL (boxes w) = w
  | [] => by simp [boxes, unrL]
  | i :: w => by
    have q := boxes_unr w
    simp only [boxes, List.map_cons, unrL, unr] at q ⊢
    rw [q]
    rfl
theorem boxes_dep : ∀ w : List Int, depL (boxes w) = 0
  | [] => by simp [boxes, depL]
  | i :: w => by
    have q := boxes_dep w
    simp only [boxes, List.map_cons, depL, dep] at q ⊢
    omega
theorem boxes_ok {w : List Int} (h : ∀ i ∈ w, 0 ≤ i ∧ i < 8) : okL (boxes w) := okL_mem.mpr fun c hc => by
  obtain ⟨i, hi, rfl⟩ := List.mem_map.mp hc
  simp only [okC]
  exact h i hi
mutual
theorem unr_box : ∀ c : C, okC c → ∀ i ∈ unr c, 0 ≤ i ∧ i < 8
  | .box j, h, i, hi => by
    simp only [okC] at h
    simp only [unr, List.mem_singleton] at hi
    subst hi
    exact h
  | .rep t b, h, i, hi => by
    simp only [okC] at h
    simp only [unr, List.mem_flatten, List.mem_replicate] at hi
    obtain ⟨l, ⟨_, rfl⟩, hi⟩ := hi
    exact unrL_box b h.2.2.2 i hi
theorem unrL_box : ∀ cs : List C, okL cs → ∀ i ∈ unrL cs, 0 ≤ i ∧ i < 8
  | [], _, i, hi => by simp [unrL] at hi
  | c :: cs, h, i, hi => by
    simp only [okL] at h
    simp only [unrL, List.mem_append] at hi
    rcases hi with hi | hi
    · exact unr_box c h.1 i hi
    · exact unrL_box cs h.2 i hi
end
theorem toDL_reverse (cs : List C) : (toDL cs).reverse = toDL cs.reverse := by
  rw [toDL_map, toDL_map, List.map_reverse]
theorem toDL_take (cs : List C) (n : Nat) : (toDL cs).take n = toDL (cs.take n) := by
  rw [toDL_map, toDL_map, List.map_take]
theorem toDL_drop (cs : List C) (n : Nat) : (toDL cs).drop n = toDL (cs.drop n) := by
  rw [toDL_map, toDL_map, List.map_drop]
theorem okL_sub {a b : List C} (h : okL a) (s : ∀ c ∈ b, c ∈ a) : okL b := okL_mem.mpr fun c hc => okL_mem.mp h c (s c hc)
theorem depL_sub {a b : List C} (s : ∀ c ∈ b, c ∈ a) : depL b ≤ depL a := depL_le fun c hc => dep_mem (s c hc)
/-- ((k, word),) with k < 2; ((k, a list),) -/
theorem vok_one (w : List Int) : VOk (.tuple [.tuple [.int 1, intsD w]]) := by
  have z : ∀ r, szItem r (.tuple [.int 1, intsD w]) = none := fun r => by simp [szItem]
  refine ⟨?_, .inr ⟨?_, .inr ⟨_, rfl, ?_, ?_⟩⟩⟩
  · have q := noLs_code (boxes w)
    rw [boxes_D] at q
    simp [noL, noLs, q]
  · rw [szOf_tuple]
    simp [szGo, z]
  · intro d hd
    have e : d = .tuple [.int 1, intsD w] := by simpa using hd
    refine .inr ⟨1, intsD w, e, .inl ⟨_, rfl, shaped_ints w, ?_⟩⟩
    intro d' hd'
    obtain ⟨i, _, rfl⟩ := List.mem_map.mp hd'
    exact .inl ⟨i, rfl⟩
  · simp [il, ilItem]
theorem vok_list (k : Int) : VOk (.tuple [.tuple [.int k, opq]]) := by
  have z : szItem (szRec 8) (.tuple [.int k, opq]) = none := by
    simp [szItem, szRec]
  refine ⟨by simp [noL, noLs], .inr ⟨?_, .inr ⟨_, rfl, ?_, ?_⟩⟩⟩
  · rw [szOf_tuple]
    simp [szGo, z]
  · intro d hd
    have e : d = .tuple [.int k, opq] := by simpa using hd
    exact .inr ⟨k, opq, e, .inr rfl⟩
  · simp [il, ilItem]
/-! ### a value appended -/
theorem qd_app {K : PySem.W.Frag} {σ : L2.St} {H : Hp} {ta te : TE} {D : Ends} {tz : TS} {l : Addr} {xs : List V} {ds : List PyData} {d : PyData} (hl : H l = some (.lst xs)) (ha : Ev ta σ H (.ref l)) (hx : DAll H ds xs) (hd : EvD te σ H d) (nl : ∀ e ∈ ds, VOk e) (nd : VOk d) (hz : ds.length < 50000)
    (k : ∀ v H1, KeepL H H1 → H1 l = some (.lst (xs ++ [v])) → DAll H1 (ds ++ [d]) (xs ++ [v]) → (∀ e ∈ ds ++ [d], VOk e) → tz D σ H1) : tSeq (tDrop (tBM K "list" rAppend ta (tCons te tNil))) tz D σ H :=
  ha H (Ex.refl H) _ fun H1 e1 => ⟨.inl ⟨rfl, xs, SqL.of (e1 _ _ hl)⟩, hd H1 e1 _ fun v H2 e2 hv => by
    have hl2 := (e1.trans e2) _ _ hl
    have kp : KeepL H2 (upd H2 l (.lst (xs ++ [v]))) := KeepL.put hl2
    have k2 := (KeepL.of (e1.trans e2)).trans kp
    have nls : ∀ {es : List PyData}, (∀ e ∈ es, VOk e) → noLs es = true := fun {es} h => by
      induction es with
      | nil => rfl
      | cons e es ih => simp only [noLs, Bool.and_eq_true]; exact ⟨(h e (by simp)).1, ih fun e' he' => h e' (by simp [he'])⟩
    refine ⟨l, xs, v, rfl, rfl, hl2, Evl.sz_lt (by rw [hx.length]; omega), k v _ k2 upd_same ?_ fun e he => ?_⟩
    · exact DAll.append (DAll.keepL k2 ds xs (nls nl) hx) (dall_cons (DAt.keepL kp d v nd.1 hv) dall_nil)
    · rcases List.mem_append.mp he with he | he
      · exact nl e he
      · simp at he
        subst he
        exact nd⟩
def sp_law (K : PySem.W.Frag) : Sp := fun vs H Q _ => ∃ (a : Addr) (ns : List Int), vs = [.ref a] ∧ SqL K H a (ns.map V.int) ∧ ns.length ≤ 63 ∧ ∀ H', Q (.bl true) H'
def rTupOf (K : PySem.W.Frag) : List V → Hp → VK → Prop := fun xs H Q => ∃ p ys, xs = [.ref p] ∧ ((SqL K H p ys ∧ ∀ l, H l = none → Q (.ref l) (upd H l (.tup ys))) ∨ (SqT K H p ys ∧ Q (.ref p) H))
theorem call_tupA {X : Cx} : CallR X (.type "tuple") (rTupOf X.K) := call_tuple_of
def rLstOf (K : PySem.W.Frag) : List V → Hp → VK → Prop := fun xs H Q => ∃ p ys, xs = [.ref p] ∧ (SqL K H p ys ∨ SqT K H p ys) ∧ ∀ l, H l = none → Q (.ref l) (upd H l (.lst ys))
theorem call_lstA {X : Cx} : CallR X (.type "list") (rLstOf X.K) := call_list_of
theorem ed_lstOf {K : PySem.W.Frag} {te : TE} {σ : L2.St} {H : Hp} {ds : List PyData} (h : EvD te σ H (.tuple ds)) : EvD (tCB (rLstOf K) (tCons te tNil)) σ H (.list ds) := fun H1 e _ q =>
  h H1 e _ fun v H2 e2 hd => by
    obtain ⟨p, xs, h1, h2, h3⟩ := tup_dat hd
    subst h1
    exact ⟨p, xs, rfl, .inr (SqT.of h2), fun n hn => q _ _ (e2.trans (Ex.new hn)) (dat_lst upd_same (h3.up (Ex.new hn)))⟩
/-- {} -/
theorem ed_newK {σ : L2.St} {H : Hp} : EvD tDNewK σ H (.dict []) := fun H1 _ _ q p hp => q _ _ (Ex.new hp) (by rw [DAt]; exact ⟨p, rfl, upd_same⟩)
/-- is the data looked at as looped code? -/
def ilD : PyData → Bool
  | .tuple l => il 20 l
  | _ => false
section
variable {P : Program} {w : World} {K : PySem.W.Frag} {mg : Str → Option Value} {base : Heap} {f f1 f2 f3 f4 f5 f6 f7 f8 f9 : Addr} {fd fd1 fd2 fd3 fd4 fd5 fd6 fd7 fd8 fd9 : FuncData}
theorem sc_law : FnScope ["_law_script", "_law_row", "_law_word", "_law_few", "_law_base", "_law_values", "_law_size", "_law_value", "_law_good", "_law_turn"] ["_law_script"] (defScope s_law) := ⟨rfl, rfl, rfl, by decide +kernel, rfl, by decide +kernel, by decide +kernel⟩
theorem ok_law (D : Def K mg "law" s_law ["_law_script"] f fd) (T : Top mg)
    (D1 : Def K mg "_law_unrolled" s_law_unrolled ["_law_loop_here"] f1 fd1) (D2 : Def K mg "_law_loop" s_law_loop ["_law_row", "_law_deep", "_law_most"] f2 fd2) (D3 : Def K mg "_law_taken" s_law_taken ["_law_row", "_law_many"] f3 fd3)
    (D4 : Def K mg "_law_folds" s_law_folds ["_law_word", "_law_known"] f4 fd4) (D5 : Def K mg "folded" s_folded ["word"] f5 fd5) (D6 : Def K mg "_law_is_loop" s_law_is_loop ["_law_value"] f6 fd6) (D7 : Def K mg "_law_said" s_law_said ["_law_loop_here"] f7 fd7)
    (D8 : Def K mg "_law_alike" s_law_alike ["_law_found", "_law_due"] f8 fd8) (D9 : Def K mg "shows_fold" s_shows_fold ["word", "value"] f9 fd9)
    (G1 : FnOk P w K mg base CX0 21 f1 fd1 ["_law_loop_here"] (spR (R_unr 20))) (G2 : FnOk P w K mg base CX0 5 f2 fd2 ["_law_row", "_law_deep", "_law_most"] (spLoopS K 3)) (G3 : FnOk P w K mg base CX0 1 f3 fd3 ["_law_row", "_law_many"] (spTaken K))
    (G4 : FnOk P w K mg base CX0 12 f4 fd4 ["_law_word", "_law_known"] (spLf 11)) (G5 : FnOk P w K mg base CX0 14 f5 fd5 ["word"] spFolded) (G6 : FnOk P w K mg base CX0 21 f6 fd6 ["_law_value"] (spR (R_isl 20))) (G7 : FnOk P w K mg base CX0 21 f7 fd7 ["_law_loop_here"] (spR (R_said 20)))
    (G8 : FnOk P w K mg base CX0 1 f8 fd8 ["_law_found", "_law_due"] (spR R_alike)) (G9 : FnOk P w K mg base CX0 22 f9 fd9 ["word", "value"] (spR R_shows)) : FnOk P w K mg base CX0 23 f fd ["_law_script"] (sp_law K) := by
  refine D.F.ok sc_law (fun vs H Q E h => by obtain ⟨_, _, rfl, _⟩ := h; rfl) (fun cdv A outer s H vs Q E hr h => ?_)
  obtain ⟨sc, ns, rfl, hS, l63, q⟩ := h
  have r21 := hr.mono (show 21 ≤ 22 by decide)
  have r5 := hr.mono (show 5 ≤ 22 by decide)
  have r1 := hr.mono (show 1 ≤ 22 by decide)
  have r12 := hr.mono (show 12 ≤ 22 by decide)
  have r14 := hr.mono (show 14 ≤ 22 by decide)
  refine ⟨_, pss_cons (ps_set (i := 1) sc_law.nd rfl (.inr rfl) (pe_lst (pa_cons (pv 0) (pa_cons pe_int (pa_cons pe_int (pa_cons pe_int pa_nil))))))
    (Evl.pss_cut (ps_set (i := 2) sc_law.nd rfl (.inl rfl) (pe_op op_catA (pe_slice sl_tupA (pe_call G1 r21 rfl D1.g D1.F.kp D1.b .nil pass0 (pa_cons (pe_call G2 r5 rfl D2.g D2.F.kp D2.b .nil pass0 (pa_cons (pv 1) (pa_cons pe_int (pa_cons pe_int pa_nil)))) pa_nil)) po_none (po_some pe_int))
      (pe_callTy call_tupA rfl T.z_tuple boot_tuple (pa_cons (pe_lc (own := [("_law_turn", 9)]) (g := gName 9) (tt := tYes) rfl sc_law.nd (pi_range1 rfl T.z_range (pa_cons (pe_call G3 r1 rfl D3.g D3.F.kp D3.b .nil pass0 (pa_cons (pv 1) (pa_cons pe_int pa_nil))) pa_nil))
        (blkOk_by (N := ["_law_script", "_law_row", "_law_word", "_law_few", "_law_base", "_law_values", "_law_size", "_law_value", "_law_good", "_law_turn"]) (sc := defScope s_law) (by decide +kernel)) (fun _ _ _ _ _ => pg_name (i := 9) sc_law.nd rfl (Or.inl rfl)) (fun _ _ _ _ _ => pts_nil)
        (fun _ _ _ _ _ => pe_call G3 r1 rfl D3.g D3.F.kp D3.b .nil pass0 (pa_cons (pv 1) (pa_cons pe_int pa_nil)))) pa_nil))))
    (Evl.pss_cut (ps_par (i := 3) (j := 4) rfl sc_law.nd rfl rfl (by decide) rfl rfl (pa_cons (pe_call G4 r12 rfl D4.g D4.F.kp D4.b .nil pass0 (pa_cons (pv 2) (pa_cons pe_dnewT pa_nil))) (pa_cons (pe_call G5 r14 rfl D5.g D5.F.kp D5.b .nil pass0 (pa_cons (pv 2) pa_nil)) pa_nil)) (by rfl))
    (pss_cons (ps_set (i := 5) sc_law.nd rfl (.inl rfl) (pe_lst (pa_cons (pv 4) (pa_cons pe_non (pa_cons (pe_tup pa_nil) (pa_cons (pv 2) (pa_cons (pe_callTy call_lstA rfl T.z_list (by decide +kernel) (pa_cons (pv 4) pa_nil)) (pa_cons (pe_revT (pv 4))
      (pa_cons (pe_op op_catA (pv 4) (pe_slice sl_tupA (pv 4) po_none (po_some pe_int))) (pa_cons (pe_slice sl_tupA (pv 4) (po_some pe_int) po_none) (pa_cons pe_int (pa_cons pe_dnewK (pa_cons (pe_tup (pa_cons (pe_tup (pa_cons pe_int (pa_cons (pv 2) pa_nil))) pa_nil)) pa_nil)))))))))))))
    (pss_cons (ps_set (i := 5) sc_law.nd rfl (.inl rfl) (pe_op op_cat (pv 5) (pe_lst (pa_cons (pe_revT (pv 2)) pa_nil))))
    (pss_cons (ps_for PassesOwn.never rfl (pi_range2 rfl T.z_range (pa_cons pe_int (pa_cons (pe_op op_add (pe_callB call_lenA rfl T.z_len PySem.boot_len (pa_cons (pv 2) pa_nil)) pe_int) pa_nil))) (pg_name (i := 6) sc_law.nd rfl (.inl rfl))
      (Evl.pss_cut (ps_if (pt_cmpR (op_eqD hr.units) (pe_op op_mulT (pe_slice sl_tupA (pv 2) po_none (po_some (pv 6))) pe_int) (pe_slice sl_tupA (pv 2) po_none (po_some (pe_op op_mul pe_int (pv 6)))) (nomark _))
          (pss_cons (ps_expr (pe_bm PySem.F.plainAttrs_list PySem.F.slot_list_append PySem.F.type_list_append mt_append (pv 5) (pa_cons (pe_op op_catA (pe_tup (pa_cons (pe_tup (pa_cons pe_int (pa_cons (pe_slice sl_tupA (pv 2) po_none (po_some (pv 6))) pa_nil))) pa_nil)) (pe_slice sl_tupA (pv 2) (po_some (pe_op op_mul pe_int (pv 6))) po_none)) pa_nil))) pss_nil) pss_nil)
      (pss_one (ps_if (PW.pt (pw_and (pt_cmpR op_eq (pe_op op_mod (pe_callB call_lenA rfl T.z_len PySem.boot_len (pa_cons (pv 2) pa_nil)) (pv 6)) pe_int (nomark _))
          (pw_and (pt_cmpR (op_eqD hr.units) (pv 2) (pe_op op_mulT (pe_slice sl_tupA (pv 2) po_none (po_some (pv 6))) (pe_op op_fdiv (pe_callB call_lenA rfl T.z_len PySem.boot_len (pa_cons (pv 2) pa_nil)) (pv 6))) (nomark _))
          (pw_and1 (pt_cmpR op_lt (pv 6) (pe_callB call_lenA rfl T.z_len PySem.boot_len (pa_cons (pv 2) pa_nil)) (nomark _))))))
        (pss_cons (ps_expr (pe_bm PySem.F.plainAttrs_list PySem.F.slot_list_append PySem.F.type_list_append mt_append (pv 5) (pa_cons (pe_tup (pa_cons (pe_tup (pa_cons (pe_op op_fdiv (pe_callB call_lenA rfl T.z_len PySem.boot_len (pa_cons (pv 2) pa_nil)) (pv 6)) (pa_cons (pe_slice sl_tupA (pv 2) po_none (po_some (pv 6))) pa_nil))) pa_nil)) pa_nil)))
        (pss_cons (ps_expr (pe_bm PySem.F.plainAttrs_list PySem.F.slot_list_append PySem.F.type_list_append mt_append (pv 5) (pa_cons (pe_tup (pa_cons (pe_tup (pa_cons (pe_op op_fdiv (pe_callB call_lenA rfl T.z_len PySem.boot_len (pa_cons (pv 2) pa_nil)) (pv 6)) (pa_cons (pe_callTy call_lstA rfl T.z_list (by decide +kernel) (pa_cons (pe_slice sl_tupA (pv 2) po_none (po_some (pv 6))) pa_nil)) pa_nil))) pa_nil)) pa_nil))) pss_nil)) pss_nil))))
    (pss_cons (ps_for PassesOwn.never rfl (pi_list (pv 5)) (pg_name (i := 7) sc_law.nd rfl (.inl rfl))
      (pss_cons (ps_set (i := 8) sc_law.nd rfl (.inl rfl) (pe_and (pe_callB call_isi rfl T.z_isinstance boot_isinstance (pa_cons (pv 7) (pa_cons (pe_bltn (v := .ty "tuple") rfl T.z_tuple boot_tuple rfl) pa_nil))) (pe_one (pe_call G6 r21 rfl D6.g D6.F.kp D6.b .nil pass0 (pa_cons (pv 7) pa_nil)))))
      (pss_cons (ps_set (i := 8) sc_law.nd rfl (.inl rfl) (pe_and (pv 8) (pe_and (pe_cmpR (op_eqD hr.units) (pe_call G1 r21 rfl D1.g D1.F.kp D1.b .nil pass0 (pa_cons (pv 7) pa_nil)) (pv 2) (nomark _))
        (pe_one (pe_cmpR op_eq (pe_callB call_lenA rfl T.z_len PySem.boot_len (pa_cons (pe_call G7 r21 rfl D7.g D7.F.kp D7.b .nil pass0 (pa_cons (pv 7) pa_nil)) pa_nil)) (pv 3) (nomark _))))))
      (pss_one (ps_if (pt_not (pt_val (pe_call G8 r1 rfl D8.g D8.F.kp D8.b .nil pass0 (pa_cons (pe_call G9 hr rfl D9.g D9.F.kp D9.b .nil pass0 (pa_cons (pv 2) (pa_cons (pv 7) pa_nil))) (pa_cons (pv 8) pa_nil))))) (pss_one (ps_ret pe_bl)) pss_nil)))))
    (pss_one (ps_ret pe_bl)))))))), ?_⟩
  -- the row
  refine ⟨_, rfl, by show 4 ≤ sizeLine; decide, fun a na => ?_⟩
  have ra : RowAt K (upd H a (.lst [.ref sc, .int 0, .int 9832, .int 0])) a sc := ⟨ns, 0, 9832, 0, upd_same, Evl.ex_l (Ex.new na) hS, by decide, by decide, by decide⟩
  show Evl.tCut _ _ _ _ (upd H a (.lst [.ref sc, .int 0, .int 9832, .int 0]))
  generalize (upd H a (.lst [.ref sc, .int 0, .int 9832, .int 0])) = H1 at ra ⊢
  clear na hS
  -- the word
  refine Evl.q_cut (M := fun σ' H' => ∃ w vw, σ' = [some (.ref sc), some (.ref a), some vw, none, none, none, none, none, none, none] ∧ DAt H' (intsD w) vw ∧ Word w) ?_ ?_
  · refine ⟨_, rfl, a, sc, rfl, ra, fun cs v2 H2 sx2 ra2 hd2 okc dc lc => ?_⟩
    have dc : depL cs ≤ 2 := dc
    have lc : (unrL cs).length ≤ 432 := lc
    refine ⟨[.tuple (toDL cs)], intsD (unrL cs), dall_cons hd2 dall_nil, ⟨cs, rfl, okc, by omega, by omega, rfl⟩, fun v3 H3 e3 hd3 => ?_⟩
    refine ed_slice (σ := []) (te := tC v3) (tl := tNoPart) (th := tPart (tC (.int 7))) (ed_of Evl.ev_c hd3) Evl.eo_none (eo_D ed_int) H3 (Ex.refl H3) _ fun v4 H4 e4 hd4 => ?_
    rw [show (7 : Int) = ((7 : Nat) : Int) from rfl, cutD_map, cutD_to] at hd4
    have ra4 := ra2.up (e3.trans e4)
    refine ⟨_, rfl, a, sc, 4, rfl, by decide, by decide, ra4, fun r H5 p0 p4 sx5 ra5 => ?_⟩
    refine ⟨r, rfl, by omega, by omega, fun Dl hD => ?_⟩
    have nDa : Dl ≠ a := fun z => by
      obtain ⟨_, _, _, _, h1, _⟩ := ra5
      rw [z, h1] at hD
      cases hD
    refine lc_range (lo := 0) (n := r.toNat) (fun i H' => SameX a H5 H' ∧ RowAt K H' a sc ∧ ∃ rs : List Int, H' Dl = some (.lst (rs.map V.int)) ∧ rs.length = i ∧ ∀ x ∈ rs, 0 ≤ x ∧ x < 8) ?_ ?_ ?_
    · exact ⟨SameX.of (Ex.new hD), ra5.up (Ex.new hD), [], upd_same, rfl, by simp⟩
    · rintro i H6 hi ⟨sx6, ra6, rs, h6, l6, b6⟩
      refine ⟨rfl, ?_⟩
      refine ⟨_, rfl, a, sc, 2, rfl, by decide, by decide, ra6, fun r7 H7 g0 g2 sx7 ra7 => ?_⟩
      have h7 := sx7 _ _ nDa h6
      refine ⟨_, h7, by rw [List.length_map]; exact Evl.sz_lt (by omega), fun b o nb hb => ?_, ?_, rs ++ [r7], ?_, ?_, ?_⟩
      · have nbD : b ≠ Dl := fun z => by rw [z, hD] at hb; cases hb
        rw [upd_ne nbD]
        exact sx7 b o nb (sx6 b o nb hb)
      · obtain ⟨_, i1, i2, i3, k1, _, k3⟩ := ra7
        obtain ⟨ns5, _, _, _, m1, m2, _⟩ := ra5
        refine ⟨ns5, i1, i2, i3, by rw [upd_ne nDa.symm]; exact k1, sqX m2 m1 fun b o nb hb => ?_, k3⟩
        have nbD : b ≠ Dl := fun z => by rw [z, hD] at hb; cases hb
        rw [upd_ne nbD]
        exact sx7 b o nb (sx6 b o nb hb)
      · rw [upd_same, List.map_append]
        rfl
      · rw [List.length_append, l6]
        rfl
      · intro x hx
        rcases List.mem_append.mp hx with hx | hx
        · exact b6 x hx
        · simp at hx
          omega
    · rintro H6 ⟨sx6, ra6, rs, h6, l6, b6⟩
      have hd6 : DAt H6 (intsD ((unrL cs).take 7)) v4 := ints_keep (sx6.keep ra5.no) (ints_keep (sx5.keep ra4.no) hd4)
      refine ⟨Dl, _, rfl, .inl ⟨SqL.of h6, fun p hp => ?_⟩⟩
      have hd7 : DAt (upd H6 p (.tup (rs.map V.int))) (intsD rs) (.ref p) := dat_ints upd_same
      refine rd_cat (K := K) (H := upd H6 p (.tup (rs.map V.int))) (xs := ((unrL cs).take 7).map .int) (ys := rs.map .int) (by rw [List.length_map, List.length_map, List.length_take]; omega) v4 (.ref p) _ (Ex.refl _) (hd6.up (Ex.new hp)) hd7 _ fun v8 H8 e8 hd8 => ?_
      rw [ints_cat] at hd8
      refine ⟨_, v8, rfl, hd8, ?_, fun i hi => ?_⟩
      · rw [List.length_append, List.length_take, l6]
        omega
      · rcases List.mem_append.mp hi with hi | hi
        · exact unrL_box cs okc i (List.mem_of_mem_take hi)
        · exact b6 i hi
  clear ra
  rintro σ2 H2 ⟨w, vw, rfl, hw, ok⟩
  clear H1
  -- the fewest appearances, looped code
  refine Evl.q_cut (M := fun σ' H' => ∃ vb cs, σ' = [some (.ref sc), some (.ref a), some vw, some (.int (F w)), some vb, none, none, none, none, none] ∧ DAt H' (intsD w) vw ∧ DAt H' (.tuple (toDL cs)) vb ∧ okL cs ∧ (unrL cs).length = w.length) ?_ ?_
  · refine ⟨_, rfl, fun kd nk => ?_⟩
    refine ⟨w, vw, kd, [], rfl, hw.up (Ex.new nk), by have := ok.1; omega, ok.1, upd_same, fun ks v z => (by simp [valV] at z), ?_, fun kvs' H3 sx hk kn b => ?_⟩
    · have z : 4 ^ w.length ≤ 4 ^ 10 := pow_up ok.1
      have z2 : 4 ^ 10 = 1048576 := by decide
      simp only [List.length_nil]
      omega
    · have hw3 : DAt H3 (intsD w) vw := ints_keep (sx.keep (dT_no upd_same)) (hw.up (Ex.new nk))
      exact ⟨_, rfl, w, vw, rfl, hw3, ok, fun cs v H4 e4 hd okc lc dc => ⟨_, _, rfl, v, cs, rfl, hw3.up e4, hd, okc, lc⟩⟩
  rintro σ3 H3 ⟨vb, cs, rfl, hw3, hb3, okc, lc⟩
  clear hw H2
  have lw := ok.1
  have dc := depL_half cs okc
  -- the values
  have values : ∀ {H' : Hp}, Ex H3 H' → ∀ v, DAt H' (intsD w) v → True := fun _ _ _ => trivial
  clear values
  refine qd_asg (d := .list [.tuple (toDL cs), .none, .tuple (toDL []), intsD w, opq, .tuple (toDL cs.reverse), .tuple (toDL (cs ++ cs.take 1)), .tuple (toDL (cs.drop 1)), .int 3, .dict [], .tuple [.tuple [.int 1, intsD w]]])
    (ed_lst (eds_cons (ed_var rfl hb3) (eds_cons ed_non (eds_cons (ed_is (ed_tup (ds := []) eds_nil (by decide)) (by rw [toDL])) (eds_cons (ed_var rfl hw3) (eds_cons (ed_opq (ed_lstOf (ed_var rfl hb3))) (eds_cons (ed_is (ed_rev (ed_var rfl hb3)) (by rw [toDL_reverse]))
      (eds_cons (ed_is (ed_op (ed_var rfl hb3) (ed_is (d' := .tuple (toDL (cs.take 1))) (ed_slice (ed_var rfl hb3) Evl.eo_none (eo_D ed_int)) (by rw [show (1 : Int) = ((1 : Nat) : Int) from rfl, cutD_to, toDL_take])) (rd_cat (by rw [toDL_length, toDL_length, List.length_take]; have := len_le_unr okc; omega))) (by rw [toDL_append]))
      (eds_cons (ed_is (ed_slice (ed_var rfl hb3) (eo_D ed_int) Evl.eo_none) (by rw [show (1 : Int) = ((1 : Nat) : Int) from rfl, cutD_from, toDL_drop])) (eds_cons ed_int (eds_cons ed_newK (eds_cons (ed_tup (eds_cons (ed_tup (eds_cons ed_int (eds_cons (ed_var rfl hw3) eds_nil)) (by show 2 ≤ 100000; decide)) eds_nil) (by show 1 ≤ 100000; decide)) eds_nil))))))))))) (by show 11 ≤ 100000; decide)) fun v5 H5 e5 hv5 => ?_
  have hw5 := hw3.up e5
  refine qd_asg (ed_op (ed_var rfl hv5) (ed_lst (ds := [.tuple (toDL (boxes w.reverse))]) (eds_cons (ed_is (ed_rev (ed_var rfl hw5)) (by rw [boxes_D, List.map_reverse])) eds_nil) (by show 1 ≤ 100000; decide)) (rd_catL (by show 12 ≤ 100000; decide))) fun v6 H6 e6 hv6 => ?_
  have hw6 := hw5.up e6
  obtain ⟨p, xs, rfl, hp, hx⟩ := lst_dat hv6
  have all : ∀ d ∈ ([.tuple (toDL cs), .none, .tuple (toDL []), intsD w, opq, .tuple (toDL cs.reverse), .tuple (toDL (cs ++ cs.take 1)), .tuple (toDL (cs.drop 1)), .int 3, .dict [], .tuple [.tuple [.int 1, intsD w]]] ++ [.tuple (toDL (boxes w.reverse))] : List PyData), VOk d := by
    have tk := unrL_take_le cs 1
    have td := unrL_take_drop cs 1
    have d1 := depL_sub (a := cs) (b := cs.take 1) fun c hc => List.mem_of_mem_take hc
    have d2 := depL_sub (a := cs) (b := cs.drop 1) fun c hc => List.mem_of_mem_drop hc
    have d3 := depL_sub (a := cs) (b := cs.reverse) fun c hc => List.mem_reverse.mp hc
    intro d hd
    simp only [List.cons_append, List.nil_append, List.mem_cons, List.not_mem_nil, or_false] at hd
    rcases hd with rfl | rfl | rfl | rfl | rfl | rfl | rfl | rfl | rfl | rfl | rfl | rfl
    · exact vok_code okc (by omega) (by omega)
    · exact vok_other rfl rfl
    · exact vok_code (by simp [okL]) (by simp [unrL]) (by simp [depL])
    · have z := vok_code (cs := boxes w) (boxes_ok ok.2) (by rw [boxes_unr]; omega) (by rw [boxes_dep]; omega)
      rwa [boxes_D] at z
    · exact vok_other rfl rfl
    · exact vok_code (okL_sub okc fun c hc => List.mem_reverse.mp hc) (by rw [unrL_len_reverse]; omega) (by omega)
    · exact vok_code ((okL_append _ _).mpr ⟨okc, okL_sub okc fun c hc => List.mem_of_mem_take hc⟩) (by rw [unrL_append, List.length_append]; omega) (by rw [depL_append]; omega)
    · exact vok_code (okL_sub okc fun c hc => List.mem_of_mem_drop hc) (by omega) (by omega)
    · exact vok_other rfl rfl
    · exact vok_other rfl rfl
    · exact vok_one w
    · exact vok_code (boxes_ok fun i hi => ok.2 i (List.mem_reverse.mp hi)) (by rw [boxes_unr, List.length_reverse]; omega) (by rw [boxes_dep]; omega)
  have lenD : ([.tuple (toDL cs), .none, .tuple (toDL []), intsD w, opq, .tuple (toDL cs.reverse), .tuple (toDL (cs ++ cs.take 1)), .tuple (toDL (cs.drop 1)), .int 3, .dict [], .tuple [.tuple [.int 1, intsD w]]] ++ [.tuple (toDL (boxes w.reverse))] : List PyData).length = 12 := rfl
  generalize ([.tuple (toDL cs), .none, .tuple (toDL []), intsD w, opq, .tuple (toDL cs.reverse), .tuple (toDL (cs ++ cs.take 1)), .tuple (toDL (cs.drop 1)), .int 3, .dict [], .tuple [.tuple [.int 1, intsD w]]] ++ [.tuple (toDL (boxes w.reverse))] : List PyData) = ds at hx all lenD
  clear hv6 hv5 hb3 dc okc lc hw5 hw3
  have lenW : ∀ {σ : L2.St} {H' : Hp}, σ[2]? = some (some vw) → DAt H' (intsD w) vw → EvD (tCB (rLenA K) (tCons (tVar 2) tNil)) σ H' (.int (w.length : Int)) := fun h e => ed_is (ed_len (ds := w.map .int) (ed_var h e)) (by rw [List.length_map])
  have cutW : ∀ {σ : L2.St} {H' : Hp} {i : Nat} {te : TE}, σ[2]? = some (some vw) → DAt H' (intsD w) vw → EvD te σ H' (.int (i : Int)) → EvD (tSl (rSlA K) (tVar 2) tNoPart (tPart te)) σ H' (intsD (w.take i)) := fun h e h3 =>
    ed_is (ed_slice (ed_var h e) Evl.eo_none (eo_D h3)) (by rw [cutD_map, cutD_to])
  have dropW : ∀ {σ : L2.St} {H' : Hp} {i : Nat} {te : TE}, σ[2]? = some (some vw) → DAt H' (intsD w) vw → EvD te σ H' (.int (i : Int)) → EvD (tSl (rSlA K) (tVar 2) (tPart te) tNoPart) σ H' (intsD (w.drop i)) := fun h e h3 =>
    ed_is (ed_slice (ed_var h e) (eo_D h3) Evl.eo_none) (by rw [cutD_map, cutD_from])
  refine Evl.q_forR2 (lo := 1) (n := ((w.length + 1 : Nat) : Int)) (Evl.ea_cons Evl.ev_c (Evl.ea_cons (EvD.int (ed_op (lenW rfl hw6) ed_int (rd_I0 fun _ => dat_int))) Evl.ea_nil)) (by omega) (fun i σ' H' => ∃ xs ds y6, σ' = [some (.ref sc), some (.ref a), some vw, some (.int (F w)), some vb, some (.ref p), y6, none, none, none] ∧ DAt H' (intsD w) vw ∧ H' p = some (.lst xs) ∧ DAll H' ds xs ∧ (∀ d ∈ ds, VOk d) ∧ ds.length ≤ 12 + 3 * i) ?_ ?_ ?_
  · intro H7 e7
    exact ⟨xs, ds, none, rfl, hw6.up e7, e7 _ _ hp, hx.up e7, all, by omega⟩
  · clear hx hp all lenD hw6
    rintro i σ' H7 hi ⟨xs, ds, y6, rfl, hw7, hp7, hx7, all, ln⟩
    have hi : i + 1 ≤ w.length := by omega
    have ci : (1 : Int) + (i : Int) = ((i + 1 : Nat) : Int) := by omega
    rw [ci]
    have lt1 : (w.take (i + 1)).length = i + 1 := by rw [List.length_take]; omega
    have bt : ∀ x ∈ w.take (i + 1), 0 ≤ x ∧ x < 8 := fun x hx => ok.2 x (List.mem_of_mem_take hx)
    have ne1 : (w.take (i + 1)).map PyData.int ≠ [] := fun z => by
      have z := congrArg List.length z
      rw [List.length_map, lt1] at z
      simp at z
    have bne : boxes (w.take (i + 1)) ≠ [] := fun z => by
      have z := congrArg List.length z
      simp only [boxes, List.length_map, lt1] at z
      simp at z
    have two : ∀ {σ : L2.St} {H' : Hp}, σ[6]? = some (some (.int ((i + 1 : Nat) : Int))) → EvD (tOp (rI CMul fun i j => .int (i * j)) (tC (.int 2)) (tVar 6)) σ H' (.int ((2 * (i + 1) : Nat) : Int)) := fun h => by
      refine ed_op ed_int (ed_var h dat_int) (rd_I (.inl ⟨by decide, by decide⟩) fun _ => ?_)
      rw [show (2 : Int) * ((i + 1 : Nat) : Int) = ((2 * (i + 1) : Nat) : Int) by omega]
      exact dat_int
    refine Evl.q_cut (M := fun σ' H' => ∃ xs ds, σ' = [some (.ref sc), some (.ref a), some vw, some (.int (F w)), some vb, some (.ref p), some (.int ((i + 1 : Nat) : Int)), none, none, none] ∧ DAt H' (intsD w) vw ∧ H' p = some (.lst xs) ∧ DAll H' ds xs ∧ (∀ d ∈ ds, VOk d) ∧ ds.length ≤ 13 + 3 * i) ?_ ?_
    · refine Evl.s_when (et_T (ed_op (ed_op (cutW rfl hw7 (ed_var rfl dat_int)) ed_int (rd_mul ne1 (by decide) (by decide) (by rw [List.length_map, lt1]; omega))) (cutW rfl hw7 (two rfl)) (rd_eqD (by rw [rep_map]; exact shaped_ints _) (shaped_ints _)))) (fun _ H8 e8 => ?_) (fun _ H8 e8 => ?_)
      · have hw8 := hw7.up e8
        refine qd_app (d := .tuple (toDL (.rep 2 (boxes (w.take (i + 1))) :: boxes (w.drop (2 * (i + 1)))))) (e8 _ _ hp7) (Evl.ev_var rfl) (hx7.up e8) (ed_is (ed_op (ed_tup (eds_cons (ed_tup (eds_cons ed_int (eds_cons (cutW rfl hw8 (ed_var rfl dat_int)) eds_nil)) (by show 2 ≤ 100000; decide)) eds_nil) (by show 1 ≤ 100000; decide)) (dropW rfl hw8 (two rfl)) (rd_cat ?_)) ?_) all ?_ (by omega) fun v H9 k9 h9 hx9 all9 => ⟨_, _, rfl, ints_keep k9.tup hw8, h9, hx9, all9, by rw [List.length_append]; show _ + 1 ≤ _; omega⟩
        · rw [List.length_map, List.length_drop]
          show 1 + _ ≤ _
          omega
        · rw [toDL, toD, boxes_D, boxes_D]
          rfl
        · have okr : okC (.rep 2 (boxes (w.take (i + 1)))) := by
            simp only [okC]
            exact ⟨by decide, by decide, bne, boxes_ok bt⟩
          refine vok_code ?_ ?_ ?_
          · simp only [okL]
            exact ⟨okr, boxes_ok fun x hx => ok.2 x (List.mem_of_mem_drop hx)⟩
          · simp only [unrL, List.length_append]
            rw [(rep_half okr).2.2, boxes_unr, boxes_unr, lt1, List.length_drop, show (2 : Int).toNat = 2 from rfl]
            omega
          · simp only [depL, dep, boxes_dep]
            omega
      · exact ⟨xs, ds, rfl, hw7.up e8, e8 _ _ hp7, hx7.up e8, all, by omega⟩
    · clear hx7 hp7 all ln hw7 xs ds
      rintro σ8 H8 ⟨xs, ds, rfl, hw8, hp8, hx8, all, ln⟩
      have hqs : w.length / (i + 1) ≤ w.length := Nat.div_le_self _ _
      have hq1 : 1 ≤ w.length / (i + 1) := (Nat.one_le_div_iff (by omega)).mpr hi
      have quo : ∀ {σ : L2.St} {H' : Hp}, σ[2]? = some (some vw) → σ[6]? = some (some (.int ((i + 1 : Nat) : Int))) → DAt H' (intsD w) vw → EvD (tOp (rI CDiv fun i j => .int (i / j)) (tCB (rLenA K) (tCons (tVar 2) tNil)) (tVar 6)) σ H' (.int ((w.length / (i + 1) : Nat) : Int)) := fun h h6 e => by
        refine ed_op (lenW h e) (ed_var h6 dat_int) (rd_I ⟨by omega, by omega⟩ fun _ => ?_)
        rw [← Int.natCast_ediv]
        exact dat_int
      refine Evl.s_when (b := decide (w.length % (i + 1) = 0) && (decide (w = (List.replicate (w.length / (i + 1)) (w.take (i + 1))).flatten) && decide (i + 1 < w.length))) ?_ (fun c H9 e9 => ?_) (fun _ H9 e9 => ?_)
      · refine Evl.et_and (a := decide (w.length % (i + 1) = 0)) (Evl.et_is (et_T (ed_op (dx := .int ((w.length % (i + 1) : Nat) : Int)) (ed_op (lenW rfl hw8) (ed_var rfl dat_int) (rd_I (by omega) fun _ => ?_)) ed_int rd_eqI)) ?_) fun _ => Evl.et_and (et_T (ed_op (ed_var rfl hw8) (ed_is (ed_op (cutW rfl hw8 (ed_var rfl dat_int)) (quo rfl rfl hw8) (rd_mul ne1 (by omega) (by omega) (by rw [List.length_map, lt1]; omega))) ?_) rd_eqT)) fun _ => Evl.et_is (et_T (ed_op (ed_var rfl dat_int) (lenW rfl hw8) (rd_I0 fun _ => dat_bl))) ?_
        · rw [← Int.natCast_emod]
          exact dat_int
        · rw [Bool.eq_iff_iff, decide_eq_true_eq, decide_eq_true_eq]
          omega
        · rw [rep_map, Int.toNat_natCast]
        · rw [Bool.eq_iff_iff, decide_eq_true_eq, decide_eq_true_eq]
          omega
      · rw [Bool.and_eq_true, Bool.and_eq_true] at c
        have hm := of_decide_eq_true c.1
        have hlt := of_decide_eq_true c.2.2
        have hw9 := hw8.up e9
        have h2q : 2 ≤ w.length / (i + 1) := by
          have z := Nat.div_add_mod w.length (i + 1)
          rw [hm] at z
          rcases Nat.lt_or_ge (w.length / (i + 1)) 2 with c | c
          · have z2 : (i + 1) * (w.length / (i + 1)) ≤ (i + 1) * 1 := Nat.mul_le_mul_left _ (by omega)
            omega
          · exact c
        have hdv : (i + 1) * (w.length / (i + 1)) ≤ w.length := Nat.mul_div_le _ _
        refine qd_app (d := .tuple (toDL [.rep ((w.length / (i + 1) : Nat) : Int) (boxes (w.take (i + 1)))])) (e9 _ _ hp8) (Evl.ev_var rfl) (hx8.up e9) (ed_is (ed_tup (eds_cons (ed_tup (eds_cons (quo rfl rfl hw9) (eds_cons (cutW rfl hw9 (ed_var rfl dat_int)) eds_nil)) (by show 2 ≤ 100000; decide)) eds_nil) (by show 1 ≤ 100000; decide)) ?_) all ?_ (by omega) fun v Ha ka ha hxa alla => ?_
        · rw [toDL, toDL, toD, boxes_D]
        · have okr : okC (.rep ((w.length / (i + 1) : Nat) : Int) (boxes (w.take (i + 1)))) := by
            simp only [okC]
            exact ⟨by omega, by omega, bne, boxes_ok bt⟩
          refine vok_code ?_ ?_ ?_
          · simp only [okL]
            exact ⟨okr, trivial⟩
          · simp only [unrL, List.append_nil]
            rw [(rep_half okr).2.2, boxes_unr, lt1, Int.toNat_natCast, Nat.mul_comm]
            omega
          · simp only [depL, dep, boxes_dep]
            omega
        · have hwa := ints_keep ka.tup hw9
          refine qd_app (d := .tuple [.tuple [.int ((w.length / (i + 1) : Nat) : Int), opq]]) ha (Evl.ev_var rfl) hxa (ed_tup (eds_cons (ed_tup (eds_cons (quo rfl rfl hwa) (eds_cons (ed_opq (ed_lstOf (cutW rfl hwa (ed_var rfl dat_int)))) eds_nil)) (by show 2 ≤ 100000; decide)) eds_nil) (by show 1 ≤ 100000; decide)) alla (vok_list _) (by rw [List.length_append]; show _ + 1 < _; omega) fun v' Hb kb hb hxb allb => ?_
          refine ⟨_, _, _, rfl, ints_keep kb.tup hwa, hb, hxb, allb, ?_⟩
          rw [List.length_append, List.length_append]
          show _ + 1 + 1 ≤ _
          omega
      · exact ⟨xs, ds, _, rfl, hw8.up e9, e9 _ _ hp8, hx8.up e9, all, by omega⟩
  -- each value
  clear hx hp all lenD hw6
  rintro σ' H7 ⟨xs, ds, y6, rfl, hw7, hp7, hx7, all, ln⟩
  refine Evl.q_forLn (a := p) (xs := xs) (Evl.ev_var rfl) (SqL.of hp7) (fun _ σ' H' => Ex H7 H' ∧ ∃ y7 y8, σ' = [some (.ref sc), some (.ref a), some vw, some (.int (F w)), some vb, some (.ref p), y6, y7, y8, none]) ?_ ?_ ?_ ?_
  · intro H8 e8
    exact ⟨e8, none, none, rfl⟩
  · intro i σ' H8 _ ⟨e8, _⟩
    exact SqL.of (e8 _ _ hp7)
  · rintro i x σ' H8 hi ⟨e8, y7, y8, rfl⟩
    obtain ⟨d, hd, hx⟩ := (hx7.up e8).get hi
    have vok := all d (List.mem_of_getElem? hd)
    have hw8 := hw7.up e8
    refine qd_asg (d := .bool (isTup d && ilD d)) (ed_and (ed_isi (ed_var rfl hx) (kit_tuple d)) fun g => ?_) fun v9 H9 e9 hd9 => ?_
    · obtain ⟨l, rfl⟩ := isTup_yes g
      refine ed_call (eds_cons (ed_var rfl hx) eds_nil) ⟨l, rfl, ?_, rfl⟩
      rcases vok.2 with ⟨cs, z, okc, lc, dc⟩ | ⟨_, z | ⟨l', z, sh, _⟩⟩
      · injection z with z
        subst z
        exact shp_code 20 cs (by omega) (by omega)
      · simp [isTup] at z
      · injection z with z
        subst z
        exact sh
    have hx9 := hx.up e9
    have hw9 := hw8.up e9
    have fin : ∀ b : Bool, R_shows [intsD w, d] (.bool b) → EvD (tAndV (tVar 8) (tAndV (tOp (rEqD K) (tCall (spR (R_unr 20)) [] E0 (tCons (tVar 7) tNil)) (tVar 2)) (tOp rEq (tCB (rLenA K) (tCons (tCall (spR (R_said 20)) [] E0 (tCons (tVar 7) tNil)) tNil)) (tVar 3)))) [some (.ref sc), some (.ref a), some vw, some (.int (F w)), some vb, some (.ref p), y6, some x, some v9, none] H9 (.bool b) →
        ∃ b, R_shows [intsD w, d] (.bool b) ∧ EvD (tAndV (tVar 8) (tAndV (tOp (rEqD K) (tCall (spR (R_unr 20)) [] E0 (tCons (tVar 7) tNil)) (tVar 2)) (tOp rEq (tCB (rLenA K) (tCons (tCall (spR (R_said 20)) [] E0 (tCons (tVar 7) tNil)) tNil)) (tVar 3)))) [some (.ref sc), some (.ref a), some vw, some (.int (F w)), some vb, some (.ref p), y6, some x, some v9, none] H9 (.bool b) := fun b h1 h2 => ⟨b, h1, h2⟩
    obtain ⟨b, hb1, hb2⟩ : ∃ b, R_shows [intsD w, d] (.bool b) ∧ EvD (tAndV (tVar 8) (tAndV (tOp (rEqD K) (tCall (spR (R_unr 20)) [] E0 (tCons (tVar 7) tNil)) (tVar 2)) (tOp rEq (tCB (rLenA K) (tCons (tCall (spR (R_said 20)) [] E0 (tCons (tVar 7) tNil)) tNil)) (tVar 3)))) [some (.ref sc), some (.ref a), some vw, some (.int (F w)), some vb, some (.ref p), y6, some x, some v9, none] H9 (.bool b) := by
      rcases vok.2 with ⟨cs, rfl, okc, lc, dc⟩ | ⟨sz, z⟩
      · have z : (isTup (.tuple (toDL cs)) && ilD (.tuple (toDL cs))) = true := by
          simp only [isTup, ilD, il_code 20 cs okc (by omega), Bool.and_self]
        rw [z] at hd9
        have sl := saiL_le cs okc
        refine fin (decide (unrL cs = w) && decide (((saiL cs).length : Int) = F w)) ⟨w, _, rfl, ok, .inl ⟨cs, rfl, okc, lc, dc, rfl⟩⟩ (ed_is (ed_and (a := true) (ed_var rfl hd9) fun _ => ed_and (ed_op (ed_call (eds_cons (ed_var rfl hx9) eds_nil) ⟨cs, rfl, okc, by omega, lc, rfl⟩) (ed_var rfl hw9) rd_eqT) fun _ => ed_op (dx := .int ((saiL cs).length : Int)) (ed_is (ed_len (ds := (saiL cs).map .int) (ed_call (eds_cons (ed_var rfl hx9) eds_nil) ⟨cs, rfl, okc, by omega, by omega, rfl⟩)) (by rw [List.length_map])) (ed_var rfl dat_int) rd_eqI) (by rw [Bool.true_and]))
      · have z2 : (isTup d && ilD d) = false := by
          rcases z with z | ⟨l, rfl, _, z⟩
          · rw [z, Bool.false_and]
          · simp only [ilD, z, Bool.and_false]
        rw [z2] at hd9
        exact fin false ⟨w, d, rfl, ok, .inr ⟨sz, rfl⟩⟩ (ed_is (ed_and (a := false) (b := false) (ed_var rfl hd9) fun c => nomatch c) rfl)
    clear fin
    refine qd_asg hb2 fun va Ha ea hda => ?_
    refine Evl.s_when (b := false) (Evl.et_is (Evl.et_not (et_D (ed_call (d := .bool (b == b)) (eds_cons (ed_call (eds_cons (ed_var rfl (hw9.up ea)) (eds_cons (ed_var rfl (hx9.up ea)) eds_nil)) hb1) (eds_cons (ed_var rfl hda) eds_nil)) ⟨b, b, rfl, rfl⟩))) (by simp)) (fun c => nomatch c) (fun _ Hb eb => ⟨((e8.trans e9).trans ea).trans eb, _, _, rfl⟩)
  · rintro σ' H8 ⟨e8, y7, y8, rfl⟩
    exact sd_ret (d := .bool true) ed_bl fun v H9 _ hd => by
      rw [bl_dat hd]
      exact q H9
end
end
end RF
namespace RF
open PySem L2 PyProof.Rows
theorem all_mk {l : PySem.W.OpenLaw} {w : World} {K : PySem.W.Frag} {h : Heap} {mg : Str → Option Value} {fa : Addr} (X : K.In h) (G : h.Ns mainGlobals mg) (hfa : mg "law" = some (.ref fa))
    {f_is_in : Addr} {od_is_in an_is_in : Option Addr} {sl_is_in : Array (Option Value)} {oc_is_in kV_is_in dc_is_in pm_is_in cd_is_in ct_is_in : Value} {f_size_of : Addr} {od_size_of an_size_of : Option Addr} {sl_size_of : Array (Option Value)} {oc_size_of kV_size_of dc_size_of pm_size_of cd_size_of ct_size_of : Value} {f_unrolled_in : Addr} {od_unrolled_in an_unrolled_in : Option Addr} {sl_unrolled_in : Array (Option Value)} {oc_unrolled_in kV_unrolled_in dc_unrolled_in pm_unrolled_in cd_unrolled_in ct_unrolled_in : Value} {f_appear_in : Addr} {od_appear_in an_appear_in : Option Addr} {sl_appear_in : Array (Option Value)} {oc_appear_in kV_appear_in dc_appear_in pm_appear_in cd_appear_in ct_appear_in : Value} {f_deep_in : Addr} {od_deep_in an_deep_in : Option Addr} {sl_deep_in : Array (Option Value)} {oc_deep_in kV_deep_in dc_deep_in pm_deep_in cd_deep_in ct_deep_in : Value} {f_folds_of : Addr} {od_folds_of an_folds_of : Option Addr} {sl_folds_of : Array (Option Value)} {oc_folds_of kV_folds_of dc_folds_of pm_folds_of cd_folds_of ct_folds_of : Value} {f_best_fold : Addr} {od_best_fold an_best_fold : Option Addr} {sl_best_fold : Array (Option Value)} {oc_best_fold kV_best_fold dc_best_fold pm_best_fold cd_best_fold ct_best_fold : Value} {f_need_short : Addr} {od_need_short an_need_short : Option Addr} {sl_need_short : Array (Option Value)} {oc_need_short kV_need_short dc_need_short pm_need_short cd_need_short ct_need_short : Value} {f_folded : Addr} {od_folded an_folded : Option Addr} {sl_folded : Array (Option Value)} {oc_folded kV_folded dc_folded pm_folded cd_folded ct_folded : Value} {f_shows_fold : Addr} {od_shows_fold an_shows_fold : Option Addr} {sl_shows_fold : Array (Option Value)} {oc_shows_fold kV_shows_fold dc_shows_fold pm_shows_fold cd_shows_fold ct_shows_fold : Value} {f_law_unrolled : Addr} {od_law_unrolled an_law_unrolled : Option Addr} {sl_law_unrolled : Array (Option Value)} {oc_law_unrolled kV_law_unrolled dc_law_unrolled pm_law_unrolled cd_law_unrolled ct_law_unrolled : Value} {f_law_taken : Addr} {od_law_taken an_law_taken : Option Addr} {sl_law_taken : Array (Option Value)} {oc_law_taken kV_law_taken dc_law_taken pm_law_taken cd_law_taken ct_law_taken : Value} {f_law_loop : Addr} {od_law_loop an_law_loop : Option Addr} {sl_law_loop : Array (Option Value)} {oc_law_loop kV_law_loop dc_law_loop pm_law_loop cd_law_loop ct_law_loop : Value} {f_law_folds : Addr} {od_law_folds an_law_folds : Option Addr} {sl_law_folds : Array (Option Value)} {oc_law_folds kV_law_folds dc_law_folds pm_law_folds cd_law_folds ct_law_folds : Value} {f_law_said : Addr} {od_law_said an_law_said : Option Addr} {sl_law_said : Array (Option Value)} {oc_law_said kV_law_said dc_law_said pm_law_said cd_law_said ct_law_said : Value} {f_law_alike : Addr} {od_law_alike an_law_alike : Option Addr} {sl_law_alike : Array (Option Value)} {oc_law_alike kV_law_alike dc_law_alike pm_law_alike cd_law_alike ct_law_alike : Value} {f_law_is_vector : Addr} {od_law_is_vector an_law_is_vector : Option Addr} {sl_law_is_vector : Array (Option Value)} {oc_law_is_vector kV_law_is_vector dc_law_is_vector pm_law_is_vector cd_law_is_vector ct_law_is_vector : Value} {f_law_is_loop : Addr} {od_law_is_loop an_law_is_loop : Option Addr} {sl_law_is_loop : Array (Option Value)} {oc_law_is_loop kV_law_is_loop dc_law_is_loop pm_law_is_loop cd_law_is_loop ct_law_is_loop : Value} {f_law : Addr} {od_law an_law : Option Addr} {sl_law : Array (Option Value)} {oc_law kV_law dc_law pm_law cd_law ct_law : Value} {t_MOST_BOXES : Tok} {t_MOST_TIMES : Tok} {t_MOST_DEEP : Tok} {t_MOST_LONG : Tok} {t_MOST_FOLDED : Tok}
    (a_is_in : PySem.W.nsIn K mainGlobals "is_in" = some (some (.ref f_is_in))) (l_is_in : K.lookup f_is_in = some ⟨oc_is_in, od_is_in, .func (PySem.W.fnOf "is_in" "is_in" (defArgs s_is_in) (defBody s_is_in) (defScope s_is_in) .none kV_is_in dc_is_in pm_is_in an_is_in cd_is_in ct_is_in), sl_is_in⟩) (c_is_in : PySem.W.codeIn K cd_is_in "is_in" = true) (k_is_in : PySem.W.keepIn K (.ref f_is_in) = true)
    (a_size_of : PySem.W.nsIn K mainGlobals "size_of" = some (some (.ref f_size_of))) (l_size_of : K.lookup f_size_of = some ⟨oc_size_of, od_size_of, .func (PySem.W.fnOf "size_of" "size_of" (defArgs s_size_of) (defBody s_size_of) (defScope s_size_of) .none kV_size_of dc_size_of pm_size_of an_size_of cd_size_of ct_size_of), sl_size_of⟩) (c_size_of : PySem.W.codeIn K cd_size_of "size_of" = true) (k_size_of : PySem.W.keepIn K (.ref f_size_of) = true)
    (a_unrolled_in : PySem.W.nsIn K mainGlobals "unrolled_in" = some (some (.ref f_unrolled_in))) (l_unrolled_in : K.lookup f_unrolled_in = some ⟨oc_unrolled_in, od_unrolled_in, .func (PySem.W.fnOf "unrolled_in" "unrolled_in" (defArgs s_unrolled_in) (defBody s_unrolled_in) (defScope s_unrolled_in) .none kV_unrolled_in dc_unrolled_in pm_unrolled_in an_unrolled_in cd_unrolled_in ct_unrolled_in), sl_unrolled_in⟩) (c_unrolled_in : PySem.W.codeIn K cd_unrolled_in "unrolled_in" = true) (k_unrolled_in : PySem.W.keepIn K (.ref f_unrolled_in) = true)
    (a_appear_in : PySem.W.nsIn K mainGlobals "appear_in" = some (some (.ref f_appear_in))) (l_appear_in : K.lookup f_appear_in = some ⟨oc_appear_in, od_appear_in, .func (PySem.W.fnOf "appear_in" "appear_in" (defArgs s_appear_in) (defBody s_appear_in) (defScope s_appear_in) .none kV_appear_in dc_appear_in pm_appear_in an_appear_in cd_appear_in ct_appear_in), sl_appear_in⟩) (c_appear_in : PySem.W.codeIn K cd_appear_in "appear_in" = true) (k_appear_in : PySem.W.keepIn K (.ref f_appear_in) = true)
    (a_deep_in : PySem.W.nsIn K mainGlobals "deep_in" = some (some (.ref f_deep_in))) (l_deep_in : K.lookup f_deep_in = some ⟨oc_deep_in, od_deep_in, .func (PySem.W.fnOf "deep_in" "deep_in" (defArgs s_deep_in) (defBody s_deep_in) (defScope s_deep_in) .none kV_deep_in dc_deep_in pm_deep_in an_deep_in cd_deep_in ct_deep_in), sl_deep_in⟩) (c_deep_in : PySem.W.codeIn K cd_deep_in "deep_in" = true) (k_deep_in : PySem.W.keepIn K (.ref f_deep_in) = true)
    (a_folds_of : PySem.W.nsIn K mainGlobals "folds_of" = some (some (.ref f_folds_of))) (l_folds_of : K.lookup f_folds_of = some ⟨oc_folds_of, od_folds_of, .func (PySem.W.fnOf "folds_of" "folds_of" (defArgs s_folds_of) (defBody s_folds_of) (defScope s_folds_of) .none kV_folds_of dc_folds_of pm_folds_of an_folds_of cd_folds_of ct_folds_of), sl_folds_of⟩) (c_folds_of : PySem.W.codeIn K cd_folds_of "folds_of" = true) (k_folds_of : PySem.W.keepIn K (.ref f_folds_of) = true)
    (a_best_fold : PySem.W.nsIn K mainGlobals "best_fold" = some (some (.ref f_best_fold))) (l_best_fold : K.lookup f_best_fold = some ⟨oc_best_fold, od_best_fold, .func (PySem.W.fnOf "best_fold" "best_fold" (defArgs s_best_fold) (defBody s_best_fold) (defScope s_best_fold) .none kV_best_fold dc_best_fold pm_best_fold an_best_fold cd_best_fold ct_best_fold), sl_best_fold⟩) (c_best_fold : PySem.W.codeIn K cd_best_fold "best_fold" = true) (k_best_fold : PySem.W.keepIn K (.ref f_best_fold) = true)
    (a_need_short : PySem.W.nsIn K mainGlobals "need_short" = some (some (.ref f_need_short))) (l_need_short : K.lookup f_need_short = some ⟨oc_need_short, od_need_short, .func (PySem.W.fnOf "need_short" "need_short" (defArgs s_need_short) (defBody s_need_short) (defScope s_need_short) .none kV_need_short dc_need_short pm_need_short an_need_short cd_need_short ct_need_short), sl_need_short⟩) (c_need_short : PySem.W.codeIn K cd_need_short "need_short" = true) (k_need_short : PySem.W.keepIn K (.ref f_need_short) = true)
    (a_folded : PySem.W.nsIn K mainGlobals "folded" = some (some (.ref f_folded))) (l_folded : K.lookup f_folded = some ⟨oc_folded, od_folded, .func (PySem.W.fnOf "folded" "folded" (defArgs s_folded) (defBody s_folded) (defScope s_folded) .none kV_folded dc_folded pm_folded an_folded cd_folded ct_folded), sl_folded⟩) (c_folded : PySem.W.codeIn K cd_folded "folded" = true) (k_folded : PySem.W.keepIn K (.ref f_folded) = true)
    (a_shows_fold : PySem.W.nsIn K mainGlobals "shows_fold" = some (some (.ref f_shows_fold))) (l_shows_fold : K.lookup f_shows_fold = some ⟨oc_shows_fold, od_shows_fold, .func (PySem.W.fnOf "shows_fold" "shows_fold" (defArgs s_shows_fold) (defBody s_shows_fold) (defScope s_shows_fold) .none kV_shows_fold dc_shows_fold pm_shows_fold an_shows_fold cd_shows_fold ct_shows_fold), sl_shows_fold⟩) (c_shows_fold : PySem.W.codeIn K cd_shows_fold "shows_fold" = true) (k_shows_fold : PySem.W.keepIn K (.ref f_shows_fold) = true)
    (a_law_unrolled : PySem.W.nsIn K mainGlobals "_law_unrolled" = some (some (.ref f_law_unrolled))) (l_law_unrolled : K.lookup f_law_unrolled = some ⟨oc_law_unrolled, od_law_unrolled, .func (PySem.W.fnOf "_law_unrolled" "_law_unrolled" (defArgs s_law_unrolled) (defBody s_law_unrolled) (defScope s_law_unrolled) .none kV_law_unrolled dc_law_unrolled pm_law_unrolled an_law_unrolled cd_law_unrolled ct_law_unrolled), sl_law_unrolled⟩) (c_law_unrolled : PySem.W.codeIn K cd_law_unrolled "_law_unrolled" = true) (k_law_unrolled : PySem.W.keepIn K (.ref f_law_unrolled) = true)
    (a_law_taken : PySem.W.nsIn K mainGlobals "_law_taken" = some (some (.ref f_law_taken))) (l_law_taken : K.lookup f_law_taken = some ⟨oc_law_taken, od_law_taken, .func (PySem.W.fnOf "_law_taken" "_law_taken" (defArgs s_law_taken) (defBody s_law_taken) (defScope s_law_taken) .none kV_law_taken dc_law_taken pm_law_taken an_law_taken cd_law_taken ct_law_taken), sl_law_taken⟩) (c_law_taken : PySem.W.codeIn K cd_law_taken "_law_taken" = true) (k_law_taken : PySem.W.keepIn K (.ref f_law_taken) = true)
    (a_law_loop : PySem.W.nsIn K mainGlobals "_law_loop" = some (some (.ref f_law_loop))) (l_law_loop : K.lookup f_law_loop = some ⟨oc_law_loop, od_law_loop, .func (PySem.W.fnOf "_law_loop" "_law_loop" (defArgs s_law_loop) (defBody s_law_loop) (defScope s_law_loop) .none kV_law_loop dc_law_loop pm_law_loop an_law_loop cd_law_loop ct_law_loop), sl_law_loop⟩) (c_law_loop : PySem.W.codeIn K cd_law_loop "_law_loop" = true) (k_law_loop : PySem.W.keepIn K (.ref f_law_loop) = true)
    (a_law_folds : PySem.W.nsIn K mainGlobals "_law_folds" = some (some (.ref f_law_folds))) (l_law_folds : K.lookup f_law_folds = some ⟨oc_law_folds, od_law_folds, .func (PySem.W.fnOf "_law_folds" "_law_folds" (defArgs s_law_folds) (defBody s_law_folds) (defScope s_law_folds) .none kV_law_folds dc_law_folds pm_law_folds an_law_folds cd_law_folds ct_law_folds), sl_law_folds⟩) (c_law_folds : PySem.W.codeIn K cd_law_folds "_law_folds" = true) (k_law_folds : PySem.W.keepIn K (.ref f_law_folds) = true)
    (a_law_said : PySem.W.nsIn K mainGlobals "_law_said" = some (some (.ref f_law_said))) (l_law_said : K.lookup f_law_said = some ⟨oc_law_said, od_law_said, .func (PySem.W.fnOf "_law_said" "_law_said" (defArgs s_law_said) (defBody s_law_said) (defScope s_law_said) .none kV_law_said dc_law_said pm_law_said an_law_said cd_law_said ct_law_said), sl_law_said⟩) (c_law_said : PySem.W.codeIn K cd_law_said "_law_said" = true) (k_law_said : PySem.W.keepIn K (.ref f_law_said) = true)
    (a_law_alike : PySem.W.nsIn K mainGlobals "_law_alike" = some (some (.ref f_law_alike))) (l_law_alike : K.lookup f_law_alike = some ⟨oc_law_alike, od_law_alike, .func (PySem.W.fnOf "_law_alike" "_law_alike" (defArgs s_law_alike) (defBody s_law_alike) (defScope s_law_alike) .none kV_law_alike dc_law_alike pm_law_alike an_law_alike cd_law_alike ct_law_alike), sl_law_alike⟩) (c_law_alike : PySem.W.codeIn K cd_law_alike "_law_alike" = true) (k_law_alike : PySem.W.keepIn K (.ref f_law_alike) = true)
    (a_law_is_vector : PySem.W.nsIn K mainGlobals "_law_is_vector" = some (some (.ref f_law_is_vector))) (l_law_is_vector : K.lookup f_law_is_vector = some ⟨oc_law_is_vector, od_law_is_vector, .func (PySem.W.fnOf "_law_is_vector" "_law_is_vector" (defArgs s_law_is_vector) (defBody s_law_is_vector) (defScope s_law_is_vector) .none kV_law_is_vector dc_law_is_vector pm_law_is_vector an_law_is_vector cd_law_is_vector ct_law_is_vector), sl_law_is_vector⟩) (c_law_is_vector : PySem.W.codeIn K cd_law_is_vector "_law_is_vector" = true) (k_law_is_vector : PySem.W.keepIn K (.ref f_law_is_vector) = true)
    (a_law_is_loop : PySem.W.nsIn K mainGlobals "_law_is_loop" = some (some (.ref f_law_is_loop))) (l_law_is_loop : K.lookup f_law_is_loop = some ⟨oc_law_is_loop, od_law_is_loop, .func (PySem.W.fnOf "_law_is_loop" "_law_is_loop" (defArgs s_law_is_loop) (defBody s_law_is_loop) (defScope s_law_is_loop) .none kV_law_is_loop dc_law_is_loop pm_law_is_loop an_law_is_loop cd_law_is_loop ct_law_is_loop), sl_law_is_loop⟩) (c_law_is_loop : PySem.W.codeIn K cd_law_is_loop "_law_is_loop" = true) (k_law_is_loop : PySem.W.keepIn K (.ref f_law_is_loop) = true)
    (a_law : PySem.W.nsIn K mainGlobals "law" = some (some (.ref f_law))) (l_law : K.lookup f_law = some ⟨oc_law, od_law, .func (PySem.W.fnOf "law" "law" (defArgs s_law) (defBody s_law) (defScope s_law) .none kV_law dc_law pm_law an_law cd_law ct_law), sl_law⟩) (c_law : PySem.W.codeIn K cd_law "law" = true) (k_law : PySem.W.keepIn K (.ref f_law) = true)
    (m_MOST_BOXES : PySem.W.nsIn K mainGlobals "MOST_BOXES" = some (some (.int 8 t_MOST_BOXES)))
    (m_MOST_TIMES : PySem.W.nsIn K mainGlobals "MOST_TIMES" = some (some (.int 999 t_MOST_TIMES)))
    (m_MOST_DEEP : PySem.W.nsIn K mainGlobals "MOST_DEEP" = some (some (.int 8 t_MOST_DEEP)))
    (m_MOST_LONG : PySem.W.nsIn K mainGlobals "MOST_LONG" = some (some (.int 2000 t_MOST_LONG)))
    (m_MOST_FOLDED : PySem.W.nsIn K mainGlobals "MOST_FOLDED" = some (some (.int 24 t_MOST_FOLDED)))
    (z_isinstance : PySem.W.nsIn K mainGlobals "isinstance" = some none)
    (z_int : PySem.W.nsIn K mainGlobals "int" = some none)
    (z_bool : PySem.W.nsIn K mainGlobals "bool" = some none)
    (z_tuple : PySem.W.nsIn K mainGlobals "tuple" = some none)
    (z_list : PySem.W.nsIn K mainGlobals "list" = some none)
    (z_str : PySem.W.nsIn K mainGlobals "str" = some none)
    (z_len : PySem.W.nsIn K mainGlobals "len" = some none)
    (z_range : PySem.W.nsIn K mainGlobals "range" = some none)
    (z_max : PySem.W.nsIn K mainGlobals "max" = some none)
    (z_min : PySem.W.nsIn K mainGlobals "min" = some none) :
    ∃ fd : FuncData, (∀ (s : Shared) (v : Value), BindsTo s fd ⟨[v], []⟩ [("_law_script", v)]) ∧ ∀ base : Heap, K.In base → base.Ns mainGlobals mg → FnOk l.prog w K mg base CX0 23 fa fd ["_law_script"] (sp_law K) := by
  have e := hfa.symm.trans (PySem.W.mg_of X G a_law)
  cases e
  have T : Top mg := ⟨PySem.W.mg_none_of X G z_isinstance, PySem.W.mg_none_of X G z_int, PySem.W.mg_none_of X G z_bool, PySem.W.mg_none_of X G z_tuple, PySem.W.mg_none_of X G z_list, PySem.W.mg_none_of X G z_str, PySem.W.mg_none_of X G z_len, PySem.W.mg_none_of X G z_range, PySem.W.mg_none_of X G z_max, PySem.W.mg_none_of X G z_min, ⟨_, PySem.W.mg_of X G m_MOST_BOXES⟩, ⟨_, PySem.W.mg_of X G m_MOST_TIMES⟩, ⟨_, PySem.W.mg_of X G m_MOST_DEEP⟩, ⟨_, PySem.W.mg_of X G m_MOST_LONG⟩, ⟨_, PySem.W.mg_of X G m_MOST_FOLDED⟩⟩
  have F_is_in := fun_mk (st := s_is_in) l_is_in c_is_in k_is_in
  have D_is_in : Def K mg "is_in" s_is_in ["value", "least", "most"] _ _ := ⟨F_is_in, F_is_in.binds (ps := ["value", "least", "most"]) fun _ _ _ _ _ _ us hl => match us, hl with | [_, _, _], _ => rfl, PySem.W.mg_of X G a_is_in⟩
  have F_size_of := fun_mk (st := s_size_of) l_size_of c_size_of k_size_of
  have D_size_of : Def K mg "size_of" s_size_of ["value", "deep"] _ _ := ⟨F_size_of, F_size_of.binds (ps := ["value", "deep"]) fun _ _ _ _ _ _ us hl => match us, hl with | [_, _], _ => rfl, PySem.W.mg_of X G a_size_of⟩
  have F_unrolled_in := fun_mk (st := s_unrolled_in) l_unrolled_in c_unrolled_in k_unrolled_in
  have D_unrolled_in : Def K mg "unrolled_in" s_unrolled_in ["loop"] _ _ := ⟨F_unrolled_in, F_unrolled_in.binds (ps := ["loop"]) fun _ _ _ _ _ _ us hl => match us, hl with | [_], _ => rfl, PySem.W.mg_of X G a_unrolled_in⟩
  have F_appear_in := fun_mk (st := s_appear_in) l_appear_in c_appear_in k_appear_in
  have D_appear_in : Def K mg "appear_in" s_appear_in ["loop"] _ _ := ⟨F_appear_in, F_appear_in.binds (ps := ["loop"]) fun _ _ _ _ _ _ us hl => match us, hl with | [_], _ => rfl, PySem.W.mg_of X G a_appear_in⟩
  have F_deep_in := fun_mk (st := s_deep_in) l_deep_in c_deep_in k_deep_in
  have D_deep_in : Def K mg "deep_in" s_deep_in ["loop"] _ _ := ⟨F_deep_in, F_deep_in.binds (ps := ["loop"]) fun _ _ _ _ _ _ us hl => match us, hl with | [_], _ => rfl, PySem.W.mg_of X G a_deep_in⟩
  have F_folds_of := fun_mk (st := s_folds_of) l_folds_of c_folds_of k_folds_of
  have D_folds_of : Def K mg "folds_of" s_folds_of ["word"] _ _ := ⟨F_folds_of, F_folds_of.binds (ps := ["word"]) fun _ _ _ _ _ _ us hl => match us, hl with | [_], _ => rfl, PySem.W.mg_of X G a_folds_of⟩
  have F_best_fold := fun_mk (st := s_best_fold) l_best_fold c_best_fold k_best_fold
  have D_best_fold : Def K mg "best_fold" s_best_fold ["word", "at", "size", "best"] _ _ := ⟨F_best_fold, F_best_fold.binds (ps := ["word", "at", "size", "best"]) fun _ _ _ _ _ _ us hl => match us, hl with | [_, _, _, _], _ => rfl, PySem.W.mg_of X G a_best_fold⟩
  have F_need_short := fun_mk (st := s_need_short) l_need_short c_need_short k_need_short
  have D_need_short : Def K mg "need_short" s_need_short ["word"] _ _ := ⟨F_need_short, F_need_short.binds (ps := ["word"]) fun _ _ _ _ _ _ us hl => match us, hl with | [_], _ => rfl, PySem.W.mg_of X G a_need_short⟩
  have F_folded := fun_mk (st := s_folded) l_folded c_folded k_folded
  have D_folded : Def K mg "folded" s_folded ["word"] _ _ := ⟨F_folded, F_folded.binds (ps := ["word"]) fun _ _ _ _ _ _ us hl => match us, hl with | [_], _ => rfl, PySem.W.mg_of X G a_folded⟩
  have F_shows_fold := fun_mk (st := s_shows_fold) l_shows_fold c_shows_fold k_shows_fold
  have D_shows_fold : Def K mg "shows_fold" s_shows_fold ["word", "value"] _ _ := ⟨F_shows_fold, F_shows_fold.binds (ps := ["word", "value"]) fun _ _ _ _ _ _ us hl => match us, hl with | [_, _], _ => rfl, PySem.W.mg_of X G a_shows_fold⟩
  have F_law_unrolled := fun_mk (st := s_law_unrolled) l_law_unrolled c_law_unrolled k_law_unrolled
  have D_law_unrolled : Def K mg "_law_unrolled" s_law_unrolled ["_law_loop_here"] _ _ := ⟨F_law_unrolled, F_law_unrolled.binds (ps := ["_law_loop_here"]) fun _ _ _ _ _ _ us hl => match us, hl with | [_], _ => rfl, PySem.W.mg_of X G a_law_unrolled⟩
  have F_law_taken := fun_mk (st := s_law_taken) l_law_taken c_law_taken k_law_taken
  have D_law_taken : Def K mg "_law_taken" s_law_taken ["_law_row", "_law_many"] _ _ := ⟨F_law_taken, F_law_taken.binds (ps := ["_law_row", "_law_many"]) fun _ _ _ _ _ _ us hl => match us, hl with | [_, _], _ => rfl, PySem.W.mg_of X G a_law_taken⟩
  have F_law_loop := fun_mk (st := s_law_loop) l_law_loop c_law_loop k_law_loop
  have D_law_loop : Def K mg "_law_loop" s_law_loop ["_law_row", "_law_deep", "_law_most"] _ _ := ⟨F_law_loop, F_law_loop.binds (ps := ["_law_row", "_law_deep", "_law_most"]) fun _ _ _ _ _ _ us hl => match us, hl with | [_, _, _], _ => rfl, PySem.W.mg_of X G a_law_loop⟩
  have F_law_folds := fun_mk (st := s_law_folds) l_law_folds c_law_folds k_law_folds
  have D_law_folds : Def K mg "_law_folds" s_law_folds ["_law_word", "_law_known"] _ _ := ⟨F_law_folds, F_law_folds.binds (ps := ["_law_word", "_law_known"]) fun _ _ _ _ _ _ us hl => match us, hl with | [_, _], _ => rfl, PySem.W.mg_of X G a_law_folds⟩
  have F_law_said := fun_mk (st := s_law_said) l_law_said c_law_said k_law_said
  have D_law_said : Def K mg "_law_said" s_law_said ["_law_loop_here"] _ _ := ⟨F_law_said, F_law_said.binds (ps := ["_law_loop_here"]) fun _ _ _ _ _ _ us hl => match us, hl with | [_], _ => rfl, PySem.W.mg_of X G a_law_said⟩
  have F_law_alike := fun_mk (st := s_law_alike) l_law_alike c_law_alike k_law_alike
  have D_law_alike : Def K mg "_law_alike" s_law_alike ["_law_found", "_law_due"] _ _ := ⟨F_law_alike, F_law_alike.binds (ps := ["_law_found", "_law_due"]) fun _ _ _ _ _ _ us hl => match us, hl with | [_, _], _ => rfl, PySem.W.mg_of X G a_law_alike⟩
  have F_law_is_vector := fun_mk (st := s_law_is_vector) l_law_is_vector c_law_is_vector k_law_is_vector
  have D_law_is_vector : Def K mg "_law_is_vector" s_law_is_vector ["_law_value", "_law_size"] _ _ := ⟨F_law_is_vector, F_law_is_vector.binds (ps := ["_law_value", "_law_size"]) fun _ _ _ _ _ _ us hl => match us, hl with | [_, _], _ => rfl, PySem.W.mg_of X G a_law_is_vector⟩
  have F_law_is_loop := fun_mk (st := s_law_is_loop) l_law_is_loop c_law_is_loop k_law_is_loop
  have D_law_is_loop : Def K mg "_law_is_loop" s_law_is_loop ["_law_value"] _ _ := ⟨F_law_is_loop, F_law_is_loop.binds (ps := ["_law_value"]) fun _ _ _ _ _ _ us hl => match us, hl with | [_], _ => rfl, PySem.W.mg_of X G a_law_is_loop⟩
  have F_law := fun_mk (st := s_law) l_law c_law k_law
  have D_law : Def K mg "law" s_law ["_law_script"] _ _ := ⟨F_law, F_law.binds (ps := ["_law_script"]) fun _ _ _ _ _ _ us hl => match us, hl with | [_], _ => rfl, PySem.W.mg_of X G a_law⟩
  refine ⟨PySem.W.fnOf "law" "law" (defArgs s_law) (defBody s_law) (defScope s_law) .none kV_law dc_law pm_law an_law cd_law ct_law, fun s v => .of_eq rfl, fun base _ _ => ?_⟩
  have N := ok_need (P := l.prog) (w := w) (base := base) D_need_short T D_is_in
  have B := ok_folds (P := l.prog) (w := w) (base := base) D_folds_of T D_best_fold (ok_best D_best_fold T D_deep_in)
  exact ok_law D_law T D_law_unrolled D_law_loop D_law_taken D_law_folds D_folded D_law_is_loop D_law_said D_law_alike D_shows_fold (ok_lun D_law_unrolled T 20) (ok_loop D_law_loop T D_law_taken 3 (by decide)) (ok_taken D_law_taken T)
    (ok_lf D_law_folds T 11) (ok_folded D_folded T D_need_short D_folds_of N B) (ok_isl D_law_is_loop T D_law_is_vector 20) (ok_said D_law_said T 20) (ok_alike D_law_alike T)
    (ok_shows D_shows_fold T D_need_short D_folds_of D_size_of D_unrolled_in D_appear_in N B (ok_size D_size_of T D_is_in 9) (ok_unr D_unrolled_in T 20) (ok_appear D_appear_in T 20))
end RF
open PySem PySem.W PyProof.Rows
set_option maxHeartbeats 0 in
theorem PySem.Challenge.cw_rateflows_k32_whole_folds_judged_holds : PySem.Challenge.rw_rateflows_k32_whole_folds_judged.Holds := by
  w_on; o_law; k_head; (case hw => w_witness2)
  k_fill
  refine L2.walk_of (l := PySem.Challenge.rw_rateflows_k32_whole_folds_judged) (n := 63) (k := 23) (x := "_law_script") (CX := fun _ => L2.CX0) (sp := fun w => RF.sp_law _) rfl (by decide) rfl ⟨rfl, by decide, by decide⟩ (fun w h Y => PySem.W.kIn_of Y) ?F (fun _ _ a ns hl _ hS => ⟨a, ns, rfl, hS, hl, fun _ => rfl⟩) (fun _ _ _ _ _ h => h)
  case F =>
    intro w mg fa h KX G hmg
    refine' RF.all_mk KX G hmg ?a_is_in ?l_is_in ?c_is_in ?k_is_in ?a_size_of ?l_size_of ?c_size_of ?k_size_of ?a_unrolled_in ?l_unrolled_in ?c_unrolled_in ?k_unrolled_in ?a_appear_in ?l_appear_in ?c_appear_in ?k_appear_in ?a_deep_in ?l_deep_in ?c_deep_in ?k_deep_in ?a_folds_of ?l_folds_of ?c_folds_of ?k_folds_of ?a_best_fold ?l_best_fold ?c_best_fold ?k_best_fold ?a_need_short ?l_need_short ?c_need_short ?k_need_short ?a_folded ?l_folded ?c_folded ?k_folded ?a_shows_fold ?l_shows_fold ?c_shows_fold ?k_shows_fold ?a_law_unrolled ?l_law_unrolled ?c_law_unrolled ?k_law_unrolled ?a_law_taken ?l_law_taken ?c_law_taken ?k_law_taken ?a_law_loop ?l_law_loop ?c_law_loop ?k_law_loop ?a_law_folds ?l_law_folds ?c_law_folds ?k_law_folds ?a_law_said ?l_law_said ?c_law_said ?k_law_said ?a_law_alike ?l_law_alike ?c_law_alike ?k_law_alike ?a_law_is_vector ?l_law_is_vector ?c_law_is_vector ?k_law_is_vector ?a_law_is_loop ?l_law_is_loop ?c_law_is_loop ?k_law_is_loop ?a_law ?l_law ?c_law ?k_law ?m_MOST_BOXES ?m_MOST_TIMES ?m_MOST_DEEP ?m_MOST_LONG ?m_MOST_FOLDED ?z_isinstance ?z_int ?z_bool ?z_tuple ?z_list ?z_str ?z_len ?z_range ?z_max ?z_min
    (case a_is_in => k_is)
    (case l_is_in => k_is)
    (case c_is_in => k_is)
    (case k_is_in => k_is)
    (case a_size_of => k_is)
    (case l_size_of => k_is)
    (case c_size_of => k_is)
    (case k_size_of => k_is)
    (case a_unrolled_in => k_is)
    (case l_unrolled_in => k_is)
    (case c_unrolled_in => k_is)
    (case k_unrolled_in => k_is)
    (case a_appear_in => k_is)
    (case l_appear_in => k_is)
    (case c_appear_in => k_is)
    (case k_appear_in => k_is)
    (case a_deep_in => k_is)
    (case l_deep_in => k_is)
    (case c_deep_in => k_is)
    (case k_deep_in => k_is)
    (case a_folds_of => k_is)
    (case l_folds_of => k_is)
    (case c_folds_of => k_is)
    (case k_folds_of => k_is)
    (case a_best_fold => k_is)
    (case l_best_fold => k_is)
    (case c_best_fold => k_is)
    (case k_best_fold => k_is)
    (case a_need_short => k_is)
    (case l_need_short => k_is)
    (case c_need_short => k_is)
    (case k_need_short => k_is)
    (case a_folded => k_is)
    (case l_folded => k_is)
    (case c_folded => k_is)
    (case k_folded => k_is)
    (case a_shows_fold => k_is)
    (case l_shows_fold => k_is)
    (case c_shows_fold => k_is)
    (case k_shows_fold => k_is)
    (case a_law_unrolled => k_is)
    (case l_law_unrolled => k_is)
    (case c_law_unrolled => k_is)
    (case k_law_unrolled => k_is)
    (case a_law_taken => k_is)
    (case l_law_taken => k_is)
    (case c_law_taken => k_is)
    (case k_law_taken => k_is)
    (case a_law_loop => k_is)
    (case l_law_loop => k_is)
    (case c_law_loop => k_is)
    (case k_law_loop => k_is)
    (case a_law_folds => k_is)
    (case l_law_folds => k_is)
    (case c_law_folds => k_is)
    (case k_law_folds => k_is)
    (case a_law_said => k_is)
    (case l_law_said => k_is)
    (case c_law_said => k_is)
    (case k_law_said => k_is)
    (case a_law_alike => k_is)
    (case l_law_alike => k_is)
    (case c_law_alike => k_is)
    (case k_law_alike => k_is)
    (case a_law_is_vector => k_is)
    (case l_law_is_vector => k_is)
    (case c_law_is_vector => k_is)
    (case k_law_is_vector => k_is)
    (case a_law_is_loop => k_is)
    (case l_law_is_loop => k_is)
    (case c_law_is_loop => k_is)
    (case k_law_is_loop => k_is)
    (case a_law => k_is)
    (case l_law => k_is)
    (case c_law => k_is)
    (case k_law => k_is)
    (case m_MOST_BOXES => k_is)
    (case m_MOST_TIMES => k_is)
    (case m_MOST_DEEP => k_is)
    (case m_MOST_LONG => k_is)
    (case m_MOST_FOLDED => k_is)
    (case z_isinstance => k_is)
    (case z_int => k_is)
    (case z_bool => k_is)
    (case z_tuple => k_is)
    (case z_list => k_is)
    (case z_str => k_is)
    (case z_len => k_is)
    (case z_range => k_is)
    (case z_max => k_is)
    (case z_min => k_is)
