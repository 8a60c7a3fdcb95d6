import PyProof.Rows.All
import Wide.All
import OpenK.AllK
import Wide.FinOn
import PyProof.EqAt
import PyProof.EqKinds
import PyProof.TupleCall
import KE.KStateDown
import HandS.ForMost
import HandS.Exc
import HandS.TryOnly
import HandS.ExcOwn
import HandS.WordsExc
import HandS.IsInst
import HandS.Sort
import HandS.SortRule
import HandS.SortInts
import HandS.Conv
import HandS.Style
import HandS.Zip
import HandS.Wide
import HandS.More
import HandS.Defaults
import HandS.Codes
import HandS.Head0
import HandS.Head1
import HandS.Head2
import HandS.HeadEnd
import HandS.HeadHook1
import HandS.HeadHook2
import HandS.Set
import HandS.SetFor
import HandS.Strs
import PySem.Challenge.RW_benchpair_k04_answers_by_hand
set_option Elab.async false
set_option linter.all false
set_option maxRecDepth 100000
set_option maxHeartbeats 8000000
/-! Benchpair: the plain mathematics of an order (no program in sight). -/
namespace Bp
/-- a thing: bench 1, drying, bench 2 -/
abbrev T3 := Int × Int × Int
def Nn (t : T3) : Prop := 0 ≤ t.1 ∧ 0 ≤ t.2.1 ∧ 0 ≤ t.2.2
def sa : List T3 → Int
  | [] => 0
  | t :: r => t.1 + sa r
def sb : List T3 → Int
  | [] => 0
  | t :: r => t.2.2 + sb r
/-- the greater one, as Python's max tells it -/
def gr (i j : Int) : Int := if j > i then j else i
theorem gr_le {i j x : Int} : gr i j ≤ x ↔ i ≤ x ∧ j ≤ x := by
  unfold gr; split <;> omega
theorem le_gr1 (i j : Int) : i ≤ gr i j := by unfold gr; split <;> omega
theorem le_gr2 (i j : Int) : j ≤ gr i j := by unfold gr; split <;> omega
/-- when bench 2 is free at the end, from f and s on -/
def endOf (f s : Int) : List T3 → Int
  | [] => s
  | t :: r => endOf (f + t.1) (gr s (f + t.1 + t.2.1) + t.2.2) r
/-- when each begins on either bench -/
def runP (f s : Int) : List T3 → List (Int × Int)
  | [] => []
  | t :: r => (f, gr s (f + t.1 + t.2.1)) :: runP (f + t.1) (gr s (f + t.1 + t.2.1) + t.2.2) r
/-- the longest way, as it is looked for from the left -/
def mx (f : Int) : List T3 → Int → Int
  | [], m => m
  | t :: r, m => mx (f + t.1) r (gr m (f + t.1 + t.2.1 + (t.2.2 + sb r)))
/-- the way that changes benches at t -/
def pth (p : List T3) (t : T3) (r : List T3) : Int := sa p + t.1 + t.2.1 + (t.2.2 + sb r)
theorem sa_app : ∀ p q : List T3, sa (p ++ q) = sa p + sa q
  | [], q => by simp [sa]
  | t :: p, q => by rw [List.cons_append, sa, sa, sa_app p q]; omega
theorem sb_app : ∀ p q : List T3, sb (p ++ q) = sb p + sb q
  | [], q => by simp [sb]
  | t :: p, q => by rw [List.cons_append, sb, sb, sb_app p q]; omega
theorem sa_nn : ∀ {l : List T3}, (∀ t ∈ l, Nn t) → 0 ≤ sa l
  | [], _ => Int.le_refl 0
  | t :: r, h => by
    have h1 := (h t List.mem_cons_self).1
    have h2 := sa_nn fun u hu => h u (List.mem_cons_of_mem t hu)
    rw [sa]; omega
theorem sb_nn : ∀ {l : List T3}, (∀ t ∈ l, Nn t) → 0 ≤ sb l
  | [], _ => Int.le_refl 0
  | t :: r, h => by
    have h1 := (h t List.mem_cons_self).2.2
    have h2 := sb_nn fun u hu => h u (List.mem_cons_of_mem t hu)
    rw [sb]; omega
theorem runP_len : ∀ (f s : Int) (l : List T3), (runP f s l).length = l.length
  | _, _, [] => rfl
  | f, s, t :: r => by rw [runP, List.length_cons, List.length_cons, runP_len]
theorem endOf_mx : ∀ (l : List T3) (f s : Int), endOf f s l = mx f l (s + sb l)
  | [], f, s => by simp [endOf, mx, sb]
  | t :: r, f, s => by
    rw [endOf, mx, sb, endOf_mx r]
    congr 1
    unfold gr
    split <;> split <;> omega
theorem mx_le : ∀ (l : List T3) (f m x : Int), mx f l m ≤ x ↔ m ≤ x ∧ ∀ p t r, l = p ++ t :: r → f + pth p t r ≤ x
  | [], f, m, x => by
    rw [mx]
    refine ⟨fun h => ⟨h, fun p t r e => ?_⟩, fun h => h.1⟩
    cases p <;> cases e
  | u :: l, f, m, x => by
    rw [mx, mx_le l, gr_le]
    constructor
    · rintro ⟨⟨h1, h2⟩, h3⟩
      refine ⟨h1, fun p t r e => ?_⟩
      cases p with
      | nil =>
        rw [List.nil_append] at e
        injection e with e1 e2
        subst e1 e2
        simp only [pth, sa]
        omega
      | cons v p =>
        rw [List.cons_append] at e
        injection e with e1 e2
        subst e1
        have h4 := h3 p t r e2
        simp only [pth, sa] at h4 ⊢
        omega
    · rintro ⟨h1, h2⟩
      refine ⟨⟨h1, ?_⟩, fun p t r e => ?_⟩
      · have h3 := h2 [] u l rfl
        simp only [pth, sa] at h3
        omega
      · have h3 := h2 (u :: p) t r (by rw [e, List.cons_append])
        simp only [pth, sa] at h3 ⊢
        omega
/-- when all is done -/
def dn (l : List T3) : Int := endOf 0 0 l
/-- the same, by the ways through -/
def ld (l : List T3) : Int := mx 0 l 0
theorem ld_le {l : List T3} {x : Int} : ld l ≤ x ↔ 0 ≤ x ∧ ∀ p t r, l = p ++ t :: r → pth p t r ≤ x := by
  unfold ld
  rw [mx_le]
  constructor
  · rintro ⟨h1, h2⟩
    exact ⟨h1, fun p t r e => by have := h2 p t r e; omega⟩
  · rintro ⟨h1, h2⟩
    exact ⟨h1, fun p t r e => by have := h2 p t r e; omega⟩
theorem dn_le {l : List T3} (h : ∀ t ∈ l, Nn t) {x : Int} : dn l ≤ x ↔ 0 ≤ x ∧ ∀ p t r, l = p ++ t :: r → pth p t r ≤ x := by
  unfold dn
  rw [endOf_mx, mx_le]
  constructor
  · rintro ⟨h1, h2⟩
    have := sb_nn h
    exact ⟨by omega, fun p t r e => by have := h2 p t r e; omega⟩
  · rintro ⟨h1, h2⟩
    refine ⟨?_, fun p t r e => by have := h2 p t r e; omega⟩
    cases l with
    | nil => simp only [sb]; omega
    | cons t r =>
      have h3 := h2 [] t r rfl
      have h4 := h t List.mem_cons_self
      simp only [pth, sa, sb] at h3 ⊢
      have := h4.1
      have := h4.2.1
      omega
theorem le_anti {a b : Int} (h : ∀ x, a ≤ x ↔ b ≤ x) : a = b := by
  have h1 := (h b).mpr (Int.le_refl b)
  have h2 := (h a).mp (Int.le_refl a)
  omega
theorem dn_ld {l : List T3} (h : ∀ t ∈ l, Nn t) : dn l = ld l := le_anti fun _ => (dn_le h).trans ld_le.symm
theorem ld_nn (l : List T3) : 0 ≤ ld l := (ld_le.mp (Int.le_refl (ld l))).1
theorem pth_le_ld {l p r : List T3} {t : T3} (e : l = p ++ t :: r) : pth p t r ≤ ld l := (ld_le.mp (Int.le_refl (ld l))).2 p t r e
/-! ### benches exchanged -/
def tn (t : T3) : T3 := (t.2.2, t.2.1, t.1)
theorem tn_tn (t : T3) : tn (tn t) = t := rfl
theorem tn_nn {t : T3} (h : Nn t) : Nn (tn t) := ⟨h.2.2, h.2.1, h.1⟩
theorem tn_map (l : List T3) : (l.map tn).map tn = l := by
  rw [List.map_map]
  exact List.map_id'' (fun t => tn_tn t) l
theorem sa_tn : ∀ l : List T3, sa (l.map tn) = sb l
  | [] => rfl
  | t :: r => by rw [List.map_cons, sa, sb, sa_tn r]; rfl
theorem sb_tn : ∀ l : List T3, sb (l.map tn) = sa l
  | [] => rfl
  | t :: r => by rw [List.map_cons, sa, sb, sb_tn r]; rfl
theorem sa_rev : ∀ l : List T3, sa l.reverse = sa l
  | [] => rfl
  | t :: r => by rw [List.reverse_cons, sa_app, sa_rev r, sa, sa, sa]; omega
theorem sb_rev : ∀ l : List T3, sb l.reverse = sb l
  | [] => rfl
  | t :: r => by rw [List.reverse_cons, sb_app, sb_rev r, sb, sb, sb]; omega
theorem pth_rev (p : List T3) (t : T3) (r : List T3) : pth (r.map tn).reverse (tn t) (p.map tn).reverse = pth p t r := by
  unfold pth
  rw [sa_rev, sb_rev, sa_tn, sb_tn]
  simp only [tn]
  omega
theorem split_rev {l p r : List T3} {t : T3} (e : l = p ++ t :: r) : (l.map tn).reverse = (r.map tn).reverse ++ tn t :: (p.map tn).reverse := by
  rw [e, List.map_append, List.map_cons, List.reverse_append, List.reverse_cons, List.append_assoc] <;> rfl
theorem ld_rev (l : List T3) : ld (l.map tn).reverse = ld l := by
  refine le_anti fun x => ?_
  rw [ld_le, ld_le]
  constructor
  · rintro ⟨h1, h2⟩
    exact ⟨h1, fun p t r e => by have := h2 _ _ _ (split_rev e); rw [pth_rev] at this; exact this⟩
  · rintro ⟨h1, h2⟩
    refine ⟨h1, fun p t r e => ?_⟩
    have e2 : l = (r.map tn).reverse ++ tn t :: (p.map tn).reverse := by
      have e3 := split_rev e
      rw [List.map_reverse, tn_map, List.reverse_reverse] at e3
      exact e3
    have := h2 _ _ _ e2
    rw [pth_rev] at this
    exact this
theorem nn_turn {l : List T3} (h : ∀ t ∈ l, Nn t) : ∀ t ∈ (l.map tn).reverse, Nn t := fun t ht => by
  rw [List.mem_reverse, List.mem_map] at ht
  obtain ⟨u, hu, rfl⟩ := ht
  exact tn_nn (h u hu)
theorem dn_rev {l : List T3} (h : ∀ t ∈ l, Nn t) : dn (l.map tn).reverse = dn l := by
  rw [dn_ld h, dn_ld (nn_turn h), ld_rev]
/-! ### a thing less -/
theorem sa_sub {p q : List T3} (h : p.Sublist q) (hq : ∀ t ∈ q, Nn t) : sa p ≤ sa q := by
  induction h with
  | slnil => exact Int.le_refl 0
  | cons t _ ih =>
    have := ih fun u hu => hq u (List.mem_cons_of_mem t hu)
    have := (hq t List.mem_cons_self).1
    rw [sa]; omega
  | cons_cons t _ ih =>
    have := ih fun u hu => hq u (List.mem_cons_of_mem t hu)
    rw [sa, sa]; omega
theorem sb_sub {p q : List T3} (h : p.Sublist q) (hq : ∀ t ∈ q, Nn t) : sb p ≤ sb q := by
  induction h with
  | slnil => exact Int.le_refl 0
  | cons t _ ih =>
    have := ih fun u hu => hq u (List.mem_cons_of_mem t hu)
    have := (hq t List.mem_cons_self).2.2
    rw [sb]; omega
  | cons_cons t _ ih =>
    have := ih fun u hu => hq u (List.mem_cons_of_mem t hu)
    rw [sb, sb]; omega
theorem ld_sub {l m : List T3} (h : l.Sublist m) (hm : ∀ t ∈ m, Nn t) : ld l ≤ ld m := by
  rw [ld_le]
  refine ⟨ld_nn m, fun p t r e => ?_⟩
  subst e
  obtain ⟨m1, m2, e1, h1, h2⟩ := List.append_sublist_iff.mp h
  obtain ⟨m3, m4, e2, h3, h4⟩ := List.cons_sublist_iff.mp h2
  obtain ⟨m5, m6, e3⟩ := List.append_of_mem h3
  subst e1 e2 e3
  have q : m1 ++ (m5 ++ t :: m6 ++ m4) = (m1 ++ m5) ++ t :: (m6 ++ m4) := by simp
  have w := pth_le_ld q
  have a1 := sa_sub h1 fun u hu => hm u (List.mem_append_left _ hu)
  have a2 : 0 ≤ sa m5 := sa_nn fun u hu => hm u (by simp [hu])
  have b1 := sb_sub h4 fun u hu => hm u (by simp [hu])
  have b2 : 0 ≤ sb m6 := sb_nn fun u hu => hm u (by simp [hu])
  unfold pth at w ⊢
  rw [sa_app, sb_app] at w
  omega
end Bp
/-! Benchpair: orders as lists of counts. -/
namespace Bp
/-- the things in an order -/
def sq (ts : List T3) (os : List Nat) : List T3 := os.map fun k => ts.getD k (0, 0, 0)
/-- 0, 1, .. as whole numbers -/
def zs (os : List Nat) : List Int := os.map fun k : Nat => (k : Int)
def rg (n : Nat) : List Int := zs (List.range n)
theorem zs_len (os : List Nat) : (zs os).length = os.length := List.length_map ..
theorem sq_len (ts : List T3) (os : List Nat) : (sq ts os).length = os.length := List.length_map ..
theorem sq_app (ts : List T3) (p q : List Nat) : sq ts (p ++ q) = sq ts p ++ sq ts q := List.map_append ..
theorem getD_at {ts : List T3} {k : Nat} (h : k < ts.length) : ts[k]? = some (ts.getD k (0, 0, 0)) := by
  rw [List.getD_eq_getElem?_getD, List.getElem?_eq_getElem h]; rfl
theorem sq_nn {ts : List T3} {os : List Nat} (h : ∀ t ∈ ts, Nn t) (ho : ∀ k ∈ os, k < ts.length) : ∀ t ∈ sq ts os, Nn t := fun t ht => by
  obtain ⟨k, hk, rfl⟩ := List.mem_map.mp ht
  exact h _ (List.mem_of_getElem? (getD_at (ho k hk)))
theorem perm_lt {os : List Nat} {n : Nat} (h : os.Perm (List.range n)) : ∀ k ∈ os, k < n := fun k hk => List.mem_range.mp (h.mem_iff.mp hk)
theorem perm_len {os : List Nat} {n : Nat} (h : os.Perm (List.range n)) : os.length = n := by rw [h.length_eq, List.length_range]
theorem perm_nd {os : List Nat} {n : Nat} (h : os.Perm (List.range n)) : os.Nodup := h.nodup_iff.mpr List.nodup_range
theorem sq_tn (ts : List T3) (os : List Nat) : sq (ts.map tn) os = (sq ts os).map tn := by
  unfold sq
  rw [List.map_map]
  refine List.map_congr_left fun k _ => ?_
  show (ts.map tn).getD k (0, 0, 0) = tn (ts.getD k (0, 0, 0))
  rw [List.getD_eq_getElem?_getD, List.getD_eq_getElem?_getD, List.getElem?_map]
  cases ts[k]? <;> rfl
theorem sq_rev (ts : List T3) (os : List Nat) : sq (ts.map tn) os.reverse = ((sq ts os).map tn).reverse := by
  rw [sq_tn]; unfold sq; rw [List.map_reverse, List.map_reverse]
/-- benches exchanged, the order turned about: done as soon -/
theorem dn_turned {ts : List T3} {os : List Nat} (h : ∀ t ∈ ts, Nn t) (ho : ∀ k ∈ os, k < ts.length) : dn (sq (ts.map tn) os.reverse) = dn (sq ts os) := by
  rw [sq_rev]; exact dn_rev (sq_nn h ho)
/-! ### a thing left out -/
def dropAt (out : Nat) (os : List Nat) : List Nat := (os.filter fun k => decide (k ≠ out)).map fun k => if out < k then k - 1 else k
theorem range_drop {n out : Nat} (h : out < n) : dropAt out (List.range n) = List.range (n - 1) := by
  have e : List.range n = List.range out ++ [out] ++ (List.range (n - out - 1)).map (fun k => out + 1 + k) := by
    have h1 := List.range_add (n := out + 1) (m := n - out - 1)
    rw [show out + 1 + (n - out - 1) = n by omega, List.range_succ] at h1
    exact h1
  have e2 : List.range (n - 1) = List.range out ++ (List.range (n - out - 1)).map (fun k => out + k) := by
    have h1 := List.range_add (n := out) (m := n - out - 1)
    rw [show out + (n - out - 1) = n - 1 by omega] at h1
    exact h1
  unfold dropAt
  rw [e, e2, List.filter_append, List.filter_append, List.map_append, List.map_append]
  have f1 : (List.range out).filter (fun k => decide (k ≠ out)) = List.range out := List.filter_eq_self.mpr fun k hk => by
    have := List.mem_range.mp hk
    exact decide_eq_true (by omega)
  have f2 : [out].filter (fun k => decide (k ≠ out)) = [] := by simp
  have f3 : ((List.range (n - out - 1)).map (fun k => out + 1 + k)).filter (fun k => decide (k ≠ out)) = (List.range (n - out - 1)).map (fun k => out + 1 + k) := List.filter_eq_self.mpr fun k hk => by
    obtain ⟨j, _, rfl⟩ := List.mem_map.mp hk
    exact decide_eq_true (by omega)
  rw [f1, f2, f3, List.map_nil, List.append_nil, List.map_map]
  congr 1
  · refine (List.map_congr_left (g := id) fun k hk => ?_).trans (List.map_id _)
    have := List.mem_range.mp hk
    exact if_neg (by omega)
  · refine List.map_congr_left fun k _ => ?_
    show (if out < out + 1 + k then out + 1 + k - 1 else out + 1 + k) = out + k
    rw [if_pos (by omega)]; omega
theorem dropAt_perm {os : List Nat} {n out : Nat} (h : os.Perm (List.range n)) (ho : out < n) : (dropAt out os).Perm (List.range (n - 1)) := by
  rw [← range_drop ho]
  exact (h.filter _).map _
theorem sq_drop {ts : List T3} {os : List Nat} {out : Nat} (ho : ∀ k ∈ os, k < ts.length) : sq (ts.take out ++ ts.drop (out + 1)) (dropAt out os) = sq ts (os.filter fun k => decide (k ≠ out)) := by
  unfold sq dropAt
  rw [List.map_map]
  refine List.map_congr_left fun k hk => ?_
  obtain ⟨h1, h2⟩ := List.mem_filter.mp hk
  have h3 : k ≠ out := of_decide_eq_true h2
  show (ts.take out ++ ts.drop (out + 1)).getD (if out < k then k - 1 else k) (0, 0, 0) = ts.getD k (0, 0, 0)
  rw [← List.eraseIdx_eq_take_drop_succ, List.getD_eq_getElem?_getD, List.getD_eq_getElem?_getD, List.getElem?_eraseIdx]
  by_cases c : out < k
  · rw [if_pos c, if_neg (by omega), show k - 1 + 1 = k by omega]
  · rw [if_neg c, if_pos (by omega)]
theorem dn_less {ts : List T3} {os : List Nat} {out : Nat} (h : ∀ t ∈ ts, Nn t) (ho : ∀ k ∈ os, k < ts.length) : dn (sq (ts.take out ++ ts.drop (out + 1)) (dropAt out os)) ≤ dn (sq ts os) := by
  have hs : (sq ts (os.filter fun k => decide (k ≠ out))).Sublist (sq ts os) := List.filter_sublist.map _
  rw [sq_drop ho, dn_ld (sq_nn h fun k hk => ho k (List.mem_filter.mp hk).1), dn_ld (sq_nn h ho)]
  exact ld_sub hs (sq_nn h ho)
/-! ### sorted -/
theorem rg_sorted (n : Nat) : (rg n).Pairwise (· ≤ ·) := by
  unfold rg zs
  rw [List.pairwise_map]
  exact List.pairwise_lt_range.imp fun h => by omega
theorem sorted_uniq {a b : List Int} (h : a.Perm b) (ha : a.Pairwise (· ≤ ·)) (hb : b.Pairwise (· ≤ ·)) : a = b :=
  h.eq_of_pairwise (fun _ _ _ _ h1 h2 => by omega) ha hb
/-- what sorted(order) == list(range(n)) tells -/
theorem sorted_rg {ns ms : List Int} {n : Nat} (h : ms.Perm ns) (hs : ms.Pairwise (· ≤ ·)) : ms = rg n ↔ ns.Perm (rg n) := by
  constructor
  · intro e
    rw [← e]
    exact h.symm
  · intro p
    exact sorted_uniq (h.trans p) hs (rg_sorted n)
theorem zs_perm {os : List Nat} {n : Nat} (h : os.Perm (List.range n)) : (zs os).Perm (rg n) := h.map _
/-- a list of whole numbers that is an order is one of counts -/
theorem perm_zs {ns : List Int} {n : Nat} (h : ns.Perm (rg n)) : ∃ os : List Nat, ns = zs os ∧ os.Perm (List.range n) := by
  refine ⟨ns.map Int.toNat, ?_, ?_⟩
  · unfold zs
    rw [List.map_map]
    refine ((List.map_congr_left (g := id) fun z hz => ?_).trans (List.map_id _)).symm
    obtain ⟨k, _, e⟩ := List.mem_map.mp (h.mem_iff.mp hz)
    show ((z.toNat : Nat) : Int) = z
    omega
  · have h2 := h.map Int.toNat
    unfold rg zs at h2
    rw [List.map_map] at h2
    have e : (List.range n).map (Int.toNat ∘ fun k : Nat => (k : Int)) = List.range n := (List.map_congr_left (g := id) fun k _ => by
      show ((k : Int)).toNat = k
      omega).trans (List.map_id _)
    rw [e] at h2
    exact h2
theorem zs_inj {a b : List Nat} (h : zs a = zs b) : a = b := by
  have h2 := congrArg (List.map Int.toNat) h
  unfold zs at h2
  rw [List.map_map, List.map_map] at h2
  have e : ∀ l : List Nat, l.map (Int.toNat ∘ fun k : Nat => (k : Int)) = l := fun l => (List.map_congr_left (g := id) fun k _ => by
    show ((k : Int)).toNat = k
    omega).trans (List.map_id _)
  rw [e, e] at h2
  exact h2
/-! ### lists set by place -/
def setAll {α : Type} : List α → List Nat → List α → List α
  | l, k :: os, x :: xs => setAll (l.set k x) os xs
  | l, _, _ => l
theorem setAll_len {α : Type} : ∀ (os : List Nat) (l xs : List α), (setAll l os xs).length = l.length
  | [], l, xs => by cases xs <;> rfl
  | k :: os, l, [] => rfl
  | k :: os, l, x :: xs => by rw [setAll, setAll_len os, List.length_set]
theorem setAll_take {α : Type} : ∀ (os : List Nat) (l xs : List α) (i k : Nat) (x : α), os[i]? = some k → xs[i]? = some x → setAll l (os.take (i + 1)) (xs.take (i + 1)) = (setAll l (os.take i) (xs.take i)).set k x
  | [], l, xs, i, k, x, h, _ => by simp at h
  | _ :: _, l, [], i, k, x, _, h => by simp at h
  | j :: os, l, y :: xs, 0, k, x, h1, h2 => by
    simp at h1 h2
    subst h1 h2
    rfl
  | j :: os, l, y :: xs, i + 1, k, x, h1, h2 => by
    have ih := setAll_take os (l.set j y) xs i k x (by simpa using h1) (by simpa using h2)
    show setAll (l.set j y) (os.take (i + 1)) (xs.take (i + 1)) = (setAll (l.set j y) (os.take i) (xs.take i)).set k x
    exact ih
/-! ### an order drawn: each thing put in somewhere -/
theorem ins_perm {os : List Nat} {n p : Nat} (h : os.Perm (List.range n)) : (os.take p ++ [n] ++ os.drop p).Perm (List.range (n + 1)) := by
  rw [List.range_succ]
  have h1 : (os.take p ++ [n] ++ os.drop p).Perm (os ++ [n]) := by
    have h2 : (os.take p ++ [n] ++ os.drop p).Perm (os.take p ++ (os.drop p ++ [n])) := by
      rw [List.append_assoc]
      exact List.Perm.append_left _ List.perm_append_comm
    rw [← List.append_assoc, List.take_append_drop] at h2
    exact h2
  exact h1.trans (h.append_right _)
end Bp
/-! Benchpair: bars, and that no order is done sooner than one is worth. -/
namespace Bp
def hre (b : Int) (t : T3) : Int := if b = 1 then t.1 else t.2.2
def thr (b : Int) (t : T3) : Int := if b = 1 then t.2.2 else t.1
def okE (b l : Int) (e : Bool × T3) : Bool := if e.1 = true then decide (hre b e.2 ≤ thr b e.2) else (decide (l ≤ hre b e.2 + e.2.2.1) || decide (thr b e.2 ≤ hre b e.2))
def vE (b : Int) (e : Bool × T3) : Int := if e.1 = true then hre b e.2 else thr b e.2
def mE (b l : Int) (e : Bool × T3) : Bool := !e.1 && decide (l ≤ hre b e.2 + e.2.2.1)
/-- the entries of a bar: whether a thing stands in it, and the thing -/
def ent (ts : List T3) (ap : List Int) (k : Nat) : Bool × T3 := (decide ((k : Int) ∈ ap), ts.getD k (0, 0, 0))
def ents (ts : List T3) (ap : List Int) : List (Bool × T3) := (List.range ts.length).map (ent ts ap)
/-- rising counts -/
def ris (n : Nat) : Int → List Int → Bool
  | _, [] => true
  | last, x :: r => decide (last < x) && decide (x < n) && ris n x r
def vS (b : Int) (es : List (Bool × T3)) : Int := (es.map (vE b)).sum
/-- the worth of a bar, if it is one -/
def wv (ts : List T3) (b : Int) (ap : List Int) (l : Int) : Option Int :=
  if (b = 1 ∨ b = 2) ∧ ris ts.length (-1) ap = true ∧ 0 ≤ l then
    (if (ents ts ap).all (okE b l) = true ∧ (l = 0 ∨ (ents ts ap).any (mE b l) = true) then some (l + vS b (ents ts ap)) else none)
  else none
theorem vS_app (b : Int) (p q : List (Bool × T3)) : vS b (p ++ q) = vS b p + vS b q := by
  unfold vS
  rw [List.map_append, List.sum_append]
theorem vS_cons (b : Int) (e : Bool × T3) (q : List (Bool × T3)) : vS b (e :: q) = vE b e + vS b q := by
  unfold vS
  rw [List.map_cons, List.sum_cons]
theorem vS_perm (b : Int) {p q : List (Bool × T3)} (h : p.Perm q) : vS b p = vS b q := by
  induction h with
  | nil => rfl
  | cons x _ ih => rw [vS_cons, vS_cons, ih]
  | swap x y l => rw [vS_cons, vS_cons, vS_cons, vS_cons]; omega
  | trans _ _ h1 h2 => rw [h1, h2]
theorem wv_some {ts : List T3} {b l w : Int} {ap : List Int} (h : wv ts b ap l = some w) :
    (b = 1 ∨ b = 2) ∧ ris ts.length (-1) ap = true ∧ 0 ≤ l ∧ (ents ts ap).all (okE b l) = true ∧ (l = 0 ∨ (ents ts ap).any (mE b l) = true) ∧ w = l + vS b (ents ts ap) := by
  unfold wv at h
  split at h
  · rename_i c
    split at h
    · rename_i d
      exact ⟨c.1, c.2.1, c.2.2, d.1, d.2, (Option.some.inj h).symm⟩
    · cases h
  · cases h
theorem wv_of {ts : List T3} {b l : Int} {ap : List Int} (h1 : b = 1 ∨ b = 2) (h2 : ris ts.length (-1) ap = true) (h3 : 0 ≤ l) (h4 : (ents ts ap).all (okE b l) = true) (h5 : l = 0 ∨ (ents ts ap).any (mE b l) = true) : wv ts b ap l = some (l + vS b (ents ts ap)) := by
  unfold wv
  rw [if_pos ⟨h1, h2, h3⟩, if_pos ⟨h4, h5⟩]
/-! ### no order is done sooner -/
/-- the things of entries -/
def th (es : List (Bool × T3)) : List T3 := es.map (·.2)
theorem th_app (p q : List (Bool × T3)) : th (p ++ q) = th p ++ th q := List.map_append ..
theorem v_le_sa {l : Int} : ∀ {es : List (Bool × T3)}, es.all (okE 1 l) = true → es.any (mE 1 l) = false → vS 1 es ≤ sa (th es)
  | [], _, _ => Int.le_refl 0
  | e :: es, h1, h2 => by
    rw [List.all_cons, Bool.and_eq_true] at h1
    rw [List.any_cons, Bool.or_eq_false_iff] at h2
    have ih := v_le_sa h1.2 h2.2
    rw [vS_cons]
    show vE 1 e + vS 1 es ≤ e.2.1 + sa (th es)
    have k : vE 1 e ≤ e.2.1 := by
      obtain ⟨m, t⟩ := e
      have a := h1.1
      have b := h2.1
      cases m with
      | true => simp [vE, hre]
      | false =>
        simp [okE, mE, hre, thr] at a b
        simp [vE, thr]
        omega
    omega
theorem v_le_sb {l : Int} : ∀ {es : List (Bool × T3)}, es.all (okE 1 l) = true → vS 1 es ≤ sb (th es)
  | [], _ => Int.le_refl 0
  | e :: es, h1 => by
    rw [List.all_cons, Bool.and_eq_true] at h1
    have ih := v_le_sb h1.2
    rw [vS_cons]
    show vE 1 e + vS 1 es ≤ e.2.2.2 + sb (th es)
    have k : vE 1 e ≤ e.2.2.2 := by
      obtain ⟨m, t⟩ := e
      have a := h1.1
      cases m with
      | true =>
        simp [okE, hre, thr] at a
        simp [vE, hre]
        exact a
      | false => simp [vE, thr]
    omega
/-- the first one that meets -/
theorem first_met {α : Type} (p : α → Bool) : ∀ {l : List α}, l.any p = true → ∃ a x b, l = a ++ x :: b ∧ a.any p = false ∧ p x = true
  | [], h => by simp at h
  | x :: l, h => by
    cases hx : p x with
    | true => exact ⟨[], x, l, rfl, rfl, hx⟩
    | false =>
      rw [List.any_cons, hx, Bool.false_or] at h
      obtain ⟨a, y, b, e, h1, h2⟩ := first_met p h
      exact ⟨x :: a, y, b, by rw [e]; rfl, by rw [List.any_cons, hx, h1]; rfl, h2⟩
theorem bar1_le {l : Int} {es : List (Bool × T3)} (hn : ∀ t ∈ th es, Nn t) (hok : es.all (okE 1 l) = true) (hm : l = 0 ∨ es.any (mE 1 l) = true) : l + vS 1 es ≤ ld (th es) := by
  cases hany : es.any (mE 1 l) with
  | true =>
    obtain ⟨a, x, b, e, h1, h2⟩ := first_met _ hany
    subst e
    rw [List.all_append, Bool.and_eq_true, List.all_cons, Bool.and_eq_true] at hok
    have k1 := v_le_sa hok.1 h1
    have k2 := v_le_sb hok.2.2
    have k3 := pth_le_ld (l := th (a ++ x :: b)) (p := th a) (t := x.2) (r := th b) (by rw [th_app]; rfl)
    rw [vS_app, vS_cons]
    obtain ⟨m, t⟩ := x
    have c := h2
    cases m with
    | true => simp [mE] at c
    | false =>
      simp [mE, hre] at c
      simp only [vE, thr, pth] at *
      simp
      omega
  | false =>
    have l0 : l = 0 := by
      rcases hm with h | h
      · exact h
      · rw [hany] at h; cases h
    subst l0
    have k1 := v_le_sa hok hany
    have k2 : sa (th es) ≤ ld (th es) := by
      rcases List.eq_nil_or_concat (th es) with e | ⟨p, t, e⟩
      · rw [e]; exact ld_nn []
      · have e' : th es = p ++ t :: [] := by rw [e]; simp
        have k3 := pth_le_ld e'
        have nt := hn t (by rw [e']; simp)
        have e2 : sa (th es) = sa p + t.1 := by
          rw [e', sa_app, sa, sa]; omega
        rw [e2]
        unfold pth at k3
        rw [sb] at k3
        have := nt.2.1
        have := nt.2.2
        omega
    omega
/-- the entries in an order -/
def entsO (ts : List T3) (ap : List Int) (os : List Nat) : List (Bool × T3) := os.map (ent ts ap)
theorem entsO_perm {ts : List T3} {ap : List Int} {os : List Nat} (h : os.Perm (List.range ts.length)) : (entsO ts ap os).Perm (ents ts ap) := h.map _
theorem th_ents (ts : List T3) (ap : List Int) (os : List Nat) : th (entsO ts ap os) = sq ts os := by
  unfold th entsO sq
  rw [List.map_map]
  rfl
theorem all_perm {α : Type} {p : α → Bool} {l m : List α} (h : l.Perm m) : l.all p = m.all p := by
  rw [Bool.eq_iff_iff, List.all_eq_true, List.all_eq_true]
  exact ⟨fun k x hx => k x (h.mem_iff.mpr hx), fun k x hx => k x (h.mem_iff.mp hx)⟩
theorem any_perm {α : Type} {p : α → Bool} {l m : List α} (h : l.Perm m) : l.any p = m.any p := by
  rw [Bool.eq_iff_iff, List.any_eq_true, List.any_eq_true]
  exact ⟨fun ⟨x, hx, k⟩ => ⟨x, h.mem_iff.mp hx, k⟩, fun ⟨x, hx, k⟩ => ⟨x, h.mem_iff.mpr hx, k⟩⟩
/-- bench 2: the things turned -/
theorem ent_tn (ts : List T3) (ap : List Int) (k : Nat) : ent (ts.map tn) ap k = ((ent ts ap k).1, tn (ent ts ap k).2) := by
  unfold ent
  refine Prod.ext rfl ?_
  show (ts.map tn).getD k (0, 0, 0) = tn (ts.getD k (0, 0, 0))
  rw [List.getD_eq_getElem?_getD, List.getD_eq_getElem?_getD, List.getElem?_map]
  cases ts[k]? <;> rfl
def tnE (e : Bool × T3) : Bool × T3 := (e.1, tn e.2)
theorem ents_tn (ts : List T3) (ap : List Int) : ents (ts.map tn) ap = (ents ts ap).map tnE := by
  unfold ents
  rw [List.length_map, List.map_map]
  exact List.map_congr_left fun k _ => ent_tn ts ap k
theorem wv_two (ts : List T3) (ap : List Int) (l : Int) : wv ts 2 ap l = wv (ts.map tn) 1 ap l := by
  have e1 : ∀ e, okE 1 l (tnE e) = okE 2 l e := fun e => by
    obtain ⟨m, t⟩ := e
    simp [okE, tnE, hre, thr, tn]
  have e2 : ∀ e, mE 1 l (tnE e) = mE 2 l e := fun e => by
    obtain ⟨m, t⟩ := e
    simp [mE, tnE, hre, tn]
  have e3 : ∀ e, vE 1 (tnE e) = vE 2 e := fun e => by
    obtain ⟨m, t⟩ := e
    simp [vE, tnE, hre, thr, tn]
  unfold wv
  rw [ents_tn, List.length_map, List.all_map, List.any_map]
  have f1 : okE 1 l ∘ tnE = okE 2 l := funext e1
  have f2 : mE 1 l ∘ tnE = mE 2 l := funext e2
  have f3 : vS 1 ((ents ts ap).map tnE) = vS 2 (ents ts ap) := by
    unfold vS
    rw [List.map_map]
    exact congrArg List.sum (List.map_congr_left fun e _ => e3 e)
  rw [f1, f2, f3]
  simp
theorem bar_le1 {ts : List T3} {ap : List Int} {l w : Int} {os : List Nat} (hn : ∀ t ∈ ts, Nn t) (hp : os.Perm (List.range ts.length)) (h : wv ts 1 ap l = some w) : w ≤ dn (sq ts os) := by
  obtain ⟨_, _, _, h4, h5, rfl⟩ := wv_some h
  have P := entsO_perm (ap := ap) hp
  have nn := sq_nn hn (perm_lt hp)
  rw [dn_ld nn, ← vS_perm 1 P, ← th_ents ts ap os]
  refine bar1_le ?_ ?_ ?_
  · rw [th_ents]; exact nn
  · rw [all_perm P]; exact h4
  · rw [any_perm P]; exact h5
/-- NO ORDER IS DONE SOONER THAN A BAR'S WORTH -/
theorem bar_le {ts : List T3} {ap : List Int} {b l w : Int} {os : List Nat} (hn : ∀ t ∈ ts, Nn t) (hp : os.Perm (List.range ts.length)) (h : wv ts b ap l = some w) : w ≤ dn (sq ts os) := by
  rcases (wv_some h).1 with e | e
  · subst e
    exact bar_le1 hn hp h
  · subst e
    rw [wv_two] at h
    have k := bar_le1 (os := os.reverse) (fun t ht => by
      obtain ⟨u, hu, rfl⟩ := List.mem_map.mp ht
      exact tn_nn (hn u hu)) (by rw [List.length_map]; exact (List.reverse_perm os).trans hp) h
    rw [dn_turned hn (perm_lt hp)] at k
    exact k
theorem vE_nn {b : Int} {e : Bool × T3} (h : Nn e.2) : 0 ≤ vE b e := by
  obtain ⟨m, t⟩ := e
  have h1 := h.1
  have h3 := h.2.2
  unfold vE hre thr
  split <;> split <;> assumption
theorem wv_nn {ts : List T3} {ap : List Int} {b l w : Int} (hn : ∀ t ∈ ts, Nn t) (h : wv ts b ap l = some w) : 0 ≤ w := by
  obtain ⟨_, _, h3, _, _, rfl⟩ := wv_some h
  have k : ∀ es : List (Bool × T3), (∀ e ∈ es, Nn e.2) → 0 ≤ vS b es := by
    intro es
    induction es with
    | nil => intro _; exact Int.le_refl 0
    | cons e es ih =>
      intro h
      rw [vS_cons]
      have := vE_nn (b := b) (h e List.mem_cons_self)
      have := ih fun x hx => h x (List.mem_cons_of_mem e hx)
      omega
  have := k (ents ts ap) fun e he => by
    obtain ⟨j, hj, rfl⟩ := List.mem_map.mp he
    exact hn _ (List.mem_of_getElem? (getD_at (List.mem_range.mp hj)))
  omega
/-! ### the order that is done soonest, and its bar -/
/-- first those that are no longer on bench 1, by that and drying; then the others, the longest on bench 2 first -/
def Best (ts : List T3) (os : List Nat) : Prop := os.Perm (List.range ts.length) ∧ ∃ qs ss : List Nat, os = qs ++ ss ∧
  (∀ k ∈ qs, (ts.getD k (0, 0, 0)).1 ≤ (ts.getD k (0, 0, 0)).2.2) ∧ (∀ k ∈ ss, (ts.getD k (0, 0, 0)).2.2 < (ts.getD k (0, 0, 0)).1) ∧
  qs.Pairwise (fun i j => (ts.getD i (0, 0, 0)).1 + (ts.getD i (0, 0, 0)).2.1 ≤ (ts.getD j (0, 0, 0)).1 + (ts.getD j (0, 0, 0)).2.1) ∧
  ss.Pairwise (fun i j => (ts.getD j (0, 0, 0)).2.2 + (ts.getD j (0, 0, 0)).2.1 ≤ (ts.getD i (0, 0, 0)).2.2 + (ts.getD i (0, 0, 0)).2.1)
theorem ris_of {n : Nat} : ∀ {ap : List Int} {last : Int}, ap.Pairwise (· < ·) → (∀ x ∈ ap, last < x ∧ x < n) → ris n last ap = true
  | [], _, _, _ => rfl
  | x :: r, last, hp, h => by
    have h1 := h x List.mem_cons_self
    rw [List.pairwise_cons] at hp
    rw [ris, decide_eq_true h1.1, decide_eq_true h1.2, Bool.true_and, Bool.true_and]
    exact ris_of hp.2 fun y hy => ⟨hp.1 y hy, (h y (List.mem_cons_of_mem x hy)).2⟩
theorem ris_to {n : Nat} : ∀ {ap : List Int} {last : Int}, ris n last ap = true → ap.Pairwise (· < ·) ∧ ∀ x ∈ ap, last < x ∧ x < n
  | [], _, _ => ⟨.nil, fun x h => by cases h⟩
  | x :: r, last, h => by
    rw [ris, Bool.and_eq_true, Bool.and_eq_true, decide_eq_true_eq, decide_eq_true_eq] at h
    obtain ⟨⟨h1, h2⟩, h3⟩ := h
    obtain ⟨k1, k2⟩ := ris_to h3
    refine ⟨List.pairwise_cons.mpr ⟨fun y hy => (k2 y hy).1, k1⟩, fun y hy => ?_⟩
    rcases List.mem_cons.mp hy with rfl | hy
    · exact ⟨h1, h2⟩
    · have := k2 y hy
      exact ⟨by omega, this.2⟩
/-- sorted counts of a part of an order -/
theorem ris_sorted {n : Nat} {ap : List Int} {ks : List Nat} (hp : ap.Perm (zs ks)) (hs : ap.Pairwise (· ≤ ·)) (hd : ks.Nodup) (hl : ∀ k ∈ ks, k < n) : ris n (-1) ap = true := by
  have nd : (zs ks).Nodup := by
    unfold zs
    unfold List.Nodup
    rw [List.pairwise_map]
    exact hd.imp fun h e => h (by omega)
  have nd2 : ap.Nodup := hp.nodup_iff.mpr nd
  refine ris_of ?_ fun x hx => ?_
  · have := List.Pairwise.and hs nd2
    exact this.imp fun h => by omega
  · obtain ⟨k, hk, rfl⟩ := List.mem_map.mp (hp.mem_iff.mp hx)
    have := hl k hk
    exact ⟨by omega, by omega⟩
theorem mem_zs {ks : List Nat} {k : Nat} : (k : Int) ∈ zs ks ↔ k ∈ ks := by
  unfold zs
  rw [List.mem_map]
  exact ⟨fun ⟨j, hj, e⟩ => by have : j = k := by omega
                              exact this ▸ hj, fun h => ⟨k, h, rfl⟩⟩
theorem sa_map (ts : List T3) : ∀ ks : List Nat, sa (sq ts ks) = (ks.map fun k => (ts.getD k (0, 0, 0)).1).sum
  | [] => rfl
  | k :: ks => by rw [List.map_cons, List.sum_cons, ← sa_map ts ks]; rfl
theorem sb_map (ts : List T3) : ∀ ks : List Nat, sb (sq ts ks) = (ks.map fun k => (ts.getD k (0, 0, 0)).2.2).sum
  | [] => rfl
  | k :: ks => by rw [List.map_cons, List.sum_cons, ← sb_map ts ks]; rfl
theorem vS_in {ts : List T3} {ap : List Int} {b : Int} : ∀ {ks : List Nat}, (∀ k ∈ ks, (k : Int) ∈ ap) → vS b (entsO ts ap ks) = (ks.map fun k => hre b (ts.getD k (0, 0, 0))).sum
  | [], _ => rfl
  | k :: ks, h => by
    have ih := vS_in (ts := ts) (b := b) fun j hj => h j (List.mem_cons_of_mem k hj)
    show vS b (ent ts ap k :: entsO ts ap ks) = _
    rw [vS_cons, List.map_cons, List.sum_cons, ih]
    have e : vE b (ent ts ap k) = hre b (ts.getD k (0, 0, 0)) := by
      unfold vE ent
      rw [decide_eq_true (h k List.mem_cons_self)]
      simp
    rw [e]
theorem vS_out {ts : List T3} {ap : List Int} {b : Int} : ∀ {ks : List Nat}, (∀ k ∈ ks, ¬ (k : Int) ∈ ap) → vS b (entsO ts ap ks) = (ks.map fun k => thr b (ts.getD k (0, 0, 0))).sum
  | [], _ => rfl
  | k :: ks, h => by
    have ih := vS_out (ts := ts) (b := b) fun j hj => h j (List.mem_cons_of_mem k hj)
    show vS b (ent ts ap k :: entsO ts ap ks) = _
    rw [vS_cons, List.map_cons, List.sum_cons, ih]
    have e : vE b (ent ts ap k) = thr b (ts.getD k (0, 0, 0)) := by
      unfold vE ent
      rw [decide_eq_false (h k List.mem_cons_self)]
      simp
    rw [e]
/-- a list without doubles parts at a thing in one way -/
theorem split_uniq {α : Type} {k : α} : ∀ {p q r s : List α}, (p ++ k :: r).Nodup → p ++ k :: r = q ++ k :: s → p = q ∧ r = s
  | [], [], _, _, _, e => ⟨rfl, (List.cons.inj e).2⟩
  | [], y :: q, r, s, h, e => by
    rw [List.nil_append, List.cons_append] at e
    obtain ⟨e1, e2⟩ := List.cons.inj e
    rw [List.nil_append, List.nodup_cons] at h
    exact absurd (show k ∈ r by rw [e2]; simp) h.1
  | x :: p, [], r, s, h, e => by
    rw [List.nil_append, List.cons_append] at e
    obtain ⟨e1, e2⟩ := List.cons.inj e
    rw [List.cons_append, List.nodup_cons] at h
    exact absurd (show x ∈ p ++ k :: r by rw [e1]; simp) h.1
  | x :: p, y :: q, r, s, h, e => by
    rw [List.cons_append, List.cons_append] at e
    obtain ⟨e1, e2⟩ := List.cons.inj e
    rw [List.cons_append, List.nodup_cons] at h
    obtain ⟨k1, k2⟩ := split_uniq h.2 e2
    exact ⟨by rw [e1, k1], k2⟩
/-- THE BAR AT A THING OF SUCH AN ORDER is worth the way that changes benches there -/
theorem best_bar1 {ts : List T3} {p r qs ss : List Nat} {k : Nat} {ap : List Int} (hn : ∀ t ∈ ts, Nn t) (hP : (p ++ k :: r).Perm (List.range ts.length)) (e : p ++ k :: r = qs ++ ss)
    (hq : ∀ k ∈ qs, (ts.getD k (0, 0, 0)).1 ≤ (ts.getD k (0, 0, 0)).2.2) (hS : ∀ k ∈ ss, (ts.getD k (0, 0, 0)).2.2 ≤ (ts.getD k (0, 0, 0)).1)
    (hw : qs.Pairwise (fun i j => (ts.getD i (0, 0, 0)).1 + (ts.getD i (0, 0, 0)).2.1 ≤ (ts.getD j (0, 0, 0)).1 + (ts.getD j (0, 0, 0)).2.1)) (kq : k ∈ qs)
    (hp : ap.Perm (zs p)) (hs : ap.Pairwise (· ≤ ·)) : wv ts 1 ap ((ts.getD k (0, 0, 0)).1 + (ts.getD k (0, 0, 0)).2.1) = some (pth (sq ts p) (ts.getD k (0, 0, 0)) (sq ts r)) := by
  have ndall := perm_nd hP
  have lt := perm_lt hP
  have mem : ∀ j : Nat, (j : Int) ∈ ap ↔ j ∈ p := fun j => (hp.mem_iff).trans mem_zs
  obtain ⟨nd1, nd2, nd3⟩ := List.nodup_append.mp ndall
  have out : ∀ j ∈ k :: r, ¬ (j : Int) ∈ ap := fun j hj h => nd3 j ((mem j).mp h) j hj rfl
  -- what is ahead of k stands among the first ones
  obtain ⟨q1, q2, eq⟩ := List.append_of_mem kq
  have e2 : p ++ k :: r = q1 ++ k :: (q2 ++ ss) := by rw [e, eq]; simp
  obtain ⟨hp1, hr1⟩ := split_uniq ndall e2
  subst hp1
  have hlen : 0 ≤ (ts.getD k (0, 0, 0)).1 + (ts.getD k (0, 0, 0)).2.1 := by
    have := hn _ (List.mem_of_getElem? (getD_at (lt k (by simp))))
    have := this.1
    have := (hn _ (List.mem_of_getElem? (getD_at (lt k (by simp))))).2.1
    omega
  have P := entsO_perm (ap := ap) hP
  have kmem : k ∈ p ++ k :: r := by simp
  rw [wv_of (.inl rfl) (ris_sorted hp hs nd1 fun j hj => lt j (by simp [hj])) hlen]
  · -- the worth
    congr 1
    rw [← vS_perm 1 P]
    have e3 : entsO ts ap (p ++ k :: r) = entsO ts ap p ++ entsO ts ap (k :: r) := List.map_append ..
    rw [e3, vS_app, vS_in fun j hj => (mem j).mpr hj, vS_out out]
    unfold pth
    rw [sa_map, sb_map, List.map_cons, List.sum_cons]
    simp only [hre, thr, if_true]
    omega
  · -- each thing is as a bar asks
    rw [← all_perm P, List.all_eq_true]
    intro x hx
    obtain ⟨j, hj, rfl⟩ := List.mem_map.mp hx
    by_cases hjp : j ∈ p
    · have hj2 := hq j (by rw [eq]; exact List.mem_append_left _ hjp)
      unfold okE ent
      rw [decide_eq_true ((mem j).mpr hjp)]
      simpa [hre, thr] using hj2
    · have hj3 : j ∈ k :: r := by
        rcases List.mem_append.mp hj with h | h
        · exact absurd h hjp
        · exact h
      unfold okE ent
      rw [decide_eq_false (out j hj3)]
      simp only [Bool.false_eq_true, if_false, hre, thr, if_true, Bool.or_eq_true, decide_eq_true_eq]
      rcases List.mem_cons.mp hj3 with rfl | hr
      · exact .inl (Int.le_refl _)
      · rw [hr1] at hr
        rcases List.mem_append.mp hr with h | h
        · left
          rw [eq] at hw
          exact (List.pairwise_cons.mp (List.pairwise_append.mp hw).2.1).1 j h
        · right
          exact hS j h
  · right
    rw [← any_perm P, List.any_eq_true]
    refine ⟨ent ts ap k, List.mem_map.mpr ⟨k, kmem, rfl⟩, ?_⟩
    unfold mE ent
    rw [decide_eq_false (out k List.mem_cons_self)]
    simp [hre]
theorem getD_tn (ts : List T3) (k : Nat) : (ts.map tn).getD k (0, 0, 0) = tn (ts.getD k (0, 0, 0)) := by
  rw [List.getD_eq_getElem?_getD, List.getD_eq_getElem?_getD, List.getElem?_map]
  cases ts[k]? <;> rfl
/-- .. for bench 2, the things turned and the order turned about -/
theorem best_bar2 {ts : List T3} {p r qs ss : List Nat} {k : Nat} {ap : List Int} (hn : ∀ t ∈ ts, Nn t) (hP : (p ++ k :: r).Perm (List.range ts.length)) (e : p ++ k :: r = qs ++ ss)
    (hq : ∀ k ∈ qs, (ts.getD k (0, 0, 0)).1 ≤ (ts.getD k (0, 0, 0)).2.2) (hS : ∀ k ∈ ss, (ts.getD k (0, 0, 0)).2.2 ≤ (ts.getD k (0, 0, 0)).1)
    (hw : ss.Pairwise (fun i j => (ts.getD j (0, 0, 0)).2.2 + (ts.getD j (0, 0, 0)).2.1 ≤ (ts.getD i (0, 0, 0)).2.2 + (ts.getD i (0, 0, 0)).2.1)) (ks : k ∈ ss)
    (hp : ap.Perm (zs r)) (hs : ap.Pairwise (· ≤ ·)) : wv ts 2 ap ((ts.getD k (0, 0, 0)).2.2 + (ts.getD k (0, 0, 0)).2.1) = some (pth (sq ts p) (ts.getD k (0, 0, 0)) (sq ts r)) := by
  have e2 : (p ++ k :: r).reverse = r.reverse ++ k :: p.reverse := by simp
  have z := best_bar1 (ts := ts.map tn) (p := r.reverse) (k := k) (r := p.reverse) (qs := ss.reverse) (ss := qs.reverse) (ap := ap) (fun t ht => by
      obtain ⟨u, hu, rfl⟩ := List.mem_map.mp ht
      exact tn_nn (hn u hu))
    (by rw [← e2, List.length_map]; exact (List.reverse_perm _).trans hP) (by rw [← e2, e]; simp)
    (fun j hj => by rw [getD_tn]; exact hS j (List.mem_reverse.mp hj)) (fun j hj => by rw [getD_tn]; exact hq j (List.mem_reverse.mp hj))
    (by
      rw [List.pairwise_reverse]
      refine hw.imp fun {a b} h => ?_
      rw [getD_tn, getD_tn]
      exact h) (List.mem_reverse.mpr ks) (hp.trans ((List.reverse_perm r).symm.map _)) hs
  rw [getD_tn] at z
  rw [wv_two]
  refine z.trans (congrArg some ?_)
  rw [sq_tn, sq_tn]
  have z2 := pth_rev (sq ts p) (ts.getD k (0, 0, 0)) (sq ts r)
  unfold sq at z2 ⊢
  rw [List.map_reverse, List.map_reverse, List.map_reverse, List.map_reverse]
  exact z2
end Bp
/-! Benchpair: a bar's worth by going along; the order by sorted pairs; the bar of such an order; shown or not. -/
namespace Bp
/-! ### marks -/
def mks (n : Nat) (ap : List Int) : List Bool := (List.range n).map fun k : Nat => decide ((k : Int) ∈ ap)
theorem mks_len (n : Nat) (ap : List Int) : (mks n ap).length = n := by unfold mks; rw [List.length_map, List.length_range]
theorem mks_nil (n : Nat) : mks n [] = List.replicate n false := by
  unfold mks
  rw [show (fun k : Nat => decide ((k : Int) ∈ ([] : List Int))) = fun _ => false from funext fun k => decide_eq_false (by simp)]
  refine List.eq_replicate_iff.mpr ⟨by simp, fun b hb => ?_⟩
  obtain ⟨_, _, rfl⟩ := List.mem_map.mp hb
  rfl
theorem mks_get {n k : Nat} (h : k < n) (ap : List Int) : (mks n ap)[k]? = some (decide ((k : Int) ∈ ap)) := by
  unfold mks
  rw [List.getElem?_map, List.getElem?_range h]; rfl
theorem mks_set {n j : Nat} (h : j < n) (ap : List Int) : (mks n ap).set j true = mks n (ap ++ [(j : Int)]) := by
  refine List.ext_getElem? fun k => ?_
  rw [List.getElem?_set, mks_len]
  by_cases hk : k < n
  · rw [mks_get hk, mks_get hk]
    by_cases e : j = k
    · subst e
      rw [if_pos rfl, if_pos h]
      refine congrArg some (decide_eq_true ?_).symm
      simp
    · rw [if_neg e]
      refine congrArg some ?_
      rw [decide_eq_decide, List.mem_append]
      refine ⟨.inl, fun h => h.elim id fun h => ?_⟩
      have := List.mem_singleton.mp h
      omega
  · have e1 : (mks n ap)[k]? = none := List.getElem?_eq_none (by rw [mks_len]; omega)
    have e2 : (mks n (ap ++ [(j : Int)]))[k]? = none := List.getElem?_eq_none (by rw [mks_len]; omega)
    rw [e1, e2, if_neg (by omega)]
/-! ### entries -/
theorem ents_len (ts : List T3) (ap : List Int) : (ents ts ap).length = ts.length := by unfold ents; rw [List.length_map, List.length_range]
theorem ents_get {ts : List T3} {k : Nat} (h : k < ts.length) (ap : List Int) : (ents ts ap)[k]? = some (ent ts ap k) := by
  unfold ents
  rw [List.getElem?_map, List.getElem?_range h]; rfl
theorem ents_take {ts : List T3} {k : Nat} (h : k < ts.length) (ap : List Int) : (ents ts ap).take (k + 1) = (ents ts ap).take k ++ [ent ts ap k] := by
  rw [List.take_add_one, ents_get h]; rfl
theorem wv_not {ts : List T3} {b l : Int} {ap : List Int} (h : ¬ ((b = 1 ∨ b = 2) ∧ ris ts.length (-1) ap = true ∧ 0 ≤ l)) : wv ts b ap l = none := by
  unfold wv
  rw [if_neg h]
theorem wv_bad {ts : List T3} {b l : Int} {ap : List Int} {k : Nat} (hk : k < ts.length) (h : okE b l (ent ts ap k) = false) : wv ts b ap l = none := by
  unfold wv
  split
  · rw [if_neg]
    rintro ⟨h1, _⟩
    have := List.all_eq_true.mp h1 _ (List.mem_of_getElem? (ents_get hk ap))
    rw [h] at this
    cases this
  · rfl
/-- what the loops hold, i things along -/
def Along (ts : List T3) (b : Int) (ap : List Int) (l : Int) (i : Nat) : Prop := ((ents ts ap).take i).all (okE b l) = true
def metB (ts : List T3) (b : Int) (ap : List Int) (l : Int) (i : Nat) : Bool := decide (l = 0) || ((ents ts ap).take i).any (mE b l)
def wrt (ts : List T3) (b : Int) (ap : List Int) (l : Int) (i : Nat) : Int := l + vS b ((ents ts ap).take i)
theorem along_0 (ts : List T3) (b : Int) (ap : List Int) (l : Int) : Along ts b ap l 0 := rfl
theorem met_0 (ts : List T3) (b : Int) (ap : List Int) (l : Int) : metB ts b ap l 0 = decide (l = 0) := by unfold metB; simp
theorem wrt_0 (ts : List T3) (b : Int) (ap : List Int) (l : Int) : wrt ts b ap l 0 = l := by unfold wrt vS; simp
theorem along_s {ts : List T3} {b l : Int} {ap : List Int} {i : Nat} (hi : i < ts.length) (h : Along ts b ap l i) (o : okE b l (ent ts ap i) = true) : Along ts b ap l (i + 1) := by
  unfold Along at h ⊢
  rw [ents_take hi, List.all_append, h, List.all_cons, o]; rfl
theorem met_s {ts : List T3} {b l : Int} {ap : List Int} {i : Nat} (hi : i < ts.length) : metB ts b ap l (i + 1) = (metB ts b ap l i || mE b l (ent ts ap i)) := by
  unfold metB
  rw [ents_take hi, List.any_append, List.any_cons, List.any_nil, Bool.or_false, Bool.or_assoc]
theorem wrt_s {ts : List T3} {b l : Int} {ap : List Int} {i : Nat} (hi : i < ts.length) : wrt ts b ap l (i + 1) = wrt ts b ap l i + vE b (ent ts ap i) := by
  unfold wrt
  rw [ents_take hi, vS_app, vS_cons]
  unfold vS
  simp
  omega
theorem wv_end {ts : List T3} {b l : Int} {ap : List Int} (h1 : b = 1 ∨ b = 2) (h2 : ris ts.length (-1) ap = true) (h3 : 0 ≤ l) (h : Along ts b ap l ts.length) :
    wv ts b ap l = if metB ts b ap l ts.length = true then some (wrt ts b ap l ts.length) else none := by
  have e : (ents ts ap).take ts.length = ents ts ap := List.take_of_length_le (by rw [ents_len]; exact Nat.le_refl _)
  unfold Along at h
  unfold wv metB wrt
  rw [e] at h ⊢
  rw [if_pos ⟨h1, h2, h3⟩]
  by_cases c : l = 0 ∨ (ents ts ap).any (mE b l) = true
  · rw [if_pos ⟨h, c⟩, if_pos]
    rw [Bool.or_eq_true, decide_eq_true_eq]
    exact c
  · rw [if_neg fun q => c q.2, if_neg]
    rw [Bool.or_eq_true, decide_eq_true_eq]
    exact c
/-- an entry, marked or not -/
theorem ent_in {ts : List T3} {ap : List Int} {k : Nat} (h : (k : Int) ∈ ap) : ent ts ap k = (true, ts.getD k (0, 0, 0)) := by unfold ent; rw [decide_eq_true h]
theorem ent_out {ts : List T3} {ap : List Int} {k : Nat} (h : ¬ (k : Int) ∈ ap) : ent ts ap k = (false, ts.getD k (0, 0, 0)) := by unfold ent; rw [decide_eq_false h]
theorem hre1 (t : T3) : hre 1 t = t.1 := rfl
theorem thr1 (t : T3) : thr 1 t = t.2.2 := rfl
theorem hre2 {b : Int} (h : b ≠ 1) (t : T3) : hre b t = t.2.2 := if_neg h
theorem thr2 {b : Int} (h : b ≠ 1) (t : T3) : thr b t = t.1 := if_neg h
theorem okE_in {b l : Int} {t : T3} : okE b l (true, t) = decide (hre b t ≤ thr b t) := rfl
theorem okE_out {b l : Int} {t : T3} : okE b l (false, t) = (decide (l ≤ hre b t + t.2.1) || decide (thr b t ≤ hre b t)) := rfl
theorem vE_in {b : Int} {t : T3} : vE b (true, t) = hre b t := rfl
theorem vE_out {b : Int} {t : T3} : vE b (false, t) = thr b t := rfl
theorem mE_in {b l : Int} {t : T3} : mE b l (true, t) = false := rfl
theorem mE_out {b l : Int} {t : T3} : mE b l (false, t) = decide (l ≤ hre b t + t.2.1) := by simp [mE]
/-! ### shown or not -/
def nat_ (ns : List Int) : List Nat := ns.map Int.toNat
theorem nat_zs (os : List Nat) : nat_ (zs os) = os := by
  unfold nat_ zs
  rw [List.map_map]
  exact (List.map_congr_left fun k _ => rfl).trans (List.map_id os)
/-- what Soonest.shows answers -/
def shw (ts : List T3) (ns : List Int) (b : Int) (ap : List Int) (l : Int) : Bool := decide (ns.Perm (rg ts.length)) && decide (wv ts b ap l = some (dn (sq ts (nat_ ns))))
theorem shw_no {ts : List T3} {ns : List Int} {b l : Int} {ap : List Int} (h : ¬ ns.Perm (rg ts.length)) : shw ts ns b ap l = false := by unfold shw; rw [decide_eq_false h]; rfl
theorem shw_os {ts : List T3} {os : List Nat} {b l : Int} {ap : List Int} (h : os.Perm (List.range ts.length)) : shw ts (zs os) b ap l = decide (wv ts b ap l = some (dn (sq ts os))) := by
  unfold shw
  rw [decide_eq_true (zs_perm h), Bool.true_and, nat_zs]
theorem shw_law {ts : List T3} {os : List Nat} {b l : Int} {ap : List Int} (hn : ∀ t ∈ ts, Nn t) (h : os.Perm (List.range ts.length)) : decide ((wv ts b ap l).getD (-1) = ld (sq ts os)) = shw ts (zs os) b ap l := by
  rw [shw_os h, ← dn_ld (sq_nn hn (perm_lt h))]
  have p := ld_nn (sq ts os)
  rw [← dn_ld (sq_nn hn (perm_lt h))] at p
  cases e : wv ts b ap l with
  | none =>
    rw [Option.getD_none]
    refine (decide_eq_false (by omega)).trans (decide_eq_false (by simp)).symm
  | some w => simp
/-! ### the order -/
def key1 (t : T3) : Int := t.1 + t.2.1
def key2 (t : T3) : Int := -t.2.2 - t.2.1
def isQ (ts : List T3) (k : Nat) : Bool := decide ((ts.getD k (0, 0, 0)).1 ≤ (ts.getD k (0, 0, 0)).2.2)
def qL (ts : List T3) (i : Nat) : List (Int × Int) := ((List.range i).filter (isQ ts)).map fun k : Nat => (key1 (ts.getD k (0, 0, 0)), (k : Int))
def sL (ts : List T3) (i : Nat) : List (Int × Int) := ((List.range i).filter fun k => !isQ ts k).map fun k : Nat => (key2 (ts.getD k (0, 0, 0)), (k : Int))
theorem qL_y {ts : List T3} {i : Nat} (h : isQ ts i = true) : qL ts (i + 1) = qL ts i ++ [(key1 (ts.getD i (0, 0, 0)), (i : Int))] ∧ sL ts (i + 1) = sL ts i := by
  unfold qL sL
  rw [List.range_succ, List.filter_append, List.filter_append, List.map_append, List.map_append, List.filter_cons_of_pos h, List.filter_cons_of_neg (by rw [h]; decide)]
  exact ⟨rfl, by simp⟩
theorem qL_n {ts : List T3} {i : Nat} (h : isQ ts i = false) : qL ts (i + 1) = qL ts i ∧ sL ts (i + 1) = sL ts i ++ [(key2 (ts.getD i (0, 0, 0)), (i : Int))] := by
  unfold qL sL
  rw [List.range_succ, List.filter_append, List.filter_append, List.map_append, List.map_append, List.filter_cons_of_neg (by rw [h]; decide), List.filter_cons_of_pos (by rw [h]; rfl)]
  exact ⟨by simp, rfl⟩
theorem qL_len (ts : List T3) (i : Nat) : (qL ts i).length ≤ i ∧ (sL ts i).length ≤ i := by
  unfold qL sL
  rw [List.length_map, List.length_map]
  have h1 := List.length_filter_le (isQ ts) (List.range i)
  have h2 := List.length_filter_le (fun k => !isQ ts k) (List.range i)
  rw [List.length_range] at h1 h2
  exact ⟨h1, h2⟩
theorem filter_perm {α : Type} (p : α → Bool) : ∀ l : List α, (l.filter p ++ l.filter fun x => !p x).Perm l
  | [] => .refl _
  | x :: l => by
    have ih := filter_perm p l
    cases h : p x with
    | true =>
      rw [List.filter_cons_of_pos h, List.filter_cons_of_neg (by rw [h]; decide)]
      exact ih.cons x
    | false =>
      rw [List.filter_cons_of_neg (by rw [h]; decide), List.filter_cons_of_pos (by rw [h]; rfl)]
      exact (List.perm_middle).trans (ih.cons x)
theorem best_of {ts : List T3} {Q S : List (Int × Int)} (hQ : Q.Perm (qL ts ts.length)) (hS : S.Perm (sL ts ts.length)) (oQ : Q.Pairwise fun x y => x.1 ≤ y.1) (oS : S.Pairwise fun x y => x.1 ≤ y.1) :
    ∃ os : List Nat, (Q ++ S).map (·.2) = zs os ∧ Best ts os := by
  have fQ : ∀ x ∈ Q, ∃ k : Nat, k < ts.length ∧ isQ ts k = true ∧ x = (key1 (ts.getD k (0, 0, 0)), (k : Int)) := fun x hx => by
    obtain ⟨k, hk, rfl⟩ := List.mem_map.mp (hQ.mem_iff.mp hx)
    obtain ⟨h1, h2⟩ := List.mem_filter.mp hk
    exact ⟨k, List.mem_range.mp h1, h2, rfl⟩
  have fS : ∀ x ∈ S, ∃ k : Nat, k < ts.length ∧ isQ ts k = false ∧ x = (key2 (ts.getD k (0, 0, 0)), (k : Int)) := fun x hx => by
    obtain ⟨k, hk, rfl⟩ := List.mem_map.mp (hS.mem_iff.mp hx)
    obtain ⟨h1, h2⟩ := List.mem_filter.mp hk
    exact ⟨k, List.mem_range.mp h1, by simpa using h2, rfl⟩
  have toN : ∀ L : List (Int × Int), (∀ x ∈ L, ∃ k : Nat, x.2 = (k : Int)) → L.map (·.2) = zs (L.map fun x => x.2.toNat) := fun L h => by
    unfold zs
    rw [List.map_map]
    refine List.map_congr_left fun x hx => ?_
    obtain ⟨k, hk⟩ := h x hx
    show x.2 = ((x.2.toNat : Nat) : Int)
    omega
  refine ⟨(Q ++ S).map fun x => x.2.toNat, toN _ fun x hx => ?_, ?_, Q.map (fun x => x.2.toNat), S.map (fun x => x.2.toNat), List.map_append .., ?_, ?_, ?_, ?_⟩
  · rcases List.mem_append.mp hx with h | h
    · obtain ⟨k, _, _, rfl⟩ := fQ x h
      exact ⟨k, rfl⟩
    · obtain ⟨k, _, _, rfl⟩ := fS x h
      exact ⟨k, rfl⟩
  · have h1 := (hQ.append hS).map fun x : Int × Int => x.2.toNat
    refine h1.trans ?_
    rw [List.map_append]
    unfold qL sL
    rw [List.map_map, List.map_map]
    have e1 : ∀ l : List Nat, l.map ((fun x : Int × Int => x.2.toNat) ∘ fun k : Nat => (key1 (ts.getD k (0, 0, 0)), (k : Int))) = l := fun l => (List.map_congr_left fun k _ => rfl).trans (List.map_id l)
    have e2 : ∀ l : List Nat, l.map ((fun x : Int × Int => x.2.toNat) ∘ fun k : Nat => (key2 (ts.getD k (0, 0, 0)), (k : Int))) = l := fun l => (List.map_congr_left fun k _ => rfl).trans (List.map_id l)
    rw [e1, e2]
    exact filter_perm _ _
  · intro k hk
    obtain ⟨x, hx, rfl⟩ := List.mem_map.mp hk
    obtain ⟨k, _, h, rfl⟩ := fQ x hx
    exact of_decide_eq_true h
  · intro k hk
    obtain ⟨x, hx, rfl⟩ := List.mem_map.mp hk
    obtain ⟨k, _, h, rfl⟩ := fS x hx
    have := of_decide_eq_false h
    show (ts.getD k (0, 0, 0)).2.2 < (ts.getD k (0, 0, 0)).1
    omega
  · rw [List.pairwise_map]
    refine oQ.imp_of_mem fun {x y} hx hy h => ?_
    obtain ⟨k, _, _, rfl⟩ := fQ x hx
    obtain ⟨j, _, _, rfl⟩ := fQ y hy
    exact h
  · rw [List.pairwise_map]
    refine oS.imp_of_mem fun {x y} hx hy h => ?_
    obtain ⟨k, _, _, rfl⟩ := fS x hx
    obtain ⟨j, _, _, rfl⟩ := fS y hy
    have h2 : key2 (ts.getD k (0, 0, 0)) ≤ key2 (ts.getD j (0, 0, 0)) := h
    unfold key2 at h2
    show (ts.getD j (0, 0, 0)).2.2 + (ts.getD j (0, 0, 0)).2.1 ≤ (ts.getD k (0, 0, 0)).2.2 + (ts.getD k (0, 0, 0)).2.1
    omega
/-! ### the bar -/
/-- the way that changes benches at place j -/
def wayAt (ts : List T3) (os : List Nat) (j : Nat) : Int := pth (sq ts (os.take j)) (ts.getD (os.getD j 0) (0, 0, 0)) (sq ts (os.drop (j + 1)))
/-- the longest so far, and its place -/
def Top (ts : List T3) (os : List Nat) (i : Nat) (m : Int) (k : Nat) : Prop := (∀ j, j < i → wayAt ts os j ≤ m) ∧ ((m = 0 ∧ k = 0) ∨ (k < i ∧ m = wayAt ts os k))
theorem top_0 (ts : List T3) (os : List Nat) : Top ts os 0 0 0 := ⟨fun j h => absurd h (by omega), .inl ⟨rfl, rfl⟩⟩
theorem top_y {ts : List T3} {os : List Nat} {i k : Nat} {m : Int} (h : Top ts os i m k) (g : m < wayAt ts os i) : Top ts os (i + 1) (wayAt ts os i) i := ⟨fun j hj => by
  rcases Nat.lt_succ_iff_lt_or_eq.mp hj with h1 | h1
  · have := h.1 j h1; omega
  · rw [h1]; exact Int.le_refl _, .inr ⟨Nat.lt_succ_self i, rfl⟩⟩
theorem top_n {ts : List T3} {os : List Nat} {i k : Nat} {m : Int} (h : Top ts os i m k) (g : ¬ m < wayAt ts os i) : Top ts os (i + 1) m k := ⟨fun j hj => by
  rcases Nat.lt_succ_iff_lt_or_eq.mp hj with h1 | h1
  · exact h.1 j h1
  · rw [h1]; omega, h.2.imp id fun h => ⟨Nat.lt_succ_of_lt h.1, h.2⟩⟩
theorem split_at {os : List Nat} {j k : Nat} (h : os[j]? = some k) : os = os.take j ++ k :: os.drop (j + 1) := by
  obtain ⟨hj, e⟩ := List.getElem?_eq_some_iff.mp h
  have e2 : os.drop j = k :: os.drop (j + 1) := by rw [List.drop_eq_getElem_cons hj, e]
  rw [← e2, List.take_append_drop]
theorem way_at {ts : List T3} {os : List Nat} {j k : Nat} (h : os[j]? = some k) : wayAt ts os j = pth (sq ts (os.take j)) (ts.getD k (0, 0, 0)) (sq ts (os.drop (j + 1))) := by
  have e : os.getD j 0 = k := by rw [List.getD_eq_getElem?_getD, h]; rfl
  unfold wayAt
  rw [e]
/-- at the end the longest is when the order is done -/
theorem top_end {ts : List T3} {os : List Nat} {m : Int} {k : Nat} (hn : ∀ t ∈ ts, Nn t) (hp : os.Perm (List.range ts.length)) (h : Top ts os os.length m k) (h0 : os ≠ []) : k < os.length ∧ m = wayAt ts os k ∧ m = dn (sq ts os) := by
  have nn := sq_nn hn (perm_lt hp)
  have l0 : 0 < os.length := by
    cases os with
    | nil => exact absurd rfl h0
    | cons x r => simp
  have wn : ∀ j, j < os.length → 0 ≤ wayAt ts os j := fun j hj => by
    have e := List.getElem?_eq_getElem hj
    rw [way_at e]
    have s1 : ∀ t ∈ sq ts (os.take j), Nn t := sq_nn hn fun x hx => perm_lt hp x (List.mem_of_mem_take hx)
    have s2 : ∀ t ∈ sq ts (os.drop (j + 1)), Nn t := sq_nn hn fun x hx => perm_lt hp x (List.mem_of_mem_drop hx)
    have tn := hn _ (List.mem_of_getElem? (getD_at (perm_lt hp _ (List.getElem_mem hj))))
    have a1 := sa_nn s1
    have a2 := sb_nn s2
    have b1 := tn.1
    have b2 := tn.2.1
    have b3 := tn.2.2
    unfold pth
    omega
  have key : k < os.length ∧ m = wayAt ts os k := by
    rcases h.2 with ⟨rfl, rfl⟩ | h2
    · have a1 := h.1 0 l0
      have a2 := wn 0 l0
      exact ⟨l0, by omega⟩
    · exact h2
  refine ⟨key.1, key.2, ?_⟩
  rw [dn_ld nn]
  have e := List.getElem?_eq_getElem key.1
  refine Int.le_antisymm ?_ (ld_le.mpr ⟨by rw [key.2]; exact wn k key.1, fun p t r hs => ?_⟩)
  · rw [key.2, way_at e]
    refine pth_le_ld ?_
    have z := congrArg (sq ts) (split_at e)
    rw [sq_app] at z
    exact z
  · have hl : p.length < os.length := by
      have := congrArg List.length hs
      rw [sq_len, List.length_append, List.length_cons] at this
      omega
    have ej := List.getElem?_eq_getElem hl
    have z := congrArg (sq ts) (split_at ej)
    rw [sq_app, hs] at z
    have hlen : p.length = (sq ts (os.take p.length)).length := by rw [sq_len, List.length_take]; omega
    obtain ⟨z1, z2⟩ := List.append_inj z hlen
    obtain ⟨z3, z4⟩ := List.cons.inj (show t :: r = ts.getD os[p.length] (0, 0, 0) :: sq ts (os.drop (p.length + 1)) from z2)
    have := h.1 p.length hl
    rw [way_at ej, ← z1, ← z3, ← z4] at this
    exact this
/-- the bar that bar_of tells -/
theorem bar_at {ts : List T3} {os : List Nat} {k j : Nat} {ap : List Int} (hn : ∀ t ∈ ts, Nn t) (hB : Best ts os) (h : os[k]? = some j) (e : wayAt ts os k = dn (sq ts os)) (hs : ap.Pairwise (· ≤ ·)) :
    ((ts.getD j (0, 0, 0)).1 ≤ (ts.getD j (0, 0, 0)).2.2 → ap.Perm (zs (os.take k)) → wv ts 1 ap ((ts.getD j (0, 0, 0)).1 + (ts.getD j (0, 0, 0)).2.1) = some (dn (sq ts os))) ∧
    (¬ (ts.getD j (0, 0, 0)).1 ≤ (ts.getD j (0, 0, 0)).2.2 → ap.Perm (zs (os.drop (k + 1))) → wv ts 2 ap ((ts.getD j (0, 0, 0)).2.2 + (ts.getD j (0, 0, 0)).2.1) = some (dn (sq ts os))) := by
  obtain ⟨hP, qs, ss, eo, h1, h2, h3, h4⟩ := hB
  have sp := split_at h
  have mem : j ∈ qs ++ ss := by rw [← eo]; exact List.mem_of_getElem? h
  have P2 : (os.take k ++ j :: os.drop (k + 1)).Perm (List.range ts.length) := by rw [← sp]; exact hP
  have E2 : os.take k ++ j :: os.drop (k + 1) = qs ++ ss := by rw [← sp]; exact eo
  rw [way_at h] at e
  refine ⟨fun c hp => ?_, fun c hp => ?_⟩
  · have kq : j ∈ qs := by
      rcases List.mem_append.mp mem with m | m
      · exact m
      · have := h2 j m; omega
    rw [← e]
    exact best_bar1 hn P2 E2 h1 (fun k hk => Int.le_of_lt (h2 k hk)) h3 kq hp hs
  · have ks : j ∈ ss := by
      rcases List.mem_append.mp mem with m | m
      · exact absurd (h1 j m) c
      · exact m
    rw [← e]
    exact best_bar2 hn P2 E2 h1 (fun k hk => Int.le_of_lt (h2 k hk)) h4 ks hp hs
end Bp
/-! Benchpair: when the soonest order is done. -/
namespace Bp
/-- v is when some order is done, and some bar's worth -/
def Opt (ts : List T3) (v : Int) : Prop := ∃ os b ap l, os.Perm (List.range ts.length) ∧ wv ts b ap l = some v ∧ v = dn (sq ts os)
theorem Opt.uniq {ts : List T3} {v v' : Int} (hn : ∀ t ∈ ts, Nn t) (h : Opt ts v) (h' : Opt ts v') : v = v' := by
  obtain ⟨os, b, ap, l, h1, h2, h3⟩ := h
  obtain ⟨os', b', ap', l', k1, k2, k3⟩ := h'
  have a1 := bar_le hn k1 h2
  have a2 := bar_le hn h1 k2
  omega
theorem top_ex (ts : List T3) (os : List Nat) : ∀ i, ∃ m k, Top ts os i m k
  | 0 => ⟨0, 0, top_0 ts os⟩
  | i + 1 => by
    obtain ⟨m, k, h⟩ := top_ex ts os i
    by_cases g : m < wayAt ts os i
    · exact ⟨_, _, top_y h g⟩
    · exact ⟨_, _, top_n h g⟩
theorem sort_ex (l : List Int) : ∃ ap : List Int, ap.Perm l ∧ ap.Pairwise (· ≤ ·) := by
  refine ⟨l.mergeSort (fun a b => decide (a ≤ b)), List.mergeSort_perm l _, ?_⟩
  have h := List.pairwise_mergeSort (le := fun a b : Int => decide (a ≤ b)) (fun a b c h1 h2 => by simp at h1 h2 ⊢; omega) (fun a b => by simp; omega) l
  exact h.imp fun h => of_decide_eq_true h
theorem best_opt {ts : List T3} {os : List Nat} (hn : ∀ t ∈ ts, Nn t) (hB : Best ts os) : Opt ts (dn (sq ts os)) := by
  have hP := hB.1
  by_cases e : os = []
  · subst e
    have t0 : ts = [] := List.eq_nil_of_length_eq_zero (perm_len hP).symm
    subst t0
    exact ⟨[], 1, [], 0, hP, rfl, rfl⟩
  · obtain ⟨m, k, h⟩ := top_ex ts os os.length
    obtain ⟨k1, k2, k3⟩ := top_end hn hP h e
    have ej := List.getElem?_eq_getElem k1
    by_cases c : (ts.getD os[k] (0, 0, 0)).1 ≤ (ts.getD os[k] (0, 0, 0)).2.2
    · obtain ⟨ap, p1, p2⟩ := sort_ex (zs (os.take k))
      exact ⟨os, 1, ap, _, hP, (bar_at hn hB ej (k2.symm.trans k3) p2).1 c p1, rfl⟩
    · obtain ⟨ap, p1, p2⟩ := sort_ex (zs (os.drop (k + 1)))
      exact ⟨os, 2, ap, _, hP, (bar_at hn hB ej (k2.symm.trans k3) p2).2 c p1, rfl⟩
theorem opt_nil {v : Int} (h : Opt [] v) : v = 0 := by
  obtain ⟨os, b, ap, l, h1, h2, h3⟩ := h
  have e : os = [] := List.eq_nil_of_length_eq_zero (perm_len h1)
  subst e
  exact h3
theorem opt_nn {ts : List T3} {v : Int} (hn : ∀ t ∈ ts, Nn t) (h : Opt ts v) : 0 ≤ v := by
  obtain ⟨os, b, ap, l, h1, h2, h3⟩ := h
  exact wv_nn hn h2
theorem sa_le {M : Int} (hM : 0 ≤ M) : ∀ l : List T3, (∀ t ∈ l, t.1 ≤ M) → sa l ≤ M * l.length
  | [], _ => by simp [sa]
  | t :: l, h => by
    have h1 := h t List.mem_cons_self
    have h2 := sa_le hM l fun u hu => h u (List.mem_cons_of_mem t hu)
    rw [sa, List.length_cons, Int.natCast_add, Int.mul_add]
    omega
theorem sb_le {M : Int} (hM : 0 ≤ M) : ∀ l : List T3, (∀ t ∈ l, t.2.2 ≤ M) → sb l ≤ M * l.length
  | [], _ => by simp [sb]
  | t :: l, h => by
    have h1 := h t List.mem_cons_self
    have h2 := sb_le hM l fun u hu => h u (List.mem_cons_of_mem t hu)
    rw [sb, List.length_cons, Int.natCast_add, Int.mul_add]
    omega
/-- no order is done later than the lengths allow -/
theorem ld_bound {M : Int} (hM : 0 ≤ M) {l : List T3} (h : ∀ t ∈ l, t.1 ≤ M ∧ t.2.1 ≤ M ∧ t.2.2 ≤ M) : ld l ≤ M * (l.length + 2) := by
  refine ld_le.mpr ⟨Int.mul_nonneg hM (by omega), fun p t r e => ?_⟩
  subst e
  have h1 := sa_le hM p fun u hu => (h u (by simp [hu])).1
  have h2 := sb_le hM r fun u hu => (h u (by simp [hu])).2.2
  have h3 := h t (by simp)
  unfold pth
  rw [List.length_append, List.length_cons]
  have e : M * (((p.length + (r.length + 1) : Nat) : Int) + 2) = M * p.length + M * r.length + M + M + M := by
    rw [show (((p.length + (r.length + 1) : Nat) : Int) + 2) = (p.length : Int) + r.length + 1 + 1 + 1 by omega]
    rw [Int.mul_add, Int.mul_add, Int.mul_add, Int.mul_add, Int.mul_one]
  rw [e]
  omega
end Bp
/-! Benchpair: short words over the hand layer. -/
namespace Bp
open PySem PySem.Spec PyProof.Rows L2
/-- the built-in names that the text leaves as they are -/
structure Blt (mg : Str → Option Value) : Prop where
  isinstance : mg "isinstance" = none
  int : mg "int" = none
  bool : mg "bool" = none
  list : mg "list" = none
  tuple : mg "tuple" = none
  str : mg "str" = none
  len : mg "len" = none
  all : mg "all" = none
  any : mg "any" = none
  sum : mg "sum" = none
  max : mg "max" = none
  sorted : mg "sorted" = none
  range : mg "range" = none
  enumerate : mg "enumerate" = none
  zip : mg "zip" = none
  set : mg "set" = none
  ValueError : mg "ValueError" = none
abbrev FnP (K : PySem.W.Frag) (x : Str) (st : Stmt) (f : Addr) (fd : FuncData) : Prop := FunD K x x (defArgs st) (defBody st) (defScope st) [] [] f fd
/-- a def of the text, under its own name -/
structure Def (K : PySem.W.Frag) (mg : Str → Option Value) (x : Str) (st : Stmt) (ps : List Str) : Prop where
  ex : ∃ (f : Addr) (fd : FuncData), FnP K x st f fd ∧ mg x = some (.ref f) ∧ Binds K fd ps []
/-- a def that may be called, and what it promises -/
structure CalX (P : Program) (w : World) (K : PySem.W.Frag) (mg : Str → Option Value) (base : Heap) (CX : CXT) (k : Nat) (x : Str) (sp : Sp) : Prop where
  ex : ∃ (f : Addr) (fd : FuncData) (ps : List Str), FnOk P w K mg base CX k f fd ps sp ∧ mg x = some (.ref f) ∧ PySem.W.keepIn K (.ref f) = true ∧ Binds K fd ps []
abbrev Cal (P : Program) (w : World) (K : PySem.W.Frag) (mg : Str → Option Value) (base : Heap) (k : Nat) (x : Str) (sp : Sp) : Prop := CalX P w K mg base CX0 k x sp
section
variable {P : Program} {w : World} {K : PySem.W.Frag} {mg : Str → Option Value} {base : Heap} {x : Str} {st : Stmt} {ps N : List Str} {k : Nat} {sp : Sp}
theorem Def.cal (D : Def K mg x st ps) (S : FnScope N ps (defScope st)) (len : ∀ vs H Q E, sp vs H Q E → vs.length = ps.length)
    (body : ∀ (f : Addr) (cdv : Value) (A : Around) (outer : List Env) (s : Shared) (H : Hp) (vs : List V) (Q : VK) (E : XK), Room k (A.deeper (envOfC x (defScope st) s.heap.objs.size f cdv)) → sp vs H Q E →
      ∃ t, PSs (cxOf CX0 P w K mg base N x (defScope st) f cdv A outer s H E).nox (defBody st) t ∧ t { nx := fun _ H' => Q .non H', rt := Q } (start N vs) H) : Cal P w K mg base (k + 1) x sp := by
  obtain ⟨f, fd, F, g, b⟩ := D.ex
  refine ⟨f, fd, ps, F.ok S len fun cdv A outer s H vs Q E hr h => ?_, g, F.kp, b⟩
  obtain ⟨t, h1, h2⟩ := body f cdv A outer s H vs Q E hr h
  exact ⟨t, h1.nox, h2⟩
/-- the law itself -/
theorem fn_law {f : Addr} {fd : FuncData} (F : FnP K x st f fd) (S : FnScope N ps (defScope st)) (len : ∀ vs H Q E, sp vs H Q E → vs.length = ps.length)
    (body : ∀ (cdv : Value) (A : Around) (outer : List Env) (s : Shared) (H : Hp) (vs : List V) (Q : VK) (E : XK), Room k (A.deeper (envOfC x (defScope st) s.heap.objs.size f cdv)) → sp vs H Q E →
      ∃ t, PSs (cxOf CX0 P w K mg base N x (defScope st) f cdv A outer s H E).nox (defBody st) t ∧ t { nx := fun _ H' => Q .non H', rt := Q } (start N vs) H) : FnOk P w K mg base CX0 (k + 1) f fd ps sp :=
  F.ok S len fun cdv A outer s H vs Q E hr h => let ⟨t, h1, h2⟩ := body cdv A outer s H vs Q E hr h; ⟨t, h1.nox, h2⟩
/-- .. for one that may raise -/
theorem Def.calX (D : Def K mg x st ps) (S : FnScope N ps (defScope st)) (len : ∀ vs H Q E, sp vs H Q E → vs.length = ps.length)
    (body : ∀ (f : Addr) (cdv : Value) (A : Around) (outer : List Env) (s : Shared) (H : Hp) (vs : List V) (Q : VK) (E : XK), Room k (A.deeper (envOfC x (defScope st) s.heap.objs.size f cdv)) → sp vs H Q E →
      ∃ t, PSs (cxOf (L2.CX P w) P w K mg base N x (defScope st) f cdv A outer s H E) (defBody st) t ∧ t { nx := fun _ H' => Q .non H', rt := Q } (start N vs) H) : CalX P w K mg base (L2.CX P w) (k + 1) x sp := by
  obtain ⟨f, fd, F, g, b⟩ := D.ex
  exact ⟨f, fd, ps, F.ok S len fun cdv A outer s H vs Q E hr h => body f cdv A outer s H vs Q E hr h, g, F.kp, b⟩
end
/-- f(e, ..) by its promise -/
def tCal (sp : Sp) (t : TA) : TE := fun σ H Q => t σ H fun vs H1 => sp vs H1 Q E0
theorem tCal_eq (sp : Sp) (t : TA) : tCall sp [] E0 t = tCal sp t := by
  funext σ H Q
  unfold tCall tCal
  simp only [List.append_nil]
section
variable {X : Cx} {k j : Nat} {x : Str} {sp : Sp} {p pos : Pos} {e : Expr} {es : List Expr} {t : TA}
theorem pe_cal (c : Cal X.prog X.w X.K X.mg X.base k x sp) (hr : Room j X.A) (hk : k ≤ j) (hg : Gl X x) (ha : PA X (e :: es) t) (hdb : (x == ("__debug__" : Str)) = false := by decide)
    (h1 : starEach (e :: es) X.env = (false, eval e X.env) :: starEach es X.env := by rfl) (h2 : (backTo pos (starEach es X.env)).any (·.1) = false := by rfl) : PE X (.Call (.Name x p) (e :: es) [] pos) (tCal sp t) := by
  obtain ⟨f, fd, ps, F, hm, kp, b⟩ := c.ex
  rw [← tCal_eq]
  exact pe_call F (hr.mono hk) hg hm kp b .nil pass0 ha hdb h1 h2
theorem pe_cal0 (c : Cal X.prog X.w X.K X.mg X.base k x sp) (hr : Room j X.A) (hk : k ≤ j) (hg : Gl X x) (hdb : (x == ("__debug__" : Str)) = false := by decide) : PE X (.Call (.Name x p) [] [] pos) (tCal sp tNil) := by
  obtain ⟨f, fd, ps, F, hm, kp, b⟩ := c.ex
  rw [← tCal_eq]
  exact pe_call0 F (hr.mono hk) hg hm kp b .nil pass0 hdb
theorem pe_calS {E : L2.St → XK} (c : CalX X.prog X.w X.K X.mg X.base (L2.CX X.prog X.w) k x sp) (hr : Room j X.A) (hk : k ≤ j) (hg : Gl X x) (hx : ∀ σ, PassesAt (L2.CX X.prog X.w) X σ (E σ)) (ha : PA X (e :: es) t) (hdb : (x == ("__debug__" : Str)) = false := by decide)
    (h1 : starEach (e :: es) X.env = (false, eval e X.env) :: starEach es X.env := by rfl) (h2 : (backTo pos (starEach es X.env)).any (·.1) = false := by rfl) : PE X (.Call (.Name x p) (e :: es) [] pos) (tCallS sp E t) := by
  obtain ⟨f, fd, ps, F, hm, kp, b⟩ := c.ex
  exact pe_callS F (hr.mono hk) hg hm kp b hx ha hdb h1 h2
end
/-! ### heaps -/
theorem Same.upd {H : Hp} {p : Addr} {o : HO} (h : H p = none) : Same H (upd H p o) := fun a u e => by
  rw [upd_ne (ne_of_none e h)]
  exact e
/-- what H does not know may change -/
theorem Same.mut {H H' : Hp} {p : Addr} {o : HO} (e : Same H H') (h : H p = none) : Same H (L2.upd H' p o) := fun a u ha => by
  rw [upd_ne (ne_of_none ha h)]
  exact e a u ha
theorem Same.t {K : PySem.W.Frag} {H H' : Hp} {a : Addr} {xs : List V} (e : Same H H') (h : SqT K H a xs) : SqT K H' a xs := by
  rcases h with (h | ⟨o, h⟩) | h
  · exact .inl (.inl (e _ _ h))
  · exact .inl (.inr ⟨o, e _ _ h⟩)
  · exact .inr h
theorem sz_le {n : Nat} (h : n ≤ 100000) : n ≤ sizeLine := Nat.le_trans h (by decide)
theorem sz_lt {n : Nat} (h : n < 100000) : n < sizeLine := Nat.lt_of_lt_of_le h (by decide)
/-! ### readings, one step each -/
section
variable {K : PySem.W.Frag} {σ : L2.St} {H : Hp} {Q : VK} {D : Ends} {t u : TS} {te ta tb tc : TE} {tA tB' : TT} {g : TG} {gs : TGs} {x y z v : V} {i j n : Nat} {a p : Addr} {xs ys : List V} {ts : TA} {r : R2} {sp : Sp} {QT : Bool → Hp → Prop} {QA : List V → Hp → Prop} {QS : L2.St → Hp → Prop}
theorem i_seq (h : t { D with nx := u D } σ H) : tSeq t u D σ H := h
theorem i_next (h : D.nx σ H) : tNext D σ H := h
theorem i_asg (h : te σ H fun x H1 => g x σ H1 D.nx) : tAsg te g D σ H := h
theorem i_ret (h : te σ H D.rt) : tRet te D σ H := h
theorem i_drop (h : te σ H fun _ H1 => D.nx σ H1) : tDrop te D σ H := h
theorem i_ifS (h : tA σ H fun b H1 => if b = true then t D σ H1 else u D σ H1) : tIfS tA t u D σ H := h
theorem i_if (h : tA σ H fun c H1 => if c = true then ta σ H1 Q else tb σ H1 Q) : tIf tA ta tb σ H Q := h
theorem i_par (h : ts σ H fun vs H1 => ∃ v w, vs = [v, w] ∧ D.nx ((σ.set i (some v)).set j (some w)) H1) : tPar i j ts D σ H := h
theorem i_par3 {l : Nat} (h : ts σ H fun vs H1 => ∃ u v w, vs = [u, v, w] ∧ D.nx (((σ.set i (some u)).set j (some v)).set l (some w)) H1) : tPar3 i j l ts D σ H := h
theorem i_par_e {R : V → V → Prop} (h : R x y) : ∃ v w, [x, y] = [v, w] ∧ R v w := ⟨x, y, rfl, h⟩
theorem i_par3_e {R : V → V → V → Prop} (h : R x y z) : ∃ u v w, [x, y, z] = [u, v, w] ∧ R u v w := ⟨x, y, z, rfl, h⟩
theorem i_nm (h : QS (σ.set i (some v)) H) : gName i v σ H QS := h
theorem i_gtup (hq : SqT K H a xs) (hl : xs.length = n) (h : gs xs σ H QS) : gTup K n gs (.ref a) σ H QS := ⟨a, xs, rfl, hq, hl, h⟩
theorem i_gcons (h : g v σ H fun σ' H' => gs xs σ' H' QS) : gCons g gs (v :: xs) σ H QS := ⟨v, xs, rfl, h⟩
theorem i_gnil (h : QS σ H) : gNil [] σ H QS := ⟨rfl, h⟩
theorem i_gsub {s : TSet} (h : ta σ H fun o H1 => tb σ H1 fun i H2 => s o i v H2 fun H3 => QS σ H3) : gSub ta tb s v σ H QS := h
theorem i_var (e : σ[i]? = some (some v)) (h : Q v H) : tVar i σ H Q := ⟨v, e, h⟩
theorem i_var0 (h : ∃ v, σ[i]? = some (some v) ∧ Q v H) : tVar i σ H Q := h
theorem i_c (h : Q v H) : tC v σ H Q := h
theorem i_op (h : ta σ H fun x H1 => tb σ H1 fun y H2 => r x y H2 Q) : tOp r ta tb σ H Q := h
theorem i_un {rr : V → Hp → VK → Prop} (h : ta σ H fun x H1 => rr x H1 Q) : tUn rr ta σ H Q := h
theorem i_I0 {f : Int → Int → V} {m l : Int} (h : Q (f m l) H) : rI0 f (.int m) (.int l) H Q := ⟨m, l, rfl, rfl, h⟩
theorem i_I {C : Int → Int → Prop} {f : Int → Int → V} {m l : Int} (c : C m l) (h : Q (f m l) H) : rI C f (.int m) (.int l) H Q := ⟨m, l, rfl, rfl, c, h⟩
theorem i_U {f : Int → V} {m : Int} (h : Q (f m) H) : rU f (.int m) H Q := ⟨m, rfl, h⟩
theorem i_eq (s : scal x y = true) (h : Q (.bl (decide (x = y))) H) : rEq x y H Q := ⟨s, h⟩
theorem i_ne (s : scal x y = true) (h : Q (.bl (!decide (x = y))) H) : rNe x y H Q := ⟨s, h⟩
theorem i_ipI {f : Int → Int → Int} {m l : Int} (h : Q (.int (f m l)) H) : ipI f (.int m) (.int l) H Q := ⟨m, l, rfl, rfl, h⟩
theorem i_aug {ti : TIp} (e : σ[i]? = some (some x)) (h : te σ H fun y H1 => ti x y H1 fun z H2 => D.nx (σ.set i (some z)) H2) : tAug i te ti D σ H := ⟨x, e, h⟩
theorem i_aug0 {ti : TIp} (h : ∃ x, σ[i]? = some (some x) ∧ te σ H fun y H1 => ti x y H1 fun z H2 => D.nx (σ.set i (some z)) H2) : tAug i te ti D σ H := h
theorem i_cb {rr : List V → Hp → VK → Prop} (h : ts σ H fun vs H1 => rr vs H1 Q) : tCB rr ts σ H Q := h
theorem i_cal (h : ts σ H fun vs H1 => sp vs H1 Q E0) : tCal sp ts σ H Q := h
theorem i_calS {E : L2.St → XK} (h : ts σ H fun vs H1 => sp vs H1 Q (E σ)) : tCallS sp E ts σ H Q := h
theorem i_nil (h : QA [] H) : tNil σ H QA := h
theorem i_cons (h : ta σ H fun x H1 => ts σ H1 fun xs H2 => QA (x :: xs) H2) : tCons ta ts σ H QA := h
theorem i_test (h : te σ H fun x H' => ∃ k, x = .bl k ∧ QT k H') : tTest te σ H QT := h
theorem i_tB (h : te σ H fun x H' => ∃ k, x = .bl k ∧ QT k H') : tB te σ H QT := h
theorem i_bl {b : Bool} {R : Bool → Prop} (h : R b) : ∃ k, V.bl b = .bl k ∧ R k := ⟨b, rfl, h⟩
theorem i_not (h : tA σ H fun c H1 => QT (!c) H1) : tNot tA σ H QT := h
theorem i_and (h : tA σ H fun c H1 => if c = true then tB' σ H1 QT else QT false H1) : tAnd tA tB' σ H QT := h
theorem i_or (h : tA σ H fun c H1 => if c = true then QT true H1 else tB' σ H1 QT) : tOr tA tB' σ H QT := h
theorem i_andV (h : ta σ H fun x H1 => ∃ c, x = .bl c ∧ if c = true then tb σ H1 Q else Q (.bl false) H1) : tAndV ta tb σ H Q := h
theorem i_orV (h : ta σ H fun x H1 => ∃ c, x = .bl c ∧ if c = true then Q (.bl true) H1 else tb σ H1 Q) : tOrV ta tb σ H Q := h
theorem i_notV (h : ta σ H fun x H1 => ∃ c, x = .bl c ∧ Q (.bl (!c)) H1) : tNotV ta σ H Q := h
theorem i_chain {r' : R2} (h : ta σ H fun x H1 => tb σ H1 fun y H2 => r x y H2 fun z H3 => ∃ k, z = .bl k ∧ (if k = true then tc σ H3 fun w' H4 => r' y w' H4 Q else Q (.bl false) H3)) : tChain r r' ta tb tc σ H Q := h
theorem i_ifT {A B : Prop} (h : A) : if true = true then A else B := iteT h
theorem i_ifF {A B : Prop} (h : B) : if false = true then A else B := iteF h
theorem i_ifNT {A B : Prop} (h : B) : if (!true) = true then A else B := iteF h
theorem i_ifNF {A B : Prop} (h : A) : if (!false) = true then A else B := iteT h
theorem i_ite {b : Bool} {A B : Prop} (h1 : b = true → A) (h2 : b = false → B) : if b = true then A else B := by
  cases b with
  | true => exact iteT (h1 rfl)
  | false => exact iteF (h2 rfl)
theorem i_itd {c : Prop} [Decidable c] {A B : Prop} (h1 : c → A) (h2 : ¬ c → B) : if decide c = true then A else B := i_ite (fun e => h1 (of_decide_eq_true e)) (fun e => h2 (of_decide_eq_false e))
theorem i_itdn {c : Prop} [Decidable c] {A B : Prop} (h1 : ¬ c → A) (h2 : c → B) : if (!decide c) = true then A else B := i_ite (fun e => h1 (of_decide_eq_false (by simpa using e))) (fun e => h2 (of_decide_eq_true (by simpa using e)))
theorem i_pos {b : Bool} {A B : Prop} (hb : b = true) (h : A) : if b = true then A else B := by rw [if_pos hb]; exact h
theorem i_neg {b : Bool} {A B : Prop} (hb : b = false) (h : B) : if b = true then A else B := by rw [hb]; exact iteF h
/-- new objects -/
def kTup (Q : VK) : List V → Hp → Prop := fun xs H1 => xs.length ≤ sizeLine ∧ ∀ p, H1 p = none → Q (.ref p) (upd H1 p (.tup xs))
def kLst (Q : VK) : List V → Hp → Prop := fun xs H1 => xs.length ≤ sizeLine ∧ ∀ p, H1 p = none → Q (.ref p) (upd H1 p (.lst xs))
theorem i_tupn (h : ts σ H (kTup Q)) : tTup ts σ H Q := h
theorem i_lstn (h : ts σ H (kLst Q)) : tLst ts σ H Q := h
theorem i_new {o : HO} (h : ∀ p H', H p = none → Same H H' → H' p = some o → Q (.ref p) H') : ∀ p, H p = none → Q (.ref p) (upd H p o) := fun p hp => h p _ hp (Same.upd hp) upd_same
theorem i_tupk (hz : xs.length ≤ 100000) (h : ∀ p H', H p = none → Same H H' → H' p = some (.tup xs) → Q (.ref p) H') : kTup Q xs H := ⟨sz_le hz, i_new h⟩
theorem i_lstk (hz : xs.length ≤ 100000) (h : ∀ p H', H p = none → Same H H' → H' p = some (.lst xs) → Q (.ref p) H') : kLst Q xs H := ⟨sz_le hz, i_new h⟩
/-- reading lists and tuples -/
theorem i_ixL {m : Int} (hs : SqL K H p xs) (e : atI xs m = some v) (h : Q v H) : rIxL K (.ref p) (.int m) H Q := ⟨p, xs, m, v, rfl, rfl, hs, e, h⟩
theorem i_ixT {m : Int} (hs : SqT K H p xs) (e : atI xs m = some v) (h : Q v H) : rIxT K (.ref p) (.int m) H Q := ⟨p, xs, m, v, rfl, rfl, hs, e, h⟩
theorem i_bm {T : String} {rr : V → List V → Hp → VK → Prop} (h : ta σ H fun x H1 => tyV K T x H1 ∧ ts σ H1 fun ys H2 => rr x ys H2 Q) : tBM K T rr ta ts σ H Q := h
theorem i_bm0 {T : String} {rr : V → List V → Hp → VK → Prop} (h : ta σ H fun x H1 => tyV K T x H1 ∧ rr x [] H1 Q) : tBM0 K T rr ta σ H Q := h
theorem ty_lst (h : H p = some (.lst xs)) : tyV K "list" (.ref p) H := .inl ⟨rfl, xs, .inl (.inl h)⟩
theorem i_app (hp : H p = some (.lst xs)) (hz : xs.length < 100000) (h : Q .non (upd H p (.lst (xs ++ [v])))) : rAppend (.ref p) [v] H Q := ⟨p, xs, v, rfl, rfl, hp, sz_lt hz, h⟩
theorem i_setL {m : Int} {jj : Nat} {QH : Hp → Prop} (hp : H p = some (.lst xs)) (hj : ixN xs.length m = some jj) (h : QH (upd H p (.lst (xs.set jj v)))) : rSetL (.ref p) (.int m) v H QH := ⟨p, xs, m, jj, rfl, rfl, hp, hj, h⟩
theorem ixN_nat {m jj : Nat} (hj : jj < m) : ixN m (jj : Int) = some jj := by
  unfold ixN
  rw [if_pos (by omega), if_pos (by omega)]
  simp
theorem i_sl {rs : V → Option Int → Option Int → Hp → VK → Prop} {tl th : L2.St → Hp → (Option Int → Hp → Prop) → Prop} (h : ta σ H fun x H1 => tl σ H1 fun l H2 => th σ H2 fun u H3 => rs x l u H3 Q) : tSl rs ta tl th σ H Q := h
theorem i_noP {QO : Option Int → Hp → Prop} (h : QO none H) : tNoPart σ H QO := h
theorem i_part {QO : Option Int → Hp → Prop} (h : ta σ H fun x H1 => ∃ i, x = .int i ∧ QO (some i) H1) : tPart ta σ H QO := h
theorem i_int {m : Int} {R : Int → Prop} (h : R m) : ∃ i, V.int m = .int i ∧ R i := ⟨m, rfl, h⟩
end
/-! ### loops -/
section
variable {K : PySem.W.Frag} {σ : L2.St} {H : Hp} {D : Ends} {t : TS} {ta : TE} {g : TG} {a b : Addr} {xs ys : List V} {ts : TA} {wi : TI} {R : It → Hp → Prop}
theorem i_for (h : wi σ H fun J H1 => ∃ W : Nat → Nat → L2.St → Hp → Prop, (∃ m, W 0 m σ H1) ∧ ∀ i m σ H, W i m σ H →
  (J.stop i H ∧ D.nx σ H) ∨ (J.go i H ∧ ∃ N : L2.St → Hp → Prop, (∀ σ' H', N σ' H' → ∃ m', m' < m ∧ W (i + 1) m' σ' H') ∧ ∀ x H', J.yld i H x H' → g x σ H' fun σ2 H2 => t { D with nx := N, ct := N, bk := D.nx } σ2 H2)) : tFor wi g t D σ H := h
def kItl (K : PySem.W.Frag) (R : It → Hp → Prop) : V → Hp → Prop := fun x H1 => ∃ a, x = .ref a ∧ (∃ xs, SqL K H1 a xs) ∧ R (Itl K a) H1
def kItt (K : PySem.W.Frag) (R : It → Hp → Prop) : V → Hp → Prop := fun x H1 => ∃ a, x = .ref a ∧ (∃ xs, SqT K H1 a xs) ∧ R (Itt K a) H1
def kItr (R : It → Hp → Prop) : List V → Hp → Prop := fun vs H1 => ∃ j : Int, vs = [.int j] ∧ -(2 ^ 62) ≤ j ∧ j < 2 ^ 62 ∧ R (Itr 0 j.toNat) H1
def kIte (K : PySem.W.Frag) (R : It → Hp → Prop) : List V → Hp → Prop := fun vs H1 => ∃ a xs, vs = [.ref a] ∧ SqL K H1 a xs ∧ R (Ite K a) H1
def kItz (K : PySem.W.Frag) (R : It → Hp → Prop) : List V → Hp → Prop := fun vs H1 => ∃ a b xs ys, vs = [.ref a, .ref b] ∧ SqL K H1 a xs ∧ SqL K H1 b ys ∧ R (Itz K a b) H1
theorem i_iList (h : ta σ H (kItl K R)) : iList K ta σ H R := h
theorem i_itl (hs : SqL K H a xs) (h : R (Itl K a) H) : kItl K R (.ref a) H := ⟨a, rfl, ⟨xs, hs⟩, h⟩
theorem i_iTup (h : ta σ H (kItt K R)) : iTup K ta σ H R := h
theorem i_itt (hs : SqT K H a xs) (h : R (Itt K a) H) : kItt K R (.ref a) H := ⟨a, rfl, ⟨xs, hs⟩, h⟩
theorem i_iRng1 (h : ts σ H (kItr R)) : iRng1 ts σ H R := h
theorem i_itr {m : Nat} {k : Int} (e : k = (m : Int)) (hm : m ≤ 100000) (h : R (Itr 0 m) H) : kItr R [.int k] H := by
  subst e
  exact ⟨(m : Int), rfl, by omega, by omega, h⟩
theorem i_iEnum (h : ts σ H (kIte K R)) : iEnum K ts σ H R := h
theorem i_itn (hs : SqL K H a xs) (h : R (Ite K a) H) : kIte K R [.ref a] H := ⟨a, xs, rfl, hs, h⟩
theorem i_iZip (h : ts σ H (kItz K R)) : iZip K ts σ H R := h
theorem i_itz (hs : SqL K H a xs) (hs' : SqL K H b ys) (h : R (Itz K a b) H) : kItz K R [.ref a, .ref b] H := ⟨a, b, xs, ys, rfl, hs, hs', h⟩
/-- for i, x in enumerate(xs) -/
theorem for_enum (Pv : Nat → L2.St → Hp → Prop) (h0 : Pv 0 σ H) (hl : ∀ i σ H, Pv i σ H → SqL K H a xs)
    (hs : ∀ (i : Nat) (x : V) (T : Addr) (σ : L2.St) (H H' : Hp), xs[i]? = some x → Pv i σ H → H T = none → Same H H' → H' = upd H T (.tup [.int (i : Nat), x]) → g (.ref T) σ H' fun σ2 H2 => t { D with nx := Pv (i + 1), ct := Pv (i + 1), bk := D.nx } σ2 H2)
    (hd : ∀ σ H, Pv xs.length σ H → D.nx σ H) : ∃ W : Nat → Nat → L2.St → Hp → Prop, (∃ m, W 0 m σ H) ∧ ∀ i m σ H, W i m σ H →
      ((Ite K a).stop i H ∧ D.nx σ H) ∨ ((Ite K a).go i H ∧ ∃ N : L2.St → Hp → Prop, (∀ σ' H', N σ' H' → ∃ m', m' < m ∧ W (i + 1) m' σ' H') ∧ ∀ v H', (Ite K a).yld i H v H' → g v σ H' fun σ2 H2 => t { D with nx := N, ct := N, bk := D.nx } σ2 H2) := by
  refine ⟨fun i m σ H => m = xs.length - i ∧ i ≤ xs.length ∧ Pv i σ H, ⟨xs.length, rfl, Nat.zero_le _, h0⟩, ?_⟩
  rintro i m σ H ⟨rfl, hi, p⟩
  have q := hl i σ H p
  by_cases hlt : i < xs.length
  · refine .inr ⟨⟨xs, xs[i], q, List.getElem?_eq_getElem hlt⟩, Pv (i + 1), fun σ' H' p' => ⟨xs.length - (i + 1), by omega, rfl, hlt, p'⟩, fun v H' y => ?_⟩
    obtain ⟨T, x, rfl, nT, rfl, fx⟩ := y
    exact hs i x T σ H _ (fx xs q) p nT (Same.upd nT) rfl
  · have e : i = xs.length := by omega
    subst e
    exact .inl ⟨⟨xs, q, Nat.le_refl _⟩, hd σ H p⟩
end
/-! ### comprehensions -/
section
variable {K : PySem.W.Frag} {σ : L2.St} {H H1 : Hp} {te : TE} {tt : TT} {g : TG} {a D : Addr} {xs : List V} {wi : TI} {vs : List Nat} {Q : VK} {Qd : Hp → Prop}
theorem i_lc (h : wi σ H fun J H1 => ∀ D, H1 D = none → ∃ W : Nat → Nat → Hp → Prop, (∃ m, W 0 m (upd H1 D (.lst []))) ∧ ∀ i m H, W i m H →
  (J.stop i H ∧ Q (.ref D) H) ∨ (J.go i H ∧ ∃ Nx : Hp → Prop, (∀ H', Nx H' → ∃ m', m' < m ∧ W (i + 1) m' H') ∧ ∀ x H', J.yld i H x H' → g x (wipe σ vs) H' fun σ2 H2 => wipe σ2 vs = wipe σ vs ∧ tt σ2 H2 fun b H3 =>
    if b = true then te σ2 H3 fun y H4 => ∃ acc, H4 D = some (.lst acc) ∧ acc.length < sizeLine ∧ Nx (upd H4 D (.lst (acc ++ [y]))) else Nx H3)) : tLc wi g tt te vs σ H Q := h
theorem take_snoc {α : Type} {l : List α} {i : Nat} {x : α} (h : l[i]? = some x) : l.take (i + 1) = l.take i ++ [x] := by
  rw [List.take_add_one, h]; rfl
/-- what is told of tuples stays -/
def SameT (K : PySem.W.Frag) (H H' : Hp) : Prop := ∀ p xs, SqT K H p xs → SqT K H' p xs
theorem smT {K : PySem.W.Frag} {H H' : Hp} (e : Same H H') : SameT K H H' := fun _ _ h => Same.t e h
theorem sameT_lst {K : PySem.W.Frag} {H : Hp} {D : Addr} {ys zs : List V} (h : H D = some (.lst ys)) : SameT K H (upd H D (.lst zs)) := fun p xs q => by
  rcases q with (q | ⟨o, q⟩) | q
  · exact .inl (.inl (by rw [upd_ne (ne_of q h (by intro z; cases z))]; exact q))
  · exact .inl (.inr ⟨o, by rw [upd_ne (ne_of q h (by intro z; cases z))]; exact q⟩)
  · exact .inr q
theorem i_yes {QT : Bool → Hp → Prop} (h : QT true H) : tYes σ H QT := h
/-- an iterator that yields xs, one by one, as long as ok holds -/
structure Sqn (J : It) (xs : List V) (ok : Hp → Prop) : Prop where
  go : ∀ i x H, ok H → xs[i]? = some x → J.go i H
  yld : ∀ i x H H', ok H → J.yld i H x H' → H' = H ∧ xs[i]? = some x
  stop : ∀ i H, ok H → xs.length ≤ i → J.stop i H
theorem sqn_l : Sqn (Itl K a) xs (fun H => SqL K H a xs) := ⟨fun i x H h e => ⟨xs, x, h, e⟩, fun i x H H' h y => ⟨y.1, y.2 xs h⟩, fun i H h l => ⟨xs, h, l⟩⟩
theorem sqn_t : Sqn (Itt K a) xs (fun H => SqT K H a xs) := ⟨fun i x H h e => ⟨xs, x, h, e⟩, fun i x H H' h y => ⟨y.1, y.2 xs h⟩, fun i H h l => ⟨xs, h, l⟩⟩
theorem lc_seq {J : It} {ok : Hp → Prop} (S : Sqn J xs ok) (Pv : Nat → Hp → Prop) (h0 : Pv 0 (upd H1 D (.lst []))) (hl : ∀ i H, Pv i H → ok H)
    (hs : ∀ i x H, xs[i]? = some x → Pv i H → g x (wipe σ vs) H fun σ2 H2 => wipe σ2 vs = wipe σ vs ∧ tt σ2 H2 fun b H3 =>
      if b = true then te σ2 H3 fun y H4 => ∃ acc, H4 D = some (.lst acc) ∧ acc.length < sizeLine ∧ Pv (i + 1) (upd H4 D (.lst (acc ++ [y]))) else Pv (i + 1) H3) (hd : ∀ H, Pv xs.length H → Qd H) :
    ∃ W : Nat → Nat → Hp → Prop, (∃ m, W 0 m (upd H1 D (.lst []))) ∧ ∀ i m H, W i m H →
      (J.stop i H ∧ Qd H) ∨ (J.go i H ∧ ∃ Nx : Hp → Prop, (∀ H', Nx H' → ∃ m', m' < m ∧ W (i + 1) m' H') ∧ ∀ x H', J.yld i H x H' → g x (wipe σ vs) H' fun σ2 H2 => wipe σ2 vs = wipe σ vs ∧ tt σ2 H2 fun b H3 =>
        if b = true then te σ2 H3 fun y H4 => ∃ acc, H4 D = some (.lst acc) ∧ acc.length < sizeLine ∧ Nx (upd H4 D (.lst (acc ++ [y]))) else Nx H3) := by
  refine ⟨fun i m H => m = xs.length - i ∧ i ≤ xs.length ∧ Pv i H, ⟨xs.length, rfl, Nat.zero_le _, h0⟩, ?_⟩
  rintro i m H ⟨rfl, hi, p⟩
  have q := hl i H p
  by_cases hlt : i < xs.length
  · refine .inr ⟨S.go i _ H q (List.getElem?_eq_getElem hlt), Pv (i + 1), fun H' p' => ⟨xs.length - (i + 1), by omega, rfl, hlt, p'⟩, fun x H' y => ?_⟩
    obtain ⟨e, hx⟩ := S.yld i x H H' q y
    rw [e]
    exact hs i x _ hx p
  · have e : i = xs.length := by omega
    subst e
    exact .inl ⟨S.stop _ H q (Nat.le_refl _), hd H p⟩
/-- [e for x in xs]: each item gives one, R tells which -/
theorem lc_map (R : Nat → V → Hp → Prop) (mono : ∀ {i : Nat} {y : V} {H H' : Hp}, SameT K H H' → R i y H → R i y H') {J : It} {ok : Hp → Prop} (S : Sqn J xs ok) (hs : ∀ H, Same H1 H → ok H) (hz : xs.length < 100000) (hD : H1 D = none)
    (turn : ∀ (i : Nat) (x : V) (H : Hp) (Qc : VK) (Qn : Hp → Prop), xs[i]? = some x → Same H1 H → (∀ y H', Same H H' → R i y H' → Qc y H') → g x (wipe σ vs) H fun σ2 H2 => wipe σ2 vs = wipe σ vs ∧ tYes σ2 H2 fun b H3 => if b = true then te σ2 H3 Qc else Qn H3)
    (hd : ∀ ys H, Same H1 H → H D = some (.lst ys) → ys.length = xs.length → (∀ (i : Nat) (y : V), ys[i]? = some y → R i y H) → Qd H) :
    ∃ W : Nat → Nat → Hp → Prop, (∃ m, W 0 m (upd H1 D (.lst []))) ∧ ∀ i m H, W i m H →
      (J.stop i H ∧ Qd H) ∨ (J.go i H ∧ ∃ Nx : Hp → Prop, (∀ H', Nx H' → ∃ m', m' < m ∧ W (i + 1) m' H') ∧ ∀ x H', J.yld i H x H' → g x (wipe σ vs) H' fun σ2 H2 => wipe σ2 vs = wipe σ vs ∧ tYes σ2 H2 fun b H3 =>
        if b = true then te σ2 H3 fun y H4 => ∃ acc, H4 D = some (.lst acc) ∧ acc.length < sizeLine ∧ Nx (upd H4 D (.lst (acc ++ [y]))) else Nx H3) := by
  refine lc_seq S (fun i H => Same H1 H ∧ ∃ ys, H D = some (.lst ys) ∧ ys.length = i ∧ i ≤ xs.length ∧ ∀ (j : Nat) (y : V), ys[j]? = some y → R j y H) ?_ ?_ ?_ ?_
  · exact ⟨Same.upd hD, [], upd_same, rfl, Nat.zero_le _, fun j y h => by simp at h⟩
  · rintro i H ⟨s, _⟩
    exact hs H s
  · rintro i x H hx ⟨s, ys, hy, hl, hi, hR⟩
    refine turn i x H _ _ hx s fun y H' s' r => ?_
    have hi' : i < xs.length := (List.getElem?_eq_some_iff.mp hx).1
    have hy' := s' _ _ hy
    refine ⟨ys, hy', sz_lt (by omega), Same.mut (s.trans s') hD, ys ++ [y], upd_same, by rw [List.length_append, hl]; rfl, hi', fun j u hu => ?_⟩
    have up : SameT K H' (upd H' D (.lst (ys ++ [y]))) := sameT_lst hy'
    by_cases hj : j < ys.length
    · rw [List.getElem?_append_left hj] at hu
      exact mono up (mono (smT s') (hR j u hu))
    · have ej : j = i := by
        have h1 := (List.getElem?_eq_some_iff.mp hu).1
        rw [List.length_append] at h1
        simp at h1
        omega
      subst ej
      rw [List.getElem?_append_right (by omega), hl, Nat.sub_self] at hu
      have e2 : y = u := Option.some.inj hu
      subst e2
      exact mono up r
  · rintro H ⟨s, ys, hy, hl, _, hR⟩
    exact hd ys H s hy hl hR
/-- [f(x) for x in xs if p(x)] -/
theorem lc_fm (p : V → Bool) (f : V → V) {J : It} {ok : Hp → Prop} (S : Sqn J xs ok) (hs : ∀ H, Same H1 H → ok H) (hz : xs.length < 100000) (hD : H1 D = none)
    (turn : ∀ (i : Nat) (x : V) (H : Hp) (Qc : VK) (Qn : Hp → Prop), xs[i]? = some x → Same H1 H → (p x = true → ∀ H', Same H H' → Qc (f x) H') → (p x = false → ∀ H', Same H H' → Qn H') → g x (wipe σ vs) H fun σ2 H2 => wipe σ2 vs = wipe σ vs ∧ tt σ2 H2 fun b H3 => if b = true then te σ2 H3 Qc else Qn H3)
    (hd : ∀ H, Same H1 H → H D = some (.lst ((xs.filter p).map f)) → Qd H) :
    ∃ W : Nat → Nat → Hp → Prop, (∃ m, W 0 m (upd H1 D (.lst []))) ∧ ∀ i m H, W i m H →
      (J.stop i H ∧ Qd H) ∨ (J.go i H ∧ ∃ Nx : Hp → Prop, (∀ H', Nx H' → ∃ m', m' < m ∧ W (i + 1) m' H') ∧ ∀ x H', J.yld i H x H' → g x (wipe σ vs) H' fun σ2 H2 => wipe σ2 vs = wipe σ vs ∧ tt σ2 H2 fun b H3 =>
        if b = true then te σ2 H3 fun y H4 => ∃ acc, H4 D = some (.lst acc) ∧ acc.length < sizeLine ∧ Nx (upd H4 D (.lst (acc ++ [y]))) else Nx H3) := by
  refine lc_seq S (fun i H => Same H1 H ∧ i ≤ xs.length ∧ H D = some (.lst (((xs.take i).filter p).map f))) ?_ ?_ ?_ ?_
  · exact ⟨Same.upd hD, Nat.zero_le _, upd_same⟩
  · rintro i H ⟨s, _⟩
    exact hs H s
  · rintro i x H hx ⟨s, hi, hy⟩
    have hi' : i < xs.length := (List.getElem?_eq_some_iff.mp hx).1
    have hl : (((xs.take i).filter p).map f).length < 100000 := by
      rw [List.length_map]
      have h1 := List.length_filter_le p (xs.take i)
      rw [List.length_take] at h1
      omega
    refine turn i x H _ _ hx s (fun hp H' s' => ⟨_, s' _ _ hy, sz_lt hl, Same.mut (s.trans s') hD, hi', ?_⟩) (fun hp H' s' => ⟨s.trans s', hi', ?_⟩)
    · rw [take_snoc hx, List.filter_append, List.map_append, List.filter_cons_of_pos hp]
      exact upd_same
    · rw [take_snoc hx, List.filter_append, List.map_append, List.filter_cons_of_neg (by rw [hp]; decide)]
      have e := s' _ _ hy
      rw [e]
      simp
  · rintro H ⟨s, _, hy⟩
    rw [List.take_length] at hy
    exact hd H s hy
end
/-- a list of Trues -/
theorem all_true {ys : List V} {n : Nat} (hl : ys.length = n) (h : ∀ (i : Nat) (y : V), ys[i]? = some y → y = .bl true) : ys = (List.replicate n true).map V.bl := by
  rw [List.map_replicate]
  exact List.eq_replicate_iff.mpr ⟨hl, fun y hy => by
    obtain ⟨i, hi, e⟩ := List.getElem_of_mem hy
    exact h i y (by rw [List.getElem?_eq_getElem hi, e])⟩
/-! ### isinstance, things, pairs -/
section
variable {K : PySem.W.Frag} {σ : L2.St} {H H' : Hp} {Q : VK} {x v : V} {a p : Addr} {xs ys : List V} {m l : Int} {c b : Bool}
theorem i_eqI (h : Q (.bl (decide (m = l))) H) : rEq (.int m) (.int l) H Q := ⟨rfl, by
  have e : decide (V.int m = V.int l) = decide (m = l) := by
    by_cases h : m = l
    · subst h; simp
    · rw [decide_eq_false h, decide_eq_false (fun q => h (V.int.inj q))]
  rw [e]; exact h⟩
theorem i_neI (h : Q (.bl (!decide (m = l))) H) : rNe (.int m) (.int l) H Q := ⟨rfl, by
  have e : decide (V.int m = V.int l) = decide (m = l) := by
    by_cases h : m = l
    · subst h; simp
    · rw [decide_eq_false h, decide_eq_false (fun q => h (V.int.inj q))]
  rw [e]; exact h⟩
theorem i_isi {T : String} {y : String} {r : Bool} (ty : TyX K H x (.type T)) (kb : kitB T y = some r) (h : Q (.bl r) H) : rIsi K [x, .ty y] H Q := ⟨x, .ty y, .type T, .type y, r, rfl, .ty y, ty, kit_ty kb, h⟩
theorem ty_int : TyX K H (.int m) (.type "int") := .base (.int m)
theorem ty_list (h : H p = some (.lst xs)) : TyX K H (.ref p) (.type "list") := .base (.lst h)
theorem ty_sqL (h : SqL K H p xs) : TyX K H (.ref p) (.type "list") := by
  rcases h with (h | ⟨o, h⟩) | ⟨o, its, n, h1, h2, _⟩
  · exact .base (.lst h)
  · exact .base (.frz h)
  · exact .kList h1 h2
theorem ty_sqT (h : SqT K H p xs) : TyX K H (.ref p) (.type "tuple") := by
  rcases h with (h | ⟨o, h⟩) | ⟨o, its, n, h1, h2, _⟩
  · exact .base (.tup h)
  · exact .fTuple h
  · exact .kTuple h1 h2
/-- v is a tuple of these three lengths -/
def IsT (K : PySem.W.Frag) (H : Hp) (v : V) (t : T3) : Prop := ∃ p, v = .ref p ∧ SqT K H p [.int t.1, .int t.2.1, .int t.2.2]
/-- v is a pair of whole numbers -/
def IsP (K : PySem.W.Frag) (H : Hp) (v : V) (t : Int × Int) : Prop := ∃ p, v = .ref p ∧ SqT K H p [.int t.1, .int t.2]
theorem IsT.mono {t : T3} (e : SameT K H H') (h : IsT K H v t) : IsT K H' v t := let ⟨p, e1, h1⟩ := h; ⟨p, e1, e _ _ h1⟩
theorem IsP.mono {t : Int × Int} (e : SameT K H H') (h : IsP K H v t) : IsP K H' v t := let ⟨p, e1, h1⟩ := h; ⟨p, e1, e _ _ h1⟩
/-- item by item -/
structure All2 {α β : Type} (R : α → β → Prop) (xs : List α) (ys : List β) : Prop where
  len : xs.length = ys.length
  get : ∀ (i : Nat) (x : α) (y : β), xs[i]? = some x → ys[i]? = some y → R x y
theorem All2.mono {α β : Type} {R R' : α → β → Prop} {xs : List α} {ys : List β} (f : ∀ x y, R x y → R' x y) (h : All2 R xs ys) : All2 R' xs ys := ⟨h.len, fun i x y a b => f x y (h.get i x y a b)⟩
theorem All2.nil {α β : Type} {R : α → β → Prop} : All2 R [] [] := ⟨rfl, fun i x y h => by simp at h⟩
theorem All2.at_ {α β : Type} {R : α → β → Prop} {xs : List α} {ys : List β} (h : All2 R xs ys) {i : Nat} {y : β} (e : ys[i]? = some y) : ∃ x, xs[i]? = some x ∧ R x y := by
  have hi : i < xs.length := by rw [h.len]; exact (List.getElem?_eq_some_iff.mp e).1
  exact ⟨xs[i], List.getElem?_eq_getElem hi, h.get i _ _ (List.getElem?_eq_getElem hi) e⟩
theorem All2.at' {α β : Type} {R : α → β → Prop} {xs : List α} {ys : List β} (h : All2 R xs ys) {i : Nat} {x : α} (e : xs[i]? = some x) : ∃ y, ys[i]? = some y ∧ R x y := by
  have hi : i < ys.length := by rw [← h.len]; exact (List.getElem?_eq_some_iff.mp e).1
  exact ⟨ys[i], List.getElem?_eq_getElem hi, h.get i _ _ e (List.getElem?_eq_getElem hi)⟩
theorem All2.snoc {α β : Type} {R : α → β → Prop} {xs : List α} {ys : List β} {x : α} {y : β} (h : All2 R xs ys) (r : R x y) : All2 R (xs ++ [x]) (ys ++ [y]) := by
  refine ⟨by rw [List.length_append, List.length_append, h.len]; rfl, fun i z u h1 h2 => ?_⟩
  by_cases hi : i < xs.length
  · rw [List.getElem?_append_left hi] at h1
    rw [List.getElem?_append_left (by rw [← h.len]; exact hi)] at h2
    exact h.get i z u h1 h2
  · have k1 := (List.getElem?_eq_some_iff.mp h1).1
    rw [List.length_append, List.length_singleton] at k1
    have e : i = xs.length := by omega
    subst e
    rw [List.getElem?_append_right (Nat.le_refl _), Nat.sub_self] at h1
    rw [List.getElem?_append_right (by rw [h.len]; exact Nat.le_refl _), h.len, Nat.sub_self] at h2
    cases h1
    cases h2
    exact r
theorem All2.set {α β : Type} {R : α → β → Prop} {xs : List α} {ys : List β} {x : α} {y : β} {k : Nat} (h : All2 R xs ys) (r : R x y) : All2 R (xs.set k x) (ys.set k y) := by
  refine ⟨by rw [List.length_set, List.length_set, h.len], fun i z u h1 h2 => ?_⟩
  by_cases hi : k = i
  · subst hi
    rw [List.getElem?_set] at h1 h2
    rw [if_pos rfl] at h1 h2
    split at h1
    · split at h2
      · cases h1; cases h2; exact r
      · cases h2
    · cases h1
  · rw [List.getElem?_set_ne hi] at h1 h2
    exact h.get i z u h1 h2
theorem All2.rep {α β : Type} {R : α → β → Prop} {x : α} {y : β} (n : Nat) (r : R x y) : All2 R (List.replicate n x) (List.replicate n y) := by
  refine ⟨by rw [List.length_replicate, List.length_replicate], fun i z u h1 h2 => ?_⟩
  have hi : i < n := by
    have := (List.getElem?_eq_some_iff.mp h1).1
    rwa [List.length_replicate] at this
  rw [List.getElem?_replicate, if_pos hi] at h1 h2
  cases h1
  cases h2
  exact r
theorem All2.take {α β : Type} {R : α → β → Prop} {xs : List α} {ys : List β} (h : All2 R xs ys) (n : Nat) : All2 R (xs.take n) (ys.take n) := by
  refine ⟨by rw [List.length_take, List.length_take, h.len], fun i x y h1 h2 => ?_⟩
  rw [List.getElem?_take] at h1 h2
  split at h1
  · exact h.get i x y h1 (by rw [if_pos (by assumption)] at h2; exact h2)
  · cases h1
theorem All2.drop {α β : Type} {R : α → β → Prop} {xs : List α} {ys : List β} (h : All2 R xs ys) (n : Nat) : All2 R (xs.drop n) (ys.drop n) := by
  refine ⟨by rw [List.length_drop, List.length_drop, h.len], fun i x y h1 h2 => ?_⟩
  rw [List.getElem?_drop] at h1 h2
  exact h.get _ x y h1 h2
theorem All2.app {α β : Type} {R : α → β → Prop} {xs xs' : List α} {ys ys' : List β} (h : All2 R xs ys) (h' : All2 R xs' ys') : All2 R (xs ++ xs') (ys ++ ys') := by
  refine ⟨by rw [List.length_append, List.length_append, h.len, h'.len], fun i x y h1 h2 => ?_⟩
  by_cases hi : i < xs.length
  · rw [List.getElem?_append_left hi] at h1
    rw [List.getElem?_append_left (by rw [← h.len]; exact hi)] at h2
    exact h.get i x y h1 h2
  · rw [List.getElem?_append_right (by omega)] at h1
    rw [List.getElem?_append_right (by rw [← h.len]; omega), ← h.len] at h2
    exact h'.get _ x y h1 h2
theorem All2.rev {α β : Type} {R : α → β → Prop} {xs : List α} {ys : List β} (h : All2 R xs ys) : All2 R xs.reverse ys.reverse := by
  refine ⟨by rw [List.length_reverse, List.length_reverse, h.len], fun i x y h1 h2 => ?_⟩
  have hi : i < xs.length := by
    have := (List.getElem?_eq_some_iff.mp h1).1
    rwa [List.length_reverse] at this
  rw [List.getElem?_reverse hi] at h1
  rw [List.getElem?_reverse (by rw [← h.len]; exact hi), ← h.len] at h2
  exact h.get _ x y h1 h2
abbrev ThL (K : PySem.W.Frag) (H : Hp) (vs : List V) (ts : List T3) : Prop := All2 (IsT K H) vs ts
abbrev PrL (K : PySem.W.Frag) (H : Hp) (vs : List V) (ps : List (Int × Int)) : Prop := All2 (IsP K H) vs ps
theorem ThL.mono {ts : List T3} (e : SameT K H H') (h : ThL K H xs ts) : ThL K H' xs ts := All2.mono (fun _ _ r => r.mono e) h
theorem PrL.mono {ps : List (Int × Int)} (e : SameT K H H') (h : PrL K H xs ps) : PrL K H' xs ps := All2.mono (fun _ _ r => r.mono e) h
/-- at a stands a list of things -/
def Things (K : PySem.W.Frag) (H : Hp) (a : Addr) (ts : List T3) : Prop := ∃ vs, SqL K H a vs ∧ ThL K H vs ts
theorem Things.mono {ts : List T3} (e : Same H H') (h : Things K H a ts) : Things K H' a ts := let ⟨vs, h1, h2⟩ := h; ⟨vs, e.seq h1, ThL.mono (smT e) h2⟩
theorem Things.at_ {ts : List T3} {k : Nat} {t : T3} (h : Things K H a ts) (e : ts[k]? = some t) : ∃ vs p, SqL K H a vs ∧ atI vs (k : Int) = some (.ref p) ∧ SqT K H p [.int t.1, .int t.2.1, .int t.2.2] := by
  obtain ⟨vs, h1, h2⟩ := h
  obtain ⟨x, ex, p, rfl, hp⟩ := h2.at_ e
  exact ⟨vs, p, h1, atI_nat ex, hp⟩
/-- things[k] -/
theorem i_thing {ts : List T3} {k : Nat} {t : T3} (h : Things K H a ts) (e : ts[k]? = some t) (q : ∀ p, SqT K H p [.int t.1, .int t.2.1, .int t.2.2] → Q (.ref p) H) : rIxL K (.ref a) (.int (k : Int)) H Q := by
  obtain ⟨vs, p, h1, h2, h3⟩ := h.at_ e
  exact i_ixL h1 h2 (q p h3)
theorem zs_at {os : List Nat} {i : Nat} {x : V} (h : ((zs os).map V.int)[i]? = some x) : ∃ k, os[i]? = some k ∧ x = .int (k : Int) := by
  unfold zs at h
  rw [List.map_map, List.getElem?_map] at h
  cases e : os[i]? with
  | none => rw [e] at h; cases h
  | some k => rw [e] at h; exact ⟨k, rfl, (Option.some.inj h).symm⟩
theorem zs_len' (os : List Nat) : ((zs os).map V.int).length = os.length := by rw [List.length_map, zs_len]
end
/-! ### calls of built-ins, their relations by names -/
def rLenB (K : PySem.W.Frag) : List V → Hp → VK → Prop := fun xs H Q => ∃ p ys, xs = [.ref p] ∧ (SqL K H p ys ∨ SqT K H p ys) ∧ Q (.int ys.length) H
def rMax2 : List V → Hp → VK → Prop := fun xs H Q => ∃ i j, xs = [.int i, .int j] ∧ Q (.int (if j > i then j else i)) H
def rListB (K : PySem.W.Frag) : List V → Hp → VK → Prop := fun xs H Q => ∃ p ys, xs = [.ref p] ∧ (SqL K H p ys ∨ SqT K H p ys) ∧ ∀ l, H l = none → Q (.ref l) (upd H l (.lst ys))
def rIns : V → List V → Hp → VK → Prop := fun x vs H Q => ∃ (l : Addr) (xs : List V) (i : Int) (y : V), x = .ref l ∧ vs = [.int i, y] ∧ H l = some (.lst xs) ∧ xs.length < sizeLine ∧ 0 ≤ i ∧ i < 2 ^ 63 ∧ Q .non (upd H l (.lst (xs.take i.toNat ++ [y] ++ xs.drop i.toNat)))
section
variable {X : Cx}
theorem cb_len : CallR X (.builtin "len") (rLenB X.K) := call_len_seq
theorem cb_max2 (hc : X.calm = true) : CallR X (.builtin "max") rMax2 := call_max2 hc
theorem cb_list : CallR X (.type "list") (rListB X.K) := call_list_of
theorem mt_ins : MtR X "list.insert" rIns := mt_insert
end
section
variable {K : PySem.W.Frag} {H : Hp} {Q : VK} {a p : Addr} {xs : List V} {v : V} {m l : Int} {n : Nat}
theorem i_lenL (hs : SqL K H p xs) (h : Q (.int xs.length) H) : rLenB K [.ref p] H Q := ⟨p, xs, rfl, .inl hs, h⟩
theorem i_lenT (hs : SqT K H p xs) (h : Q (.int xs.length) H) : rLenB K [.ref p] H Q := ⟨p, xs, rfl, .inr hs, h⟩
theorem i_lenThings {ts : List T3} (hT : Things K H a ts) (h : Q (.int ts.length) H) : rLenB K [.ref a] H Q := by
  obtain ⟨vs, h1, h2⟩ := hT
  exact ⟨a, vs, rfl, .inl h1, by rw [h2.len]; exact h⟩
theorem i_max2 (h : Q (.int (gr m l)) H) : rMax2 [.int m, .int l] H Q := ⟨m, l, rfl, h⟩
theorem i_listL (hs : SqL K H p xs) (h : ∀ l H', H l = none → Same H H' → H' l = some (.lst xs) → Q (.ref l) H') : rListB K [.ref p] H Q := ⟨p, xs, rfl, .inl hs, i_new h⟩
theorem i_ins {i : Nat} (hp : H p = some (.lst xs)) (hz : xs.length < 100000) (e : m = (i : Int)) (hi : i ≤ 100000) (h : Q .non (upd H p (.lst (xs.take i ++ [v] ++ xs.drop i)))) : rIns (.ref p) [.int m, v] H Q := by
  subst e
  exact ⟨p, xs, _, v, rfl, rfl, hp, sz_lt hz, by omega, by omega, h⟩
theorem i_all {bs : List Bool} (hs : SqL K H a (bs.map V.bl)) (h : Q (.bl (bs.all id)) H) : rAll K [.ref a] H Q := ⟨a, bs, rfl, hs, h⟩
theorem i_any {bs : List Bool} (hs : SqL K H a (bs.map V.bl)) (h : Q (.bl (bs.any id)) H) : rAny K [.ref a] H Q := ⟨a, bs, rfl, hs, h⟩
theorem i_sum {ns : List Int} (hs : SqL K H a (ns.map V.int)) (h : Q (.int ns.sum) H) : rSum K [.ref a] H Q := ⟨a, ns, rfl, hs, h⟩
theorem i_allT {n : Nat} (hs : H a = some (.lst ((List.replicate n true).map V.bl))) (h : Q (.bl true) H) : rAll K [.ref a] H Q := i_all (bs := List.replicate n true) (SqL.of hs) (by
  have e : (List.replicate n true).all id = true := List.all_eq_true.mpr fun b hb => (List.mem_replicate.mp hb).2
  rw [e]; exact h)
/-- sorted of whole numbers -/
theorem i_sortI {ns : List Int} (hs : SqL K H a (ns.map V.int)) (h : ∀ (ns' : List Int) (p : Addr) (H' : Hp), ns'.Perm ns → ns'.Pairwise (· ≤ ·) → H p = none → Same H H' → H' p = some (.lst (ns'.map V.int)) → Q (.ref p) H') : rSortedI K [.ref a] H Q :=
  ⟨a, ns, rfl, hs, fun ns' p h1 h2 np => h ns' p _ h1 h2 np (Same.upd np) upd_same⟩
/-- list(range(n)) -/
def kRg (Q : VK) : VK := fun x H1 => ∃ m, x = .int m ∧ RgOk 0 m ∧ ∀ q, H1 q = none → Q (.ref q) (upd H1 q (.lst (rgV 0 m)))
theorem i_listRg {te : TE} {σ : L2.St} (h : te σ H (kRg Q)) : tLstRg (tRg1 te) σ H Q := h
theorem i_rg (e : m = (n : Int)) (hn : n ≤ 100000) (h : ∀ q H', H q = none → Same H H' → H' q = some (.lst ((rg n).map V.int)) → Q (.ref q) H') : kRg Q (.int m) H := by
  subst e
  refine ⟨(n : Int), rfl, RgOk.of_le (by omega) (by omega) (by omega) (by omega), fun q hq => h q _ hq (Same.upd hq) ?_⟩
  have e : rgV 0 (n : Int) = (rg n).map V.int := by
    unfold rgV rg zs
    rw [List.map_map]
    have e1 : ((n : Int) - 0).toNat = n := by omega
    rw [e1]
    refine List.map_congr_left fun k _ => ?_
    show V.int (0 + (k : Int)) = V.int (k : Int)
    rw [Int.zero_add]
  rw [e]
  exact upd_same
/-- == and != of data -/
theorem i_eqD {x y : V} {d e : PyData} (h1 : Dp K H x d) (h2 : Dp K H y e) (s1 : SeqAt.shaped d = true) (s2 : SeqAt.shaped e = true) (h : Q (.bl (PyData.eqv d e)) H) : rEqD K x y H Q := ⟨d, e, h1, h2, s1, s2, h⟩
theorem i_neD {x y : V} {d e : PyData} (h1 : Dp K H x d) (h2 : Dp K H y e) (s1 : SeqAt.shaped d = true) (s2 : SeqAt.shaped e = true) (h : Q (.bl (!PyData.eqv d e)) H) : rNeD K x y H Q := ⟨d, e, h1, h2, s1, s2, h⟩
end
/-! ### data: lists of whole numbers, lists of tuples of such -/
def sOk (n : Nat) (d : PyData) : Prop := d.canLay0 = true ∧ d.depth ≤ n
theorem sok_all {n : Nat} : ∀ {ds : List PyData}, (∀ x ∈ ds, sOk n x) → PyData.canLayAll0 ds = true ∧ PyData.depthAll ds ≤ n
  | [], _ => ⟨by simp [PyData.canLayAll0], by simp [PyData.depthAll]⟩
  | d :: ds, h => by
    have h1 := h d List.mem_cons_self
    have h2 := sok_all fun x hx => h x (List.mem_cons_of_mem d hx)
    refine ⟨?_, ?_⟩
    · rw [PyData.canLayAll0, h1.1, h2.1]; rfl
    · rw [PyData.depthAll]
      exact Nat.max_le.mpr ⟨h1.2, h2.2⟩
theorem sok_list {n : Nat} {ds : List PyData} (h : ∀ x ∈ ds, sOk n x) : sOk (n + 1) (.list ds) := by
  have h2 := sok_all h
  exact ⟨by rw [PyData.canLay0]; exact h2.1, by rw [PyData.depth]; exact Nat.succ_le_succ h2.2⟩
theorem sok_tup {n : Nat} {ds : List PyData} (h : ∀ x ∈ ds, sOk n x) : sOk (n + 1) (.tuple ds) := by
  have h2 := sok_all h
  exact ⟨by rw [PyData.canLay0]; exact h2.1, by rw [PyData.depth]; exact Nat.succ_le_succ h2.2⟩
theorem sok_int (n : Nat) (i : Int) : sOk n (.int i) := ⟨rfl, Nat.zero_le _⟩
theorem sok_shaped {n : Nat} {d : PyData} (h : sOk n d) (hn : n ≤ 64) : SeqAt.shaped d = true := by
  unfold SeqAt.shaped
  rw [h.1, Bool.true_and, decide_eq_true_eq]
  exact Nat.le_trans h.2 hn
theorem eqv_map {α : Type} [DecidableEq α] (f : α → PyData) (hf : ∀ x y, PyData.eqv (f x) (f y) = decide (x = y)) : ∀ a b : List α, PyData.eqvAll (a.map f) (b.map f) = decide (a = b)
  | [], [] => by simp [PyData.eqvAll]
  | [], _ :: _ => by simp [PyData.eqvAll]
  | _ :: _, [] => by simp [PyData.eqvAll]
  | x :: a, y :: b => by
    rw [List.map_cons, List.map_cons, PyData.eqvAll, hf, eqv_map f hf a b]
    by_cases h : x = y
    · subst h
      simp
    · simp [h]
theorem eqv_int (x y : Int) : PyData.eqv (.int x) (.int y) = decide (x = y) := by
  rw [PyData.eqv]
  exact Bool.beq_eq_decide_eq x y
theorem eqv_list (a b : List PyData) : PyData.eqv (.list a) (.list b) = PyData.eqvAll a b := by rw [PyData.eqv]
theorem eqv_tuple (a b : List PyData) : PyData.eqv (.tuple a) (.tuple b) = PyData.eqvAll a b := by rw [PyData.eqv]
def dI (ns : List Int) : PyData := .list (ns.map PyData.int)
theorem eqv_dI (a b : List Int) : PyData.eqv (dI a) (dI b) = decide (a = b) := by
  unfold dI
  rw [eqv_list, eqv_map _ eqv_int]
theorem sok_dI (ns : List Int) : sOk 1 (dI ns) := sok_list fun x hx => by
  obtain ⟨n, _, rfl⟩ := List.mem_map.mp hx
  exact sok_int 0 n
theorem shaped_dI (ns : List Int) : SeqAt.shaped (dI ns) = true := sok_shaped (sok_dI ns) (by decide)
/-- a triple, a pair as data -/
def d3 (t : T3) : PyData := .tuple [.int t.1, .int t.2.1, .int t.2.2]
def d2 (t : Int × Int) : PyData := .tuple [.int t.1, .int t.2]
theorem eqv_d3 (x y : T3) : PyData.eqv (d3 x) (d3 y) = decide (x = y) := by
  obtain ⟨a, b, c⟩ := x
  obtain ⟨d, e, f⟩ := y
  have h := eqv_map PyData.int eqv_int [a, b, c] [d, e, f]
  show PyData.eqv (.tuple [.int a, .int b, .int c]) (.tuple [.int d, .int e, .int f]) = _
  rw [eqv_tuple]
  refine h.trans ?_
  simp [Prod.mk.injEq]
theorem eqv_d2 (x y : Int × Int) : PyData.eqv (d2 x) (d2 y) = decide (x = y) := by
  obtain ⟨a, b⟩ := x
  obtain ⟨d, e⟩ := y
  have h := eqv_map PyData.int eqv_int [a, b] [d, e]
  show PyData.eqv (.tuple [.int a, .int b]) (.tuple [.int d, .int e]) = _
  rw [eqv_tuple]
  refine h.trans ?_
  simp [Prod.mk.injEq]
def dT (ts : List T3) : PyData := .list (ts.map d3)
def dP (ps : List (Int × Int)) : PyData := .list (ps.map d2)
theorem eqv_dT (a b : List T3) : PyData.eqv (dT a) (dT b) = decide (a = b) := by
  unfold dT
  rw [eqv_list, eqv_map _ eqv_d3]
theorem eqv_dP (a b : List (Int × Int)) : PyData.eqv (dP a) (dP b) = decide (a = b) := by
  unfold dP
  rw [eqv_list, eqv_map _ eqv_d2]
theorem sok_dT (ts : List T3) : sOk 2 (dT ts) := sok_list fun x hx => by
  obtain ⟨t, _, rfl⟩ := List.mem_map.mp hx
  exact sok_tup fun y hy => by
    rcases List.mem_cons.mp hy with rfl | hy
    · exact sok_int 0 _
    · rcases List.mem_cons.mp hy with rfl | hy
      · exact sok_int 0 _
      · rcases List.mem_cons.mp hy with rfl | hy
        · exact sok_int 0 _
        · cases hy
theorem sok_dP (ts : List (Int × Int)) : sOk 2 (dP ts) := sok_list fun x hx => by
  obtain ⟨t, _, rfl⟩ := List.mem_map.mp hx
  exact sok_tup fun y hy => by
    rcases List.mem_cons.mp hy with rfl | hy
    · exact sok_int 0 _
    · rcases List.mem_cons.mp hy with rfl | hy
      · exact sok_int 0 _
      · cases hy
theorem shaped_dT (ts : List T3) : SeqAt.shaped (dT ts) = true := sok_shaped (sok_dT ts) (by decide)
theorem shaped_dP (ts : List (Int × Int)) : SeqAt.shaped (dP ts) = true := sok_shaped (sok_dP ts) (by decide)
section
variable {K : PySem.W.Frag} {H : Hp} {p : Addr} {v : V}
theorem dpAll_ints : ∀ ns : List Int, DpAll K H (ns.map V.int) (ns.map PyData.int)
  | [] => .nil
  | n :: ns => .cons (.int n) (dpAll_ints ns)
theorem dp_ints {ns : List Int} (h : SqL K H p (ns.map V.int)) : Dp K H (.ref p) (dI ns) := .lst h (dpAll_ints ns)
theorem dpAll_of {α : Type} {R : V → α → Prop} {f : α → PyData} (hf : ∀ v x, R v x → Dp K H v (f x)) : ∀ {vs : List V} {xs : List α}, All2 R vs xs → DpAll K H vs (xs.map f)
  | [], [], _ => .nil
  | [], _ :: _, h => absurd h.len (by simp)
  | _ :: _, [], h => absurd h.len (by simp)
  | v :: vs, x :: xs, h => .cons (hf v x (h.get 0 v x rfl rfl)) (dpAll_of hf ⟨by have := h.len; simpa using this, fun i y z h1 h2 => h.get (i + 1) y z (by simpa using h1) (by simpa using h2)⟩)
theorem dp_d3 {t : T3} (h : IsT K H v t) : Dp K H v (d3 t) := by
  obtain ⟨p, rfl, hp⟩ := h
  exact .tup hp (.cons (.int _) (.cons (.int _) (.cons (.int _) .nil)))
theorem dp_d2 {t : Int × Int} (h : IsP K H v t) : Dp K H v (d2 t) := by
  obtain ⟨p, rfl, hp⟩ := h
  exact .tup hp (.cons (.int _) (.cons (.int _) .nil))
theorem dp_things {ts : List T3} (h : Things K H p ts) : Dp K H (.ref p) (dT ts) := by
  obtain ⟨vs, h1, h2⟩ := h
  exact .lst h1 (dpAll_of (f := d3) (fun _ _ => dp_d3) h2)
theorem dp_pairs {vs : List V} {ps : List (Int × Int)} (h1 : SqL K H p vs) (h2 : PrL K H vs ps) : Dp K H (.ref p) (dP ps) := .lst h1 (dpAll_of (f := d2) (fun _ _ => dp_d2) h2)
end
/-! ### more steps -/
def kItc (R : It → Hp → Prop) : List V → Hp → Prop := fun vs H1 => ∃ (i j c : Int) (n : Nat), vs = [.int i, .int j, .int c] ∧ RgC i j c n ∧ R (Itc i c n) H1
def kRev (K : PySem.W.Frag) (Q : VK) : VK := fun x H1 => ∃ a xs, x = .ref a ∧ SqL K H1 a xs ∧ ∀ p, H1 p = none → Q (.ref p) (upd H1 p (.lst xs.reverse))
/-- a statement, then the rest, with a word between them -/
def tMid (t u : TS) : TS := fun D σ H => ∃ M : L2.St → Hp → Prop, t { D with nx := M } σ H ∧ ∀ σ' H', M σ' H' → u D σ' H'
section
variable {X : Cx}
theorem pss_mid {st : Stmt} {rest : List Stmt} {t u : TS} (h1 : PS X st t) (h2 : PSs X rest u) : PSs X (st :: rest) (tMid t u) := by
  refine ⟨fun pins s σ H D I h => ?_⟩
  obtain ⟨M, hm, hu⟩ := h
  refine wpAny_execs_cons (thn (h1.run pins s σ H { D with nx := M } I hm) fun f s1 q => ?_)
  cases f with
  | next =>
    obtain ⟨σ', H', I', q⟩ := q
    exact h2.run pins s1 σ' H' D I' (hu σ' H' q)
  | ret v => exact q
  | brk => exact q
  | cont => exact q
end
section
variable {K : PySem.W.Frag} {σ : L2.St} {H : Hp} {Q : VK} {D : Ends} {te : TE} {ts : TA} {a p q : Addr} {xs ys : List V} {R : It → Hp → Prop} {lo hi : Option Int}
theorem i_iRng3 (h : ts σ H (kItc R)) : iRng3 ts σ H R := h
theorem i_itc {i j c : Int} {n : Nat} (r : RgC i j c n) (h : R (Itc i c n) H) : kItc R [.int i, .int j, .int c] H := ⟨i, j, c, n, rfl, r, h⟩
theorem rg3 {m : Nat} (hm : m ≤ 63) : RgC 0 (m : Int) 3 ((m + 2) / 3) := by
  have k : ∀ m : Fin 64, Builtin.Range.small 0 (m.val : Int) 3 = true ∧ Builtin.Range.rangeSize 0 (m.val : Int) 3 = (((m.val + 2) / 3 : Nat) : Int) := by decide +kernel
  have z := k ⟨m, by omega⟩
  exact ⟨by decide, by decide, z.1, z.2⟩
theorem i_revL (h : te σ H (kRev K Q)) : tRevL K te σ H Q := h
theorem i_revk (hs : SqL K H a xs) (h : ∀ p H', H p = none → Same H H' → H' p = some (.lst xs.reverse) → Q (.ref p) H') : kRev K Q (.ref a) H := ⟨a, xs, rfl, hs, i_new h⟩
theorem i_slL (hs : SqL K H a xs) (h : ∀ p H', H p = none → Same H H' → H' p = some (.lst (cutV xs lo hi)) → Q (.ref p) H') : rSlL K (.ref a) lo hi H Q := ⟨a, xs, rfl, hs, i_new h⟩
theorem i_cat (h1 : H p = some (.lst xs)) (h2 : H q = some (.lst ys)) (hz : xs.length + ys.length ≤ 100000) (h : ∀ r H', H r = none → Same H H' → H' r = some (.lst (xs ++ ys)) → Q (.ref r) H') : rCat (.ref p) (.ref q) H Q := ⟨p, q, xs, ys, rfl, rfl, h1, h2, sz_le hz, i_new h⟩
theorem i_rep {v : V} {n : Nat} {m : Int} (h1 : H p = some (.lst [v])) (e : m = (n : Int)) (hz : n ≤ 100000) (h : ∀ r H', H r = none → Same H H' → H' r = some (.lst (List.replicate n v)) → Q (.ref r) H') : rRep (.ref p) (.int m) H Q := by
  subst e
  refine ⟨p, _, [v], rfl, rfl, h1, by omega, by omega, by rw [List.length_singleton, Int.toNat_natCast, Nat.one_mul]; exact sz_le hz, i_new fun r H' h1 h2 h3 => h r H' h1 h2 ?_⟩
  rw [h3, Int.toNat_natCast, List.flatten_replicate_singleton]
theorem i_mid {t u : TS} (M : L2.St → Hp → Prop) (h1 : t { D with nx := M } σ H) (h2 : ∀ σ' H', M σ' H' → u D σ' H') : tMid t u D σ H := ⟨M, h1, h2⟩
theorem cut_to (xs : List V) (k : Nat) : cutV xs none (some (k : Int)) = xs.take k := by
  unfold cutV
  rw [HT.sIx_none, HT.sIx_nat, List.drop_zero, Nat.sub_zero]
  by_cases h : k ≤ xs.length
  · rw [Nat.min_eq_left h]
  · rw [Nat.min_eq_right (by omega), List.take_length, List.take_of_length_le (by omega)]
theorem cut_from (xs : List V) (k : Nat) : cutV xs (some (k : Int)) none = xs.drop k := by
  unfold cutV
  rw [HT.sIx_none, HT.sIx_nat]
  by_cases h : k ≤ xs.length
  · rw [Nat.min_eq_left h, List.take_of_length_le (by rw [List.length_drop]; exact Nat.le_refl _)]
  · rw [Nat.min_eq_right (by omega), Nat.sub_self, List.take_zero, List.drop_of_length_le (by omega)]
theorem cut_mid (xs : List V) (i j : Nat) (h : i + j ≤ xs.length) : cutV xs (some (i : Int)) (some ((i + j : Nat) : Int)) = (xs.drop i).take j := by
  unfold cutV
  rw [HT.sIx_nat, HT.sIx_nat, Nat.min_eq_left (show i ≤ xs.length by omega), Nat.min_eq_left h, Nat.add_sub_cancel_left]
end
section
variable {σ : L2.St} {H : Hp} {Q : VK} {D : Ends} {t : TS} {g : TG}
theorem i_itdC {c : Prop} [Decidable c] {v1 v2 : V} (h : ∀ v, (v = v1 ∨ v = v2) → Q v H) : if decide c = true then tC v1 σ H Q else tC v2 σ H Q := i_itd (fun _ => h v1 (.inl rfl)) (fun _ => h v2 (.inr rfl))
/-- for k in range(n) -/
theorem for_rng {n : Nat} (Pv : Nat → L2.St → Hp → Prop) (h0 : Pv 0 σ H) (hs : ∀ (i : Nat) σ H, i < n → Pv i σ H → g (.int (i : Int)) σ H fun σ2 H2 => t { D with nx := Pv (i + 1), ct := Pv (i + 1), bk := D.nx } σ2 H2) (hd : ∀ σ H, Pv n σ H → D.nx σ H) :
    ∃ W : Nat → Nat → L2.St → Hp → Prop, (∃ m, W 0 m σ H) ∧ ∀ i m σ H, W i m σ H →
      ((Itr 0 n).stop i H ∧ D.nx σ H) ∨ ((Itr 0 n).go i H ∧ ∃ N : L2.St → Hp → Prop, (∀ σ' H', N σ' H' → ∃ m', m' < m ∧ W (i + 1) m' σ' H') ∧ ∀ x H', (Itr 0 n).yld i H x H' → g x σ H' fun σ2 H2 => t { D with nx := N, ct := N, bk := D.nx } σ2 H2) :=
  for_range (lo := 0) Pv h0 (fun i σ H hi p => by
    have e : (0 : Int) + (i : Int) = (i : Int) := Int.zero_add _
    rw [e]
    exact hs i σ H hi p) hd
theorem log_small {n : Nat} (h : n < 2 ^ 200) : n.log2 < 9000 := by
  by_cases h0 : n = 0
  · subst h0; decide
  · exact Nat.lt_trans ((Nat.log2_lt h0).mpr h) (by decide)
end
end Bp
/-! Benchpair: the set of a list of whole numbers, and such a set sorted, of up to some four thousand members. -/
namespace L2
open PySem PySem.Spec PyProof.Rows
/-- the set object that stands first -/
def bpNew (w : World) : Obj := { cls := .type "set", dict := none, data := .set #[] 0 (.fresh 0 0 (!w.params.followText "set-order")) }
def bpHp (w : World) (h : Heap) : Heap := h.push (bpNew w)
/-- what set.__init__ leaves -/
def BpMade (w : World) (s : Shared) (ns : List Int) (s₂ : Shared) : Prop := ∃ h' tk c, s₂ = { s with heap := h', toks := tk } ∧ SetR w h' s.heap.objs.size (fun j => decide (j ∈ ns)) c ∧ c ≤ ns.length ∧ ∀ b o, s.heap.get? b = some o → h'.get? b = some o
section
variable {P : Program} {w : World} {A : Around} {E : Value → Shared → Prop} {s : Shared}
theorem bp_init {l : Addr} {xs : Array Value} (ns : List Int) (hd : A.handled = none) (hx : s.heap.IsList l xs) (hi : IntsAre xs.toList ns) (room : ns.length + 1 < scanBound) :
    codeAny (model P w) A (.call (.builtin "set.__init__") ⟨[.ref s.heap.objs.size, .ref l], []⟩) (wants (fun r s₂ => r = .none ∧ BpMade w s ns s₂) E) { s with heap := bpHp w s.heap } := by
  have len : xs.size = ns.length := (Array.length_toList (xs := xs)).symm.trans (IntsAre.length hi)
  have me : (bpHp w s.heap).get? s.heap.objs.size = some (bpNew w) := Heap.get?_push_size _ rfl
  have ty : Shared.TypeIs { s with heap := bpHp w s.heap } (.ref s.heap.objs.size) "set" := ⟨_, me, rfl⟩
  refine codeAny_call_builtin F.called_set.init.plain F.entry_set_init (check_set_init_1 ty ?_)
  obtain ⟨o0, g0, k0, n0, d0⟩ := id hx
  obtain ⟨oc, od, oa, os⟩ := o0
  simp only at k0 d0
  subst k0
  subst d0
  have g1 : (bpHp w s.heap).get? l = some { cls := .type "list", dict := od, data := .seq xs n0, slots := os } := Heap.get?_push_of_some _ g0
  have hx1 : (bpHp w s.heap).IsList l xs := ⟨_, g1, rfl, n0, rfl⟩
  have z1 := F.sub_list_set
  have z2 := F.sub_list_frozenset
  have z3 : (Value.type "list" == Value.type "dict") = false := by decide
  unfold Builtin.«set.__init__» noKeywords Builtin.Frozenset.updateFrom
  generalize qq : pyIter = PI
  wp_walk
  subst qq
  refine wpAny_pyIter_list hx1 ?_
  refine wpAny_bind (wpAny_runValue ?_)
  have lts : l < s.heap.objs.size := Heap.lt_size g0
  have hd3 : A.in1.in1.handled = none := by simp [hd]
  have zs : (bpHp w s.heap).objs.size = s.heap.objs.size + 1 := Heap.size_push ..
  have ne1 : l ≠ (bpHp w s.heap).objs.size := by rw [zs]; exact Nat.ne_of_lt (Nat.lt_succ_of_lt lts)
  have out1 : s.heap.objs.size ∉ [(bpHp w s.heap).objs.size, l] := by
    rw [zs]
    intro hm
    rcases List.mem_cons.mp hm with hm | hm
    · exact Nat.ne_of_lt (Nat.lt_succ_self _) hm
    · exact Nat.ne_of_gt lts (List.mem_singleton.mp hm)
  have vals : ∀ (i : Nat) (v : Value), xs[i]? = some v → ∃ k t, ns[i]? = some k ∧ v = .int k t := fun i v hv => by
    have lt : i < ns.length := by rw [← len]; exact (Array.getElem?_eq_some_iff.mp hv).1
    obtain ⟨t, ht⟩ := IntsAre.int_at hi i v ((Array.getElem?_toList (xs := xs)).trans hv)
    refine ⟨ns[i], t, List.getElem?_eq_getElem lt, ht.trans ?_⟩
    rw [List.getD_eq_getElem?_getD, List.getElem?_eq_getElem lt]
    rfl
  refine set_update_ints ((Walks.list hd3 _ l ne1 xs).toS) s.heap.objs.size out1 ns len room vals (xs.size - 0) 0 _ rfl (Nat.zero_le _) ⟨⟨_, Heap.get?_push_size _ rfl, rfl, rfl⟩, hx1.push _⟩ ⟨0, Nat.le_refl 0, setR_new_at (Heap.get?_push_of_some _ me)⟩ fun s' c' hm hc' hS' => ?_
  obtain ⟨h', g', d', tk', os'⟩ := s'
  have q1 : g' = s.gens := hm.gens
  have q2 : d' = s.drawn := hm.drawn
  have q3 : os' = s.os := hm.os
  subst q1
  subst q2
  subst q3
  refine wpAny_pure ?_
  show wpAny _ _ (ret Value.none) _ _ _
  refine wpAny_pure ⟨rfl, h', tk', c', rfl, hS', (by rw [← len]; exact hc'), fun b o e => ?_⟩
  have b0 : b < s.heap.objs.size := Heap.lt_size e
  refine hm.heap b o (fun hb => ?_) (Heap.get?_push_of_some _ (Heap.get?_push_of_some _ e))
  rcases List.mem_cons.mp hb with hb | hb
  · exact Nat.ne_of_lt b0 hb
  · exact Nat.ne_of_lt (Nat.lt_succ_of_lt b0) ((List.mem_singleton.mp hb).trans zs)
theorem bp_set_list {l : Addr} {xs : Array Value} (ns : List Int) {Q : Value → Shared → Prop} (hd : A.handled = none) (hx : s.heap.IsList l xs) (hi : IntsAre xs.toList ns) (room : ns.length + 1 < scanBound)
    (h : ∀ s₂, BpMade w s ns s₂ → Q (.ref s.heap.objs.size) s₂) : wpAny (model P w) A (call (.type "set") [.ref l]) Q E s := by
  obtain ⟨c, tl, hmro⟩ := F.called_set.mro
  have q0 := F.called_set.made
  have q1 := F.called_set.sub
  refine wpAny_call (codeAny_of_tree ?_)
  show wpAny _ _ (callAny (.type "set") _) _ _ _
  refine wpAny_pure ⟨Code.quiet_builtin _ (by decide +kernel), codeAny_builtin F.entry_type_call ?_⟩
  rw [Around.under_plain (weight_type_call_type "set" [.ref l] []) rfl]
  have q2 := F.called_set.notType
  have q3 := F.called_set.canCreate
  have q4 := F.typeCall_set_1 (.ref l)
  repeat (any_goals (first | assumption | wp_step))
  refine codeAny_mono (code_set_led1 (.ref l) (E := E) (Q₁ := fun x s₁ => x = .ref s.heap.objs.size ∧ s₁ = { s with heap := bpHp w s.heap }) ⟨rfl, rfl⟩) fun r s₁ hr => ?_
  cases r with
  | error e => exact hr
  | ok fl =>
    cases fl with
    | ret obj =>
      obtain ⟨rfl, rfl⟩ := hr
      have me : (bpHp w s.heap).get? s.heap.objs.size = some (bpNew w) := Heap.get?_push_size _ rfl
      have ty : Shared.TypeIs { s with heap := bpHp w s.heap } (.ref s.heap.objs.size) "set" := ⟨_, me, rfl⟩
      have i1 := F.called_set.init.lookup
      have i2 := F.called_set.init.bind (.ref s.heap.objs.size)
      repeat (any_goals (first | assumption | wp_step))
      refine codeAny_mono (bp_init (E := E) ns (by simp [hd]) hx hi room) fun r₂ s₂ hr₂ => ?_
      cases r₂ with
      | error e => exact hr₂
      | ok fl₂ =>
        cases fl₂ with
        | ret r =>
          obtain ⟨rfl, hm⟩ := hr₂
          repeat (any_goals (first | assumption | wp_step))
          exact h _ hm
        | _ => exact hr₂.elim
    | _ => exact hr.elim
/-- sorted(set), of any size below the line -/
theorem bp_sorted_set {a : Addr} {S : Int → Bool} {n : Nat} {Q : Value → Shared → Prop} (R : SetR w s.heap a S n) (hd : A.handled = none)
    (q : ∀ s' p (out : List Value) (c : Nat) (ns : List Int), (∀ b o, s.heap.get? b = some o → s'.heap.get? b = some o) → s'.gens = s.gens → s'.os = s.os → s.heap.objs.size ≤ p →
      s'.heap.get? p = some (seqObj "list" out.toArray c) → IntsAre out ns → ns.Pairwise (· < ·) → (∀ k, k ∈ ns ↔ S k = true) → ns.length = n → n < scanBound → Q (.ref p) s') : wpAny (model P w) A (call (.builtin "sorted") [.ref a]) Q E s := by
  obtain ⟨o, es, ep, t, ho, hex, hdt, g, nd, hm, hb, hf, hn, hr, hl⟩ := R
  refine Calls.call_function_entry kind_sorted plain_sorted entry_sorted (args_sorted1 _) ?_
  unfold Builtin.«sorted»
  refine wpAny_bind (m := checkCount "sorted" 1 1 _) (wpAny_pure ?_)
  refine wpAny_bind (collect_set (A := A.in1) hd ⟨o, ho, hex.1, hdt⟩ hf hb hr hl fun s1 vs k1 hz g1 o1 pm => ?_)
  have lv : vs.length = n := (pm.length_eq.trans (by rw [List.length_map, Array.length_toList])).trans hn
  have mem : ∀ v ∈ vs, ∃ k tk, v = Value.int k tk := fun v hv => by
    obtain ⟨e, he, hq⟩ := List.mem_map.mp (pm.mem_iff.mp hv)
    obtain ⟨k, tk, h1, _⟩ := g e he
    exact ⟨k, tk, hq.symm.trans h1⟩
  have hI := SrtO.ints_iv mem
  have pk : (vs.map SrtO.iv).Perm (es.toList.map keyOf) := by
    have z := pm.map SrtO.iv
    rw [List.map_map] at z
    exact z
  have lz : vs.length ≤ sizeLine := by rw [lv, ← hn]; exact fits_of_scanBound hb
  refine wpAny_bind (wpAny_newList ?_ lz)
  have here : (s1.heap.push (seqObj "list" vs.toArray 0)).get? s1.heap.objs.size = some (seqObj "list" vs.toArray 0) := Heap.get?_push_size _ rfl
  refine wpAny_bind (wpAny_holding (wpAny_call_entry slot_list_sort ⟨_, here, rfl⟩ entry_list_sort (SrtO.list_sort_ord SrtO.swo_int here lz (fun h2 => SrtO.ints_sortable hI h2) fun out h1 h2 => ⟨_, rfl, ?_⟩) (args_list_sort _)))
  obtain ⟨a1, a2, a3⟩ := SrtO.ints_out hI h1 h2
  obtain ⟨c, hc⟩ := sortedHeap_at (vs := vs) (out := out.toArray) here
  have pn := a2.trans pk
  refine wpAny_pure ⟨_, rfl, q _ s1.heap.objs.size out c (out.map SrtO.iv) (fun b u e => ?_) g1 o1 hz hc a1 (lt_of_le_nodup _ a3 (pn.nodup_iff.mpr nd)) (fun k => (pn.mem_iff).trans (hm k).symm) ?_ (by rw [← hn]; exact hb)⟩
  · have e1 := k1 b u e
    have lt := Heap.lt_size e1
    exact (sortedHeap_old (Nat.ne_of_lt lt) (by rw [size_push']; exact Nat.lt_succ_of_lt lt)).trans (Heap.get?_push_of_some _ e1)
  · exact (pn.length_eq.trans (by rw [List.length_map, Array.length_toList])).trans hn
end
/-- set(xs) of a list of whole numbers -/
def rSetI (K : PySem.W.Frag) (w : World) : List V → Hp → VK → Prop := fun vs H Q => ∃ (a : Addr) (ns : List Int), vs = [V.ref a] ∧ SqL K H a (ns.map V.int) ∧ ns.length ≤ 1000 ∧
  ∀ (p : Addr) (c : Nat), H p = none → Q (.ref p) (upd H p (SetO w p (fun j => decide (j ∈ ns)) c))
/-- sorted(s) of such a set -/
def rSortS (w : World) : List V → Hp → VK → Prop := fun vs H Q => ∃ (a : Addr) (S : Int → Bool) (n : Nat), vs = [V.ref a] ∧ H a = some (SetO w a S n) ∧
  ∀ (ns : List Int) (p : Addr), ns.Pairwise (· < ·) → (∀ k : Int, k ∈ ns ↔ S k = true) → H p = none → Q (.ref p) (upd H p (.lst (ns.map V.int)))
section
variable {X : Cx}
theorem cr_setI (hc : X.calm = true) : CallR X (.type "set") (rSetI X.K X.w) := by
  intro pins s σ H vs us Q I r h
  obtain ⟨a, ns, rfl, hs, lz, q⟩ := h
  obtain ⟨its, rv, hl, hz⟩ := I.list hs
  rw [Vals.ref1 r]
  refine bp_set_list ns (I.ok.hd hc) hl.isList (by simpa using rv.ints) (by unfold scanBound; omega) fun s₂ hm => ?_
  obtain ⟨h', tk, c, rfl, R, _, k⟩ := hm
  exact ⟨.ref _, upd H s.heap.objs.size (SetO X.w s.heap.objs.size (fun j => decide (j ∈ ns)) c), I.laid (t' := tk) k (Nat.le_refl _) (setO_new R), rfl, q _ c (I.hok.fresh (Nat.le_refl _))⟩
theorem cr_sortS (hc : X.calm = true) : CallR X (.builtin "sorted") (rSortS X.w) := by
  intro pins s σ H vs us Q I r h
  obtain ⟨a, S, n, rfl, ha, q⟩ := h
  rw [Vals.ref1 r]
  refine bp_sorted_set (setO_get I ha) (I.ok.hd hc) fun s' p out c ns k g o hp hg hi hs hm hl hb => ?_
  have lz : (ns.map V.int).length ≤ sizeLine := by rw [List.length_map, hl]; exact fits_of_scanBound hb
  have np : H p = none := I.hok.fresh hp
  cases s' with
  | mk h1 g1 d1 t1 o1 =>
    cases g
    cases o
    have J : Inv X pins σ (upd H p (.lst (ns.map V.int))) { s with heap := h1, drawn := d1, toks := t1 } :=
      I.call (ch := []) (Un.laid k hp np) (I.hok.laid k hp ⟨lz, out, c, vals_of_ints hi, hg⟩) I.bare (fun _ z => nomatch z)
    exact ⟨.ref p, _, J, rfl, q ns p hs hm np⟩
end
end L2
/-! Benchpair: classes made, their methods, isinstance of own classes, is of truths. -/
namespace Bp
open PySem PySem.Spec PyProof.Rows L2
/-- a method of the text's class at C -/
structure DefM (K : PySem.W.Frag) (C : Addr) (m q : Str) (st : Stmt) (ps : List Str) : Prop where
  cls : Cls K C
  ex : ∃ (f : Addr) (fd : FuncData), FunD K m q (defArgs st) (defBody st) (defScope st) [] [] f fd ∧ Meth K C m f ∧ Binds K fd ps []
structure MetX (P : Program) (w : World) (K : PySem.W.Frag) (mg : Str → Option Value) (base : Heap) (k : Nat) (C : Addr) (m : Str) (sp : Sp) : Prop where
  ex : ∃ (f : Addr) (fd : FuncData) (ps : List Str), Cls K C ∧ Meth K C m f ∧ FnOk P w K mg base CX0 k f fd ps sp ∧ Binds K fd ps []
/-- the __init__ of the class at C, named x -/
structure DefI (K : PySem.W.Frag) (mg : Str → Option Value) (x : Str) (C : Addr) (q : Str) (st : Stmt) (ps : List Str) : Prop where
  g : mg x = some (.ref C)
  ex : ∃ (f : Addr) (fd : FuncData), FunD K "__init__" q (defArgs st) (defBody st) (defScope st) [] [] f fd ∧ Mk K C f ∧ Binds K fd ps []
structure MakX (P : Program) (w : World) (K : PySem.W.Frag) (mg : Str → Option Value) (base : Heap) (k : Nat) (x : Str) (C : Addr) (sp : Sp) : Prop where
  ex : ∃ (f : Addr) (fd : FuncData) (ps : List Str), Mk K C f ∧ FnOk P w K mg base CX0 k f fd ps sp ∧ mg x = some (.ref C) ∧ Binds K fd ps []
section
variable {P : Program} {w : World} {K : PySem.W.Frag} {mg : Str → Option Value} {base : Heap} {x m q : Str} {C : Addr} {st : Stmt} {ps N : List Str} {k : Nat} {sp : Sp}
theorem DefM.met (D : DefM K C m q st ps) (S : FnScope N ps (defScope st)) (len : ∀ vs H Q E, sp vs H Q E → vs.length = ps.length)
    (body : ∀ (f : Addr) (cdv : Value) (A : Around) (outer : List Env) (s : Shared) (H : Hp) (vs : List V) (Q : VK) (E : XK), Room k (A.deeper (envOfC q (defScope st) s.heap.objs.size f cdv)) → sp vs H Q E →
      ∃ t, PSs (cxOf CX0 P w K mg base N q (defScope st) f cdv A outer s H E).nox (defBody st) t ∧ t { nx := fun _ H' => Q .non H', rt := Q } (start N vs) H) : MetX P w K mg base (k + 1) C m sp := by
  obtain ⟨f, fd, F, me, b⟩ := D.ex
  refine ⟨f, fd, ps, D.cls, me, F.ok S len fun cdv A outer s H vs Q E hr h => ?_, b⟩
  obtain ⟨t, h1, h2⟩ := body f cdv A outer s H vs Q E hr h
  exact ⟨t, h1.nox, h2⟩
theorem DefI.mak (D : DefI K mg x C q st ps) (S : FnScope N ps (defScope st)) (len : ∀ vs H Q E, sp vs H Q E → vs.length = ps.length)
    (body : ∀ (f : Addr) (cdv : Value) (A : Around) (outer : List Env) (s : Shared) (H : Hp) (vs : List V) (Q : VK) (E : XK), Room k (A.deeper (envOfC q (defScope st) s.heap.objs.size f cdv)) → sp vs H Q E →
      ∃ t, PSs (cxOf CX0 P w K mg base N q (defScope st) f cdv A outer s H E).nox (defBody st) t ∧ t { nx := fun _ H' => Q .non H', rt := Q } (start N vs) H) : MakX P w K mg base (k + 1) x C sp := by
  obtain ⟨f, fd, F, me, b⟩ := D.ex
  refine ⟨f, fd, ps, me, F.ok S len fun cdv A outer s H vs Q E hr h => ?_, D.g, b⟩
  obtain ⟨t, h1, h2⟩ := body f cdv A outer s H vs Q E hr h
  exact ⟨t, h1.nox, h2⟩
end
/-- o.m(e, ..), C(e, ..) by their promises -/
def tMet (C : Addr) (m : Str) (sp : Sp) (ta : TE) (t : TA) : TE := fun σ H Q => ta σ H fun x H1 => ∃ a dx fs, x = .ref a ∧ H1 a = some (.ins C dx fs) ∧ fs.lookup m = none ∧ t σ H1 fun vs H2 => sp (x :: vs) H2 Q E0
def tMak (C : Addr) (sp : Sp) (t : TA) : TE := fun σ H Q => t σ H fun vs H1 => ∀ x dx, H1 x = none → H1 dx = none → dx ≠ x → sp (.ref x :: vs) (upd (upd H1 dx (.own x)) x (.ins C dx [])) (fun v H2 => v = .non ∧ Q (.ref x) H2) E0
theorem tMet_eq (C : Addr) (m : Str) (sp : Sp) (ta : TE) (t : TA) : tMeth C m sp [] E0 ta t = tMet C m sp ta t := by
  funext σ H Q
  unfold tMeth tMet
  simp only [List.append_nil]
theorem tMak_eq (C : Addr) (sp : Sp) (t : TA) : tMake C sp [] E0 t = tMak C sp t := by
  funext σ H Q
  unfold tMake tMak
  simp only [List.append_nil]
section
variable {X : Cx} {k j : Nat} {C : Addr} {x m : Str} {sp : Sp} {p pos apos : Pos} {e o : Expr} {es : List Expr} {ta : TE} {t : TA}
theorem pe_met {pl : Sem Bool} (c : MetX X.prog X.w X.K X.mg X.base k C m sp) (hr : Room j X.A) (hk : k ≤ j) (he : PE X o ta) (ha : PA X (e :: es) t)
    (h1 : starEach (e :: es) X.env = (false, eval e X.env) :: starEach es X.env := by rfl) (h2 : (backTo pos (starEach es X.env)).any (·.1) = false := by rfl)
    (h3 : eval (.Call (.Attribute o m apos) (e :: es) [] pos) X.env = (eval o X.env >>= fun ov => standAt apos.atName >>= fun _ => holding [ov] (getMethod ov m pl) >>= fun r =>
      callWith pos r.1 r.2 (backTo pos (starEach (e :: es) X.env)) (backToKw pos (keywordEach [] X.env))) := by rfl) : PE X (.Call (.Attribute o m apos) (e :: es) [] pos) (tMet C m sp ta t) := by
  obtain ⟨f, fd, ps, hc, hm, F, b⟩ := c.ex
  rw [← tMet_eq]
  exact pe_meth (pl := pl) he hc hm F (hr.mono hk) b .nil pass0 ha h1 h2 h3
theorem pe_mak (c : MakX X.prog X.w X.K X.mg X.base k x C sp) (hr : Room j X.A) (hk : k + 1 ≤ j) (hg : Gl X x) (ha : PA X (e :: es) t) (hdb : (x == ("__debug__" : Str)) = false := by decide)
    (h1 : starEach (e :: es) X.env = (false, eval e X.env) :: starEach es X.env := by rfl) (h2 : (backTo pos (starEach es X.env)).any (·.1) = false := by rfl) : PE X (.Call (.Name x p) (e :: es) [] pos) (tMak C sp t) := by
  obtain ⟨f, fd, ps, M, F, hm, b⟩ := c.ex
  rw [← tMak_eq]
  exact pe_make M F (hr.mono hk) hg hm b .nil pass0 ha hdb h1 h2
/-- an expression that is read in one of two ways -/
theorem pe_or {t1 t2 : TE} (h1 : PE X e t1) (h2 : PE X e t2) : PE X e fun σ H Q => t1 σ H Q ∨ t2 σ H Q := ⟨fun pins s σ H Q I h => by
  rcases h with h | h
  · exact h1.run pins s σ H Q I h
  · exact h2.run pins s σ H Q I h⟩
end
/-! ### is -/
def rIsN : R2 := fun x y H Q => y = .non ∧ Q (.bl (decide (x = .non))) H
def rNotN : R2 := fun x y H Q => y = .non ∧ Q (.bl (!decide (x = .non))) H
def rIsB : R2 := fun x y H Q => ∃ b c, x = .bl b ∧ y = .bl c ∧ Q (.bl (b == c)) H
def rNotB : R2 := fun x y H Q => ∃ b c, x = .bl b ∧ y = .bl c ∧ Q (.bl (!(b == c))) H
def rEqB : R2 := fun x y H Q => ∃ b c, x = .bl b ∧ y = .bl c ∧ Q (.bl (b == c)) H
section
variable {X : Cx}
theorem cp_isN : OpR X (compareOp .Is) rIsN := op_isN
theorem cp_notN : OpR X (compareOp .IsNot) rNotN := op_notN
theorem cp_isB : OpR X (compareOp .Is) rIsB := by
  intro pins s σ H x y v u Q I rx ry h
  obtain ⟨b, c, rfl, rfl, q⟩ := h
  cases rx
  cases ry
  refine (wpAny_bind (wpAny_isSame_plain (by cases b <;> cases c <;> rfl) (wpAny_pure (fin_bl I q ?_))) : wpAny _ _ ((isSame (Value.bool b) (Value.bool c)) >>= fun z => pure (Value.bool z)) _ _ s)
  cases b <;> cases c <;> rfl
theorem cp_notB : OpR X (compareOp .IsNot) rNotB := by
  intro pins s σ H x y v u Q I rx ry h
  obtain ⟨b, c, rfl, rfl, q⟩ := h
  cases rx
  cases ry
  refine (wpAny_bind (wpAny_isSame_plain (by cases b <;> cases c <;> rfl) (wpAny_pure (fin_bl I q ?_))) : wpAny _ _ ((isSame (Value.bool b) (Value.bool c)) >>= fun z => pure (Value.bool (!z))) _ _ s)
  cases b <;> cases c <;> rfl
end
section
variable {K : PySem.W.Frag} {σ : L2.St} {H : Hp} {Q : VK} {D : Ends} {ta tv : TE} {ts : TA} {x : V} {p C CD dx : Addr} {fs : List (Str × V)} {m : Int} {b c r : Bool} {sp : Sp} {f mm : Str} {v : V}
theorem i_isN (h : Q (.bl (decide (x = .non))) H) : rIsN x .non H Q := ⟨rfl, h⟩
theorem i_notNi (h : Q (.bl true) H) : rNotN (.int m) .non H Q := ⟨rfl, h⟩
theorem i_notNn (h : Q (.bl false) H) : rNotN .non .non H Q := ⟨rfl, h⟩
theorem i_isB (h : Q (.bl (b == c)) H) : rIsB (.bl b) (.bl c) H Q := ⟨b, c, rfl, rfl, h⟩
theorem i_notB (h : Q (.bl (!(b == c))) H) : rNotB (.bl b) (.bl c) H Q := ⟨b, c, rfl, rfl, h⟩
def kFld (K : PySem.W.Frag) (f : Str) (Q : VK) : VK := fun x H1 => ∃ a C dx fs v, x = .ref a ∧ H1 a = some (.ins C dx fs) ∧ Cls K C ∧ NoAttr K C f ∧ fs.lookup f = some v ∧ Q v H1
theorem i_fld (h : ta σ H (kFld K f Q)) : tFld K ta f σ H Q := h
theorem i_fldE (e : H p = some (.ins C dx fs)) (c : Cls K C) (n : NoAttr K C f) (l : fs.lookup f = some v) (h : Q v H) : kFld K f Q (.ref p) H := ⟨p, C, dx, fs, v, rfl, e, c, n, l, h⟩
theorem i_sfld (h : tv σ H fun y H1 => ta σ H1 fun x H2 => ∃ a C dx fs, x = .ref a ∧ H2 a = some (.ins C dx fs) ∧ Cls K C ∧ NoAttr K C f ∧ fs.length < 1000 ∧ D.nx σ (upd H2 a (.ins C dx (putF f y fs)))) : sFld K ta tv f D σ H := h
theorem i_sfldE {y : V} {R : Hp → Prop} (e : H p = some (.ins C dx fs)) (c : Cls K C) (n : NoAttr K C f) (l : fs.length < 1000) (h : R (upd H p (.ins C dx (putF f y fs)))) : ∃ a C dx fs, V.ref p = .ref a ∧ H a = some (.ins C dx fs) ∧ Cls K C ∧ NoAttr K C f ∧ fs.length < 1000 ∧ R (upd H a (.ins C dx (putF f y fs))) := ⟨p, C, dx, fs, rfl, e, c, n, l, h⟩
def kMet (C : Addr) (mm : Str) (sp : Sp) (ts : TA) (σ : L2.St) (Q : VK) : VK := fun x H1 => ∃ a dx fs, x = .ref a ∧ H1 a = some (.ins C dx fs) ∧ fs.lookup mm = none ∧ ts σ H1 fun vs H2 => sp (x :: vs) H2 Q E0
theorem i_met (h : ta σ H (kMet C mm sp ts σ Q)) : tMet C mm sp ta ts σ H Q := h
theorem i_metE (e : H p = some (.ins C dx fs)) (l : fs.lookup mm = none) (h : ts σ H fun vs H2 => sp (.ref p :: vs) H2 Q E0) : kMet C mm sp ts σ Q (.ref p) H := ⟨p, dx, fs, rfl, e, l, h⟩
theorem i_mak (h : ts σ H fun vs H1 => ∀ x dx, H1 x = none → H1 dx = none → dx ≠ x → sp (.ref x :: vs) (upd (upd H1 dx (.own x)) x (.ins C dx [])) (fun v H2 => v = .non ∧ Q (.ref x) H2) E0) : tMak C sp ts σ H Q := h
theorem i_eqB (h : Q (.bl (b == c)) H) : rEq (.bl b) (.bl c) H Q := ⟨rfl, by
  have e : decide (V.bl b = V.bl c) = (b == c) := by cases b <;> cases c <;> rfl
  rw [e]; exact h⟩
theorem i_neB (h : Q (.bl (!(b == c))) H) : rNe (.bl b) (.bl c) H Q := ⟨rfl, by
  have e : decide (V.bl b = V.bl c) = (b == c) := by cases b <;> cases c <;> rfl
  rw [e]; exact h⟩
theorem i_not12 (hp : H p = some (.tup [.int 1, .int 2])) (h : Q (.bl (!decide (m = 1 ∨ m = 2))) H) : rIn K true (.int m) (.ref p) H Q := by
  refine ⟨p, _, rfl, .inr (SqT.of hp), rfl, rfl, ?_⟩
  have e : inV (.int m) [.int 1, .int 2] = decide (m = 1 ∨ m = 2) := by
    simp only [inV, List.any_cons, List.any_nil, eqV, Bool.or_false]
    rw [Bool.eq_iff_iff]
    simp only [Bool.or_eq_true, decide_eq_true_eq, beq_iff_eq]
    omega
  rw [e]
  exact h
/-- for x, y in zip(xs, ys) -/
theorem for_zip {a b : Addr} {xs ys : List V} {g : TG} {t : TS} (Pv : Nat → L2.St → Hp → Prop) (h0 : Pv 0 σ H) (hl : ∀ i σ H, Pv i σ H → SqL K H a xs ∧ SqL K H b ys) (hlen : xs.length = ys.length)
    (hs : ∀ (i : Nat) (x y : V) (T : Addr) (σ : L2.St) (H H' : Hp), xs[i]? = some x → ys[i]? = some y → Pv i σ H → H T = none → Same H H' → H' T = some (.tup [x, y]) → g (.ref T) σ H' fun σ2 H2 => t { D with nx := Pv (i + 1), ct := Pv (i + 1), bk := D.nx } σ2 H2)
    (hd : ∀ σ H, Pv xs.length σ H → D.nx σ H) : ∃ W : Nat → Nat → L2.St → Hp → Prop, (∃ m, W 0 m σ H) ∧ ∀ i m σ H, W i m σ H →
      ((Itz K a b).stop i H ∧ D.nx σ H) ∨ ((Itz K a b).go i H ∧ ∃ N : L2.St → Hp → Prop, (∀ σ' H', N σ' H' → ∃ m', m' < m ∧ W (i + 1) m' σ' H') ∧ ∀ v H', (Itz K a b).yld i H v H' → g v σ H' fun σ2 H2 => t { D with nx := N, ct := N, bk := D.nx } σ2 H2) := by
  refine ⟨fun i m σ H => m = xs.length - i ∧ i ≤ xs.length ∧ Pv i σ H, ⟨xs.length, rfl, Nat.zero_le _, h0⟩, ?_⟩
  rintro i m σ H ⟨rfl, hi, pv⟩
  obtain ⟨q1, q2⟩ := hl i σ H pv
  by_cases lt : i < xs.length
  · have e1 := List.getElem?_eq_getElem lt
    have e2 := List.getElem?_eq_getElem (show i < ys.length by omega)
    refine .inr ⟨⟨xs, ys, _, _, q1, q2, e1, e2⟩, Pv (i + 1), fun σ' H' pv' => ⟨xs.length - (i + 1), by omega, rfl, lt, pv'⟩, fun v H' yl => ?_⟩
    obtain ⟨T, x, y, rfl, nT, rfl, f1, f2⟩ := yl
    exact hs i x y T σ H _ (f1 xs q1) (f2 ys q2) pv nT (Same.upd nT) upd_same
  · have e : i = xs.length := by omega
    subst e
    exact .inl ⟨⟨xs, ys, q1, q2, .inl (Nat.le_refl _)⟩, hd σ H pv⟩
/-- isinstance of own classes -/
structure Own (K : PySem.W.Frag) (C : Addr) : Prop where
  cls : Cls K C
  ha : PySem.W.findIn K (.ref C) "__class__" = some (some (.builtin "object.__class__"))
  hn : PySem.W.specialIn K (.builtin "object.__class__") "__get__" = some (some (.builtin "getset_descriptor.__get__"))
  htk : PySem.W.takesIn K (.builtin "object.__class__") = some true
  hm : PySem.W.mroIn K C (.type "object") = some true
theorem i_isC (O : Own K C) (e : H p = some (.ins C dx fs)) (kb : PySem.W.kitOne K (.ref C) (.ref CD) = some r) (h : Q (.bl r) H) : rIsi K [.ref p, .ref CD] H Q :=
  ⟨.ref p, .ref CD, .ref C, .ref CD, r, rfl, .own CD, .base (.ins e O.cls O.ha O.hn O.htk O.hm), kb, h⟩
end
def ownB (K : PySem.W.Frag) (C : Addr) : Bool := decide (PySem.W.findIn K (.ref C) "__class__" = some (some (.builtin "object.__class__"))) && decide (PySem.W.specialIn K (.builtin "object.__class__") "__get__" = some (some (.builtin "getset_descriptor.__get__"))) &&
  decide (PySem.W.takesIn K (.builtin "object.__class__") = some true) && decide (PySem.W.mroIn K C (.type "object") = some true)
theorem ownB_ok {K : PySem.W.Frag} {C : Addr} (c : Cls K C) (h : ownB K C = true) : Own K C := by
  unfold ownB at h
  rw [Bool.and_eq_true, Bool.and_eq_true, Bool.and_eq_true] at h
  exact ⟨c, of_decide_eq_true h.1.1.1, of_decide_eq_true h.1.1.2, of_decide_eq_true h.1.2, of_decide_eq_true h.2⟩
/-- what isinstance tells of two of the text's classes -/
def kitB2 (K : PySem.W.Frag) (t : Str × Str × Bool) : Bool := decide (PySem.W.kitOne K (.ref (He.ga K t.1)) (.ref (He.ga K t.2.1)) = some t.2.2)
/-- the head's further facts -/
def exB (os : List Str) (ks : List (Str × Str × Bool)) (K : PySem.W.Frag) : Bool := (os.all fun x => ownB K (He.ga K x)) && ks.all (kitB2 K)
section
variable {os : List Str} {ks : List (Str × Str × Bool)} {K : PySem.W.Frag}
theorem exB_own (h : exB os ks K = true) (i : Nat) {x : Str} (e : os[i]? = some x) (c : Cls K (He.ga K x)) : Own K (He.ga K x) := by
  unfold exB at h
  rw [Bool.and_eq_true] at h
  exact ownB_ok c (List.all_eq_true.mp h.1 x (List.mem_of_getElem? e))
theorem exB_kit (h : exB os ks K = true) (i : Nat) {x y : Str} {b : Bool} (e : ks[i]? = some (x, y, b)) : PySem.W.kitOne K (.ref (He.ga K x)) (.ref (He.ga K y)) = some b := by
  unfold exB at h
  rw [Bool.and_eq_true] at h
  exact of_decide_eq_true (List.all_eq_true.mp h.2 _ (List.mem_of_getElem? e))
end
/-- the Hook, with further facts -/
def obsX (n : Nat) (fa : List He.Fa) (fn : List He.DefD) (ex : PySem.W.Frag → Bool) (g : Addr → Option Obj) : He.AlD × Bool := (He.obsD fa fn (He.frG g (He.asD g n)), ex (He.frG g (He.asD g n)))
def SaysX (fa : List He.Fa) (fn : List He.DefD) (ex : PySem.W.Frag → Bool) (K : PySem.W.Frag) : Prop := He.SaysD fa fn K ∧ ex K = true
def hookX (n : Nat) (fa : List He.Fa) (fn : List He.DefD) (ex : PySem.W.Frag → Bool) : PySem.W.Hook where
  α := He.AlD × Bool
  obs := fun s => obsX n fa fn ex s.heap.get?
  val := fun _ => (He.valD fn, true)
  says := fun _ h => ∃ K : PySem.W.Frag, K.In h ∧ SaysX fa fn ex K
  of := fun _ _ e => ⟨_, He.frG_in, congrArg (fun z : He.AlD × Bool => z.1) e, congrArg (fun z : He.AlD × Bool => z.2) e⟩
  keeps := fun _ _ _ ⟨K, kin, c⟩ k => ⟨K, PySem.W.Frag.In.keeps kin k, c⟩
theorem obsX_eq {n : Nat} {fa : List He.Fa} {fn : List He.DefD} {ex : PySem.W.Frag → Bool} {g : Addr → Option Obj} {s : Shared} (h : ∀ a, g a = s.heap.get? a) : obsX n fa fn ex g = (hookX n fa fn ex).obs s := by
  rw [show g = s.heap.get? from funext h]
  rfl
end Bp
namespace Bp
open PySem PySem.Spec PyProof.Rows L2
def topS (i : Nat) : Stmt := PySem.Challenge.pw_benchpair_k04_answers_by_hand.main.body.getD i (.Pass ⟨0, 0, 0, 0⟩)
local macro_rules | `(tactic| walk_at "st") => `(tactic| first
  | with_reducible refine i_seq ?_ | with_reducible refine i_asg ?_ | with_reducible refine i_op ?_ | ((with_reducible refine i_var0 ?_); refine ⟨_, rfl, ?_⟩) | with_reducible refine i_c ?_
  | with_reducible refine i_nm ?_ | with_reducible refine i_I0 ?_ | with_reducible refine i_cons ?_ | with_reducible refine i_nil ?_ | with_reducible refine i_cb ?_ | with_reducible refine i_cal ?_ | with_reducible refine i_calS ?_
  | with_reducible refine i_ifS ?_ | with_reducible refine i_if ?_ | with_reducible refine i_test ?_ | with_reducible refine i_tB ?_ | with_reducible refine i_bl ?_ | with_reducible refine i_int ?_
  | with_reducible refine i_eqI ?_ | with_reducible refine i_neI ?_ | with_reducible refine i_not ?_ | with_reducible refine i_and ?_ | with_reducible refine i_or ?_ | with_reducible refine i_andV ?_ | with_reducible refine i_orV ?_ | with_reducible refine i_notV ?_
  | with_reducible refine i_un ?_ | with_reducible refine i_U ?_ | with_reducible refine i_ipI ?_ | ((with_reducible refine i_aug0 ?_); refine ⟨_, rfl, ?_⟩) | with_reducible refine i_ret ?_ | with_reducible refine i_drop ?_ | with_reducible refine i_next ?_
  | with_reducible refine i_chain ?_ | with_reducible refine i_ifT ?_ | with_reducible refine i_ifF ?_ | with_reducible refine i_ifNT ?_ | with_reducible refine i_ifNF ?_ | with_reducible refine i_par ?_ | with_reducible refine i_par3 ?_ | with_reducible refine i_par_e ?_ | with_reducible refine i_par3_e ?_
  | with_reducible refine i_gcons ?_ | with_reducible refine i_gnil ?_ | with_reducible refine i_gsub ?_ | with_reducible refine i_tupn ?_ | with_reducible refine i_lstn ?_ | with_reducible refine i_bm ?_ | with_reducible refine i_bm0 ?_
  | with_reducible refine i_sl ?_ | with_reducible refine i_noP ?_ | with_reducible refine i_part ?_ | with_reducible refine i_for ?_ | with_reducible refine i_lc ?_ | with_reducible refine i_iList ?_ | with_reducible refine i_iTup ?_ | with_reducible refine i_iRng1 ?_
  | with_reducible refine i_iEnum ?_ | with_reducible refine i_iRng3 ?_ | with_reducible refine i_revL ?_ | with_reducible refine i_iZip ?_ | with_reducible refine i_yes ?_ | with_reducible refine i_listRg ?_ | with_reducible refine i_notNi ?_ | with_reducible refine i_notNn ?_ | with_reducible refine i_isB ?_ | with_reducible refine i_notB ?_ | with_reducible refine i_eqB ?_ | with_reducible refine i_neB ?_ | with_reducible refine i_fld ?_ | with_reducible refine i_sfld ?_ | with_reducible refine i_met ?_ | with_reducible refine i_mak ?_ | with_reducible refine i_max2 ?_)
local macro_rules | `(tactic| walk_at "go") => `(tactic| repeat walk_at "st")
abbrev s_is_whole : Stmt := topS 4
abbrev n_is_whole : List Str := ["thing"]
theorem sc_is_whole : FnScope n_is_whole ["thing"] (defScope s_is_whole) := ⟨rfl, rfl, rfl, by decide +kernel, rfl, by decide +kernel, by decide +kernel⟩
abbrev s_is_triple : Stmt := topS 5
abbrev n_is_triple : List Str := ["thing", "length"]
theorem sc_is_triple : FnScope n_is_triple ["thing"] (defScope s_is_triple) := ⟨rfl, rfl, rfl, by decide +kernel, rfl, by decide +kernel, by decide +kernel⟩
abbrev s_check_things : Stmt := topS 6
abbrev n_check_things : List Str := ["things", "thing"]
theorem sc_check_things : FnScope n_check_things ["things"] (defScope s_check_things) := ⟨rfl, rfl, rfl, by decide +kernel, rfl, by decide +kernel, by decide +kernel⟩
abbrev s_is_order : Stmt := topS 7
abbrev n_is_order : List Str := ["things", "order", "at"]
theorem sc_is_order : FnScope n_is_order ["things", "order"] (defScope s_is_order) := ⟨rfl, rfl, rfl, by decide +kernel, rfl, by decide +kernel, by decide +kernel⟩
abbrev s_run : Stmt := topS 8
abbrev n_run : List Str := ["things", "order", "found", "first", "second", "at", "one", "dry", "other", "begin"]
theorem sc_run : FnScope n_run ["things", "order"] (defScope s_run) := ⟨rfl, rfl, rfl, by decide +kernel, rfl, by decide +kernel, by decide +kernel⟩
/-- is_whole, of a whole number -/
def sp_whole : Sp := fun vs H Q _ => ∃ m : Int, vs = [.int m] ∧ Q (.bl true) H
/-- is_triple, of a triple -/
def sp_triple (K : PySem.W.Frag) : Sp := fun vs H Q _ => ∃ (v : V) (t : T3), vs = [v] ∧ IsT K H v t ∧ Nn t ∧ ∀ H', Same H H' → Q (.bl true) H'
/-- check_things, of things -/
def sp_check (K : PySem.W.Frag) : Sp := fun vs H Q _ => ∃ (a : Addr) (ts : List T3), vs = [.ref a] ∧ Things K H a ts ∧ (∀ t ∈ ts, Nn t) ∧ ts.length ≤ 1000 ∧ ∀ H', Same H H' → Q .non H'
section
variable {P : Program} {w : World} {K : PySem.W.Frag} {mg : Str → Option Value} {base : Heap}
theorem ok_is_whole (B : Blt mg) (D : Def K mg "is_whole" s_is_whole ["thing"]) : Cal P w K mg base 1 "is_whole" sp_whole := by
  refine D.cal sc_is_whole (fun vs H Q E h => ?_) (fun f cdv A outer s H vs Q E hr h => ?_)
  · obtain ⟨m, rfl, _⟩ := h
    rfl
  · obtain ⟨m, rfl, q⟩ := h
    refine ⟨_, pss_one (ps_ret (pe_and (pe_callB (r := rIsi K) call_isi (by rfl) B.isinstance (by decide +kernel) (pa_cons (pv 0) (pa_cons (pe_bltn (v := .ty "int") (u := .type "int") (by rfl) B.int (by decide +kernel) rfl) pa_nil))) (pe_one (pe_not (pe_callB (r := rIsi K) call_isi (by rfl) B.isinstance (by decide +kernel) (pa_cons (pv 0) (pa_cons (pe_bltn (v := .ty "bool") (u := .type "bool") (by rfl) B.bool (by decide +kernel) rfl) pa_nil))))))), ?_⟩
    walk_at "go"
    refine i_isi (r := true) ty_int (by decide +kernel) ?_
    walk_at "go"
    refine i_isi (r := false) ty_int (by decide +kernel) ?_
    walk_at "go"
    exact q
theorem ok_is_triple (B : Blt mg) (c_is_whole : Cal P w K mg base 1 "is_whole" sp_whole) (D : Def K mg "is_triple" s_is_triple ["thing"]) : Cal P w K mg base 2 "is_triple" (sp_triple K) := by
  refine D.cal sc_is_triple (fun vs H Q E h => ?_) (fun f cdv A outer s H vs Q E hr h => ?_)
  · obtain ⟨v, t, rfl, _⟩ := h
    rfl
  · obtain ⟨v, t, rfl, ⟨p, rfl, hp⟩, ⟨n1, n2, n3⟩, q⟩ := h
    refine ⟨_, pss_cons (ps_if (PW.pt (pw_or (pt_not (pt_val (pe_callB (r := rIsi K) call_isi (by rfl) B.isinstance (by decide +kernel) (pa_cons (pv 0) (pa_cons (pe_bltn (v := .ty "tuple") (u := .type "tuple") (by rfl) B.tuple (by decide +kernel) rfl) pa_nil))))) (pw_or1 (pt_cmpR op_ne (pe_callB (r := rLenB K) cb_len (by rfl) B.len (by decide +kernel) (pa_cons (pv 0) pa_nil)) pe_int (nomark _)))))
      (pss_one (ps_ret pe_bl))
      (pss_nil))
    (pss_one (ps_ret (pe_callB (r := rAll K) (cr_all rfl) (by rfl) B.all (by decide +kernel) (pa_cons (pe_lc (own := [("length", 1)]) rfl sc_is_triple.nd (pi_tup (pv 0)) (blkOk_by (N := n_is_triple) (sc := defScope s_is_triple) (by decide +kernel)) (fun _ _ _ _ _ => (pg_name (i := 1) sc_is_triple.nd rfl (.inl rfl))) (fun _ _ _ _ _ => pts_nil) (fun _ _ _ _ _ => (pe_and (pe_cal c_is_whole hr (by decide) (by rfl) (pa_cons (pv 1) pa_nil)) (pe_one (pe_cmpR op_ge (pv 1) pe_int (nomark _)))))) pa_nil)))), ?_⟩
    walk_at "go"
    refine i_isi (r := true) (ty_sqT hp) (by decide +kernel) ?_
    walk_at "go"
    refine i_lenT hp ?_
    walk_at "go"
    refine iteF ?_
    walk_at "go"
    refine i_itt hp ?_
    refine fun p0 hp0 => lc_map (K := K) (R := fun _ y _ => y = .bl true) (fun _ h => h) sqn_t (fun H e => Same.t e hp) (by show 3 < 100000; decide) hp0 (fun i x H' Qc Qn hx sm k => ?_) (fun ys H' sm hy hl hr => ?_)
    · walk_at "go"
      refine ⟨rfl, ?_⟩
      have hm : ∃ m : Int, x = .int m ∧ 0 ≤ m := by
        rcases i with _ | _ | _ | i
        · exact ⟨_, (Option.some.inj hx).symm, n1⟩
        · exact ⟨_, (Option.some.inj hx).symm, n2⟩
        · exact ⟨_, (Option.some.inj hx).symm, n3⟩
        · cases hx
      obtain ⟨m, rfl, h0⟩ := hm
      walk_at "go"
      refine ⟨m, rfl, ?_⟩
      walk_at "go"
      exact k _ _ (Same.refl _) (by rw [decide_eq_true h0])
    · walk_at "go"
      have e := all_true hl hr
      rw [e] at hy
      exact i_allT hy (q H' sm)
theorem ok_check_things (B : Blt mg) (c_is_triple : Cal P w K mg base 2 "is_triple" (sp_triple K)) (D : Def K mg "check_things" s_check_things ["things"]) : Cal P w K mg base 3 "check_things" (sp_check K) := by
  refine D.cal sc_check_things (fun vs H Q E h => ?_) (fun f cdv A outer s H vs Q E hr h => ?_)
  · obtain ⟨a, ts, rfl, _⟩ := h
    rfl
  · obtain ⟨a, ts, rfl, ⟨vs, hs, hT⟩, hn, hz, q⟩ := h
    refine ⟨_, pss_one (ps_if (PW.pt (pw_or (pt_not (pt_val (pe_callB (r := rIsi K) call_isi (by rfl) B.isinstance (by decide +kernel) (pa_cons (pv 0) (pa_cons (pe_bltn (v := .ty "list") (u := .type "list") (by rfl) B.list (by decide +kernel) rfl) pa_nil))))) (pw_or1 (pt_not (pt_val (pe_callB (r := rAll K) (cr_all rfl) (by rfl) B.all (by decide +kernel) (pa_cons (pe_lc (own := [("thing", 1)]) rfl sc_check_things.nd (pi_list (pv 0)) (blkOk_by (N := n_check_things) (sc := defScope s_check_things) (by decide +kernel)) (fun _ _ _ _ _ => (pg_name (i := 1) sc_check_things.nd rfl (.inl rfl))) (fun _ _ _ _ _ => pts_nil) (fun _ _ _ _ _ => (pe_cal c_is_triple hr (by decide) (by rfl) (pa_cons (pv 1) pa_nil)))) pa_nil)))))))
      (pss_one (ps_never))
      (pss_nil)), ?_⟩
    walk_at "go"
    refine i_isi (r := true) (ty_sqL hs) (by decide +kernel) ?_
    walk_at "go"
    refine i_itl hs ?_
    refine fun p0 hp0 => lc_map (K := K) (R := fun _ y _ => y = .bl true) (fun _ h => h) sqn_l (fun H' e => e.seq hs) (by rw [hT.len]; omega) hp0 (fun i x H' Qc Qn hx sm k => ?_) (fun ys H' sm hy hl hr => ?_)
    · obtain ⟨t, ht, hx'⟩ := hT.at' hx
      walk_at "go"
      refine ⟨rfl, ?_⟩
      walk_at "go"
      exact ⟨_, t, rfl, hx'.mono (smT sm), hn t (List.mem_of_getElem? ht), fun H'' s' => k _ _ s' rfl⟩
    · have e := all_true hl hr
      rw [e] at hy
      walk_at "go"
      refine i_allT hy ?_
      walk_at "go"
      exact q H' sm
/-- is_order, of any whole numbers -/
def sp_isord (K : PySem.W.Frag) : Sp := fun vs H Q _ => ∃ (a b : Addr) (ts : List T3) (ns : List Int), vs = [.ref a, .ref b] ∧ Things K H a ts ∧ SqL K H b (ns.map V.int) ∧ ts.length ≤ 1000 ∧ ns.length ≤ 10000 ∧ ∀ H', Same H H' → Q (.bl (decide (ns.Perm (rg ts.length)))) H'
/-- run, of an order -/
def sp_run (K : PySem.W.Frag) : Sp := fun vs H Q _ => ∃ (a b : Addr) (ts : List T3) (os : List Nat), vs = [.ref a, .ref b] ∧ Things K H a ts ∧ SqL K H b ((zs os).map V.int) ∧ (∀ k ∈ os, k < ts.length) ∧ os.length ≤ 1000 ∧
  ∀ H' p l vs', Same H H' → H' p = some (.tup [.ref l, .int (dn (sq ts os))]) → SqL K H' l vs' → PrL K H' vs' (runP 0 0 (sq ts os)) → Q (.ref p) H'
theorem ok_is_order (B : Blt mg) (c_is_whole : Cal P w K mg base 1 "is_whole" sp_whole) (D : Def K mg "is_order" s_is_order ["things", "order"]) : Cal P w K mg base 2 "is_order" (sp_isord K) := by
  refine D.cal sc_is_order (fun vs H Q E h => ?_) (fun f cdv A outer s H vs Q E hr h => ?_)
  · obtain ⟨a, b, ts, ns, rfl, _⟩ := h
    rfl
  · obtain ⟨a, b, ts, ns, rfl, hT, hO, hz, hn, q⟩ := h
    refine ⟨_, pss_cons (ps_if (PW.pt (pw_or (pt_not (pt_val (pe_callB (r := rIsi K) call_isi (by rfl) B.isinstance (by decide +kernel) (pa_cons (pv 1) (pa_cons (pe_bltn (v := .ty "list") (u := .type "list") (by rfl) B.list (by decide +kernel) rfl) pa_nil))))) (pw_or (pt_cmpR op_ne (pe_callB (r := rLenB K) cb_len (by rfl) B.len (by decide +kernel) (pa_cons (pv 1) pa_nil)) (pe_callB (r := rLenB K) cb_len (by rfl) B.len (by decide +kernel) (pa_cons (pv 0) pa_nil)) (nomark _)) (pw_or1 (pt_not (pt_val (pe_callB (r := rAll K) (cr_all rfl) (by rfl) B.all (by decide +kernel) (pa_cons (pe_lc (own := [("at", 2)]) rfl sc_is_order.nd (pi_list (pv 1)) (blkOk_by (N := n_is_order) (sc := defScope s_is_order) (by decide +kernel)) (fun _ _ _ _ _ => (pg_name (i := 2) sc_is_order.nd rfl (.inl rfl))) (fun _ _ _ _ _ => pts_nil) (fun _ _ _ _ _ => (pe_cal c_is_whole hr (by decide) (by rfl) (pa_cons (pv 2) pa_nil)))) pa_nil))))))))
      (pss_one (ps_ret pe_bl))
      (pss_nil))
    (pss_one (ps_ret (pe_cmpR (r := rEqD K) (op_eqD hr.units) (pe_callB (r := rSortedI K) cr_sortedI (by rfl) B.sorted (by decide +kernel) (pa_cons (pv 1) pa_nil)) (pe_listRg rfl (by rfl) B.list (prg_1 (by rfl) B.range (pe_callB (r := rLenB K) cb_len (by rfl) B.len (by decide +kernel) (pa_cons (pv 0) pa_nil)))) (nomark _)))), ?_⟩
    walk_at "go"
    refine i_isi (r := true) (ty_sqL hO) (by decide +kernel) ?_
    walk_at "go"
    refine i_lenL hO ?_
    walk_at "go"
    refine i_lenThings hT ?_
    walk_at "go"
    rw [List.length_map]
    have no : ns.length ≠ ts.length → ¬ ns.Perm (rg ts.length) := fun e p => e (by rw [p.length_eq]; unfold rg; rw [zs_len, List.length_range])
    refine i_itdn (fun e => ?_) (fun e => ?_)
    · walk_at "go"
      have e2 : decide (ns.Perm (rg ts.length)) = false := decide_eq_false (no (by omega))
      have z := q H (Same.refl _)
      rw [e2] at z
      exact z
    · walk_at "go"
      refine i_itl hO ?_
      refine fun p0 hp0 => lc_map (K := K) (R := fun _ y _ => y = .bl true) (fun _ h => h) sqn_l (fun H' e => e.seq hO) (by rw [List.length_map]; omega) hp0 (fun i x H' Qc Qn hx sm k => ?_) (fun ys H' sm hy hl hr => ?_)
      · rw [List.getElem?_map] at hx
        obtain ⟨m, _, rfl⟩ := Option.map_eq_some_iff.mp hx
        walk_at "go"
        refine ⟨rfl, ?_⟩
        walk_at "go"
        refine ⟨m, rfl, ?_⟩
        exact k _ _ (Same.refl _) rfl
      · have e := all_true hl hr
        rw [e] at hy
        walk_at "go"
        refine i_allT hy ?_
        walk_at "go"
        refine i_sortI (sm.seq hO) fun ns' p1 H1 hP hS np1 s1 h1 => ?_
        walk_at "go"
        refine i_lenThings ((hT.mono sm).mono s1) ?_
        refine i_rg (n := ts.length) rfl (by omega) fun p2 H2 np2 s2 h2 => ?_
        refine i_eqD (d := dI ns') (e := dI (rg ts.length)) (dp_ints (SqL.of (s2 _ _ h1))) (dp_ints (SqL.of h2)) (shaped_dI _) (shaped_dI _) ?_
        rw [eqv_dI]
        have e3 : decide (ns' = rg ts.length) = decide (ns.Perm (rg ts.length)) := by
          rw [decide_eq_decide]
          exact sorted_rg hP hS
        rw [e3]
        exact q _ ((sm.trans s1).trans s2)
theorem runP_at : ∀ (l : List T3) (f s : Int) (i : Nat) (t : T3), l[i]? = some t → (runP f s l)[i]? = some (f + sa (l.take i), gr (endOf f s (l.take i)) (f + sa (l.take i) + t.1 + t.2.1))
  | [], f, s, i, t, h => by simp at h
  | u :: l, f, s, 0, t, h => by
    have e : u = t := by simpa using h
    subst e
    simp [runP, sa, endOf]
  | u :: l, f, s, i + 1, t, h => by
    have ih := runP_at l (f + u.1) (gr s (f + u.1 + u.2.1) + u.2.2) i t (by simpa using h)
    rw [runP, List.getElem?_cons_succ, ih, List.take_succ_cons, sa, endOf]
    congr 2
    · omega
    · congr 1
      omega
theorem endOf_snoc : ∀ (l : List T3) (f s : Int) (t : T3), endOf f s (l ++ [t]) = gr (endOf f s l) (f + sa l + t.1 + t.2.1) + t.2.2
  | [], f, s, t => by simp [endOf, sa]
  | u :: l, f, s, t => by
    rw [List.cons_append, endOf, endOf_snoc l, endOf, sa]
    congr 2
    omega
theorem runP_snoc : ∀ (l : List T3) (f s : Int) (t : T3), runP f s (l ++ [t]) = runP f s l ++ [(f + sa l, gr (endOf f s l) (f + sa l + t.1 + t.2.1))]
  | [], f, s, t => by simp [runP, sa, endOf]
  | u :: l, f, s, t => by
    rw [List.cons_append, runP, runP_snoc l, runP, endOf, sa, List.cons_append]
    rw [show f + u.1 + sa l = f + (u.1 + sa l) by omega]
theorem sa_snoc (l : List T3) (t : T3) : sa (l ++ [t]) = sa l + t.1 := by
  rw [sa_app, sa, sa]; omega
theorem sq_at {ts : List T3} {os : List Nat} {i k : Nat} (h : os[i]? = some k) : (sq ts os)[i]? = some (ts.getD k (0, 0, 0)) := by
  unfold sq
  rw [List.getElem?_map, h]; rfl
theorem sq_take {ts : List T3} {os : List Nat} (i : Nat) : sq ts (os.take i) = (sq ts os).take i := by
  unfold sq
  rw [List.map_take]
theorem ok_run (B : Blt mg) (D : Def K mg "run" s_run ["things", "order"]) : Cal P w K mg base 1 "run" (sp_run K) := by
  refine D.cal sc_run (fun vs H Q E h => ?_) (fun f cdv A outer s H vs Q E hr h => ?_)
  · obtain ⟨a, b, ts, os, rfl, _⟩ := h
    rfl
  · obtain ⟨a, b, ts, os, rfl, hT, hO, hk, hz, q⟩ := h
    refine ⟨_, pss_cons (ps_set (i := 2) sc_run.nd rfl (.inl rfl) (pe_lst pa_nil))
    (pss_cons (ps_set (i := 3) sc_run.nd rfl (.inl rfl) pe_int)
    (pss_cons (ps_set (i := 4) sc_run.nd rfl (.inl rfl) pe_int)
    (pss_cons (ps_for PassesOwn.never rfl (pi_list (pv 1)) (pg_name (i := 5) sc_run.nd rfl (.inl rfl))
      (pss_cons (ps_asg (pe_ix (r := rIxL K) ix_list (pv 0) (pv 5) (fun _ _ => rfl)) (pg_tup (n := 3) rfl (pgs_cons (pg_name (i := 6) sc_run.nd rfl (.inl rfl)) (pgs_cons (pg_name (i := 7) sc_run.nd rfl (.inl rfl)) (pgs_cons (pg_name (i := 8) sc_run.nd rfl (.inl rfl)) pgs_nil))) : PG _ _ (gTup K 3 (gCons (gName 6) (gCons (gName 7) (gCons (gName 8) gNil))))))
        (pss_cons (ps_set (i := 9) sc_run.nd rfl (.inl rfl) (pv 3))
        (pss_cons (ps_aug (i := 3) sc_run.nd rfl (.inl rfl) (pv 6) ip_add)
        (pss_cons (ps_set (i := 4) sc_run.nd rfl (.inl rfl) (pe_callB (cb_max2 rfl) (by rfl) B.max (by decide +kernel) (pa_cons (pv 4) (pa_cons (pe_op op_add (pv 3) (pv 7)) pa_nil))))
        (pss_cons (ps_expr (pe_bm PySem.F.plainAttrs_list PySem.F.slot_list_append PySem.F.type_list_append mt_append (pv 2) (pa_cons (pe_tup (pa_cons (pv 9) (pa_cons (pv 4) pa_nil))) pa_nil)))
        (pss_one (ps_aug (i := 4) sc_run.nd rfl (.inl rfl) (pv 8) ip_add))))))))
    (pss_one (ps_ret (pe_tup (pa_cons (pv 2) (pa_cons (pe_ifExp (pt_cmpR op_gt (pe_callB (r := rLenB K) cb_len (by rfl) B.len (by decide +kernel) (pa_cons (pv 1) pa_nil)) pe_int (nomark _)) (pv 4) pe_int) pa_nil)))))))), ?_⟩
    walk_at "go"
    refine i_lstk (Nat.zero_le _) fun l H1 nl s1 h1 => ?_
    walk_at "go"
    refine i_itl (s1.seq hO) ?_
    refine for_list (K := K) (a := b) (xs := (zs os).map V.int) (fun i σ' H' => ∃ y5 y6 y7 y8 y9 ys, σ' = [some (.ref a), some (.ref b), some (.ref l), some (.int (sa (sq ts (os.take i)))), some (.int (endOf 0 0 (sq ts (os.take i)))), y5, y6, y7, y8, y9] ∧ Same H H' ∧ H' l = some (.lst ys) ∧ PrL K H' ys (runP 0 0 (sq ts (os.take i)))) ?_ ?_ ?_ ?_
    · exact ⟨_, _, _, _, _, [], rfl, s1, h1, All2.nil⟩
    · rintro i σ' H' _ ⟨_, _, _, _, _, _, _, sm, _⟩
      exact sm.seq hO
    · rintro i x σ' H' hx ⟨y5, y6, y7, y8, y9, ys, rfl, sm, hl, hP⟩
      obtain ⟨k, hk1, rfl⟩ := zs_at hx
      have hk2 : k < ts.length := hk k (List.mem_of_getElem? hk1)
      walk_at "go"
      refine i_thing (hT.mono sm) (getD_at hk2) fun p hp => ?_
      refine i_gtup hp rfl ?_
      walk_at "go"
      refine ⟨ty_lst hl, ?_⟩
      walk_at "go"
      refine i_tupk (by show 2 ≤ 100000; decide) fun p1 H2 np1 s2 h2 => ?_
      walk_at "go"
      have hlen : ys.length = i := by
        rw [hP.len, runP_len, sq_take, List.length_take, sq_len]
        have := (List.getElem?_eq_some_iff.mp hk1).1
        omega
      refine i_app (s2 _ _ hl) (by
        have := (List.getElem?_eq_some_iff.mp hk1).1
        omega) ?_
      walk_at "go"
      have e1 : sq ts (os.take (i + 1)) = sq ts (os.take i) ++ [ts.getD k (0, 0, 0)] := by
        rw [take_snoc hk1, sq_app]; rfl
      have hp1 : IsP K H2 (.ref p1) (sa (sq ts (os.take i)), gr (endOf 0 0 (sq ts (os.take i))) (sa (sq ts (os.take i)) + (ts.getD k (0, 0, 0)).1 + (ts.getD k (0, 0, 0)).2.1)) := ⟨p1, rfl, SqT.of h2⟩
      rw [e1, sa_snoc, endOf_snoc, runP_snoc]
      simp only [Int.zero_add]
      exact ⟨_, _, _, _, _, ys ++ [.ref p1], rfl, Same.mut (sm.trans s2) nl, upd_same, PrL.mono (sameT_lst (s2 _ _ hl)) (All2.snoc (PrL.mono (smT s2) hP) hp1)⟩
    · rintro σ' H' ⟨y5, y6, y7, y8, y9, ys, rfl, sm, hl, hP⟩
      rw [zs_len', List.take_length] at hP ⊢
      walk_at "go"
      refine i_lenL (sm.seq hO) ?_
      walk_at "go"
      rw [zs_len']
      have fin : kTup Q [.ref l, .int (dn (sq ts os))] H' := i_tupk (by show 2 ≤ 100000; decide) fun p H2 np s2 h2 => q H2 p l ys (sm.trans s2) h2 (SqL.of (s2 _ _ hl)) (PrL.mono (smT s2) hP)
      refine i_itd (fun c => ?_) (fun c => ?_)
      · walk_at "go"
        exact fin
      · walk_at "go"
        have e : os = [] := List.length_eq_zero_iff.mp (by omega)
        subst e
        exact fin
end
abbrev s__law_cell_at : Stmt := topS 21
abbrev n__law_cell_at : List Str := ["_law_script", "_law_k"]
theorem sc__law_cell_at : FnScope n__law_cell_at ["_law_script", "_law_k"] (defScope s__law_cell_at) := ⟨rfl, rfl, rfl, by decide +kernel, rfl, by decide +kernel, by decide +kernel⟩
abbrev s__law_draw : Stmt := topS 22
abbrev n__law_draw : List Str := ["_law_cell", "_law_k", "_law_many", "_law_primes"]
theorem sc__law_draw : FnScope n__law_draw ["_law_cell", "_law_k", "_law_many"] (defScope s__law_draw) := ⟨rfl, rfl, rfl, by decide +kernel, rfl, by decide +kernel, by decide +kernel⟩
abbrev s__law_things : Stmt := topS 23
abbrev n__law_things : List Str := ["_law_script", "_law_kind", "_law_found", "_law_k", "_law_three", "_law_most", "_law_cell", "_law_one", "_law_rest", "_law_dry", "_law_other"]
theorem sc__law_things : FnScope n__law_things ["_law_script"] (defScope s__law_things) := ⟨rfl, rfl, rfl, by decide +kernel, rfl, by decide +kernel, by decide +kernel⟩
abbrev s__law_done : Stmt := topS 24
abbrev n__law_done : List Str := ["_law_things_here", "_law_order_here", "_law_ahead", "_law_behind", "_law_found", "_law_at"]
theorem sc__law_done : FnScope n__law_done ["_law_things_here", "_law_order_here"] (defScope s__law_done) := ⟨rfl, rfl, rfl, by decide +kernel, rfl, by decide +kernel, by decide +kernel⟩
abbrev s__law_whole : Stmt := topS 27
abbrev n__law_whole : List Str := ["_law_number"]
theorem sc__law_whole : FnScope n__law_whole ["_law_number"] (defScope s__law_whole) := ⟨rfl, rfl, rfl, by decide +kernel, rfl, by decide +kernel, by decide +kernel⟩
/-- _law_cell_at -/
def sp_cell (K : PySem.W.Frag) : Sp := fun vs H Q _ => ∃ (a : Addr) (ns : List Int) (k : Nat), vs = [.ref a, .int (k : Int)] ∧ SqL K H a (ns.map V.int) ∧ Q (.int (ns.getD k 0)) H
/-- _law_draw: some number below many -/
def sp_draw : Sp := fun vs H Q _ => ∃ (c k m : Int), vs = [.int c, .int k, .int m] ∧ 0 ≤ k ∧ 0 < m ∧ ∀ r H', Same H H' → 0 ≤ r → r < m → Q (.int r) H'
section
variable {P : Program} {w : World} {K : PySem.W.Frag} {mg : Str → Option Value} {base : Heap}
theorem ok__law_cell_at (B : Blt mg) (D : Def K mg "_law_cell_at" s__law_cell_at ["_law_script", "_law_k"]) : Cal P w K mg base 1 "_law_cell_at" (sp_cell K) := by
  refine D.cal sc__law_cell_at (fun vs H Q E h => ?_) (fun f cdv A outer s H vs Q E hr h => ?_)
  · obtain ⟨a, ns, k, rfl, _⟩ := h
    rfl
  · obtain ⟨a, ns, k, rfl, hs, q⟩ := h
    refine ⟨_, pss_cons (ps_if (pt_cmpR op_lt (pv 1) (pe_callB (r := rLenB K) cb_len (by rfl) B.len (by decide +kernel) (pa_cons (pv 0) pa_nil)) (nomark _))
      (pss_one (ps_ret (pe_ix (r := rIxL K) ix_list (pv 0) (pv 1) (fun _ _ => rfl))))
      (pss_nil))
    (pss_one (ps_ret pe_int)), ?_⟩
    walk_at "go"
    refine i_lenL hs ?_
    walk_at "go"
    rw [List.length_map]
    refine i_itd (fun c => ?_) (fun c => ?_)
    · walk_at "go"
      have hk : k < ns.length := by omega
      refine i_ixL hs (v := .int (ns.getD k 0)) (atI_nat ?_) ?_
      · rw [List.getElem?_map, List.getD_eq_getElem?_getD, List.getElem?_eq_getElem hk]; rfl
      · exact q
    · walk_at "go"
      have e : ns.getD k 0 = 0 := by
        rw [List.getD_eq_getElem?_getD, List.getElem?_eq_none (by omega)]; rfl
      rw [e] at q
      exact q
def primes : List Int := [1000003, 1000033, 1000037, 1000039, 1000081, 1000099, 1000117, 1000121, 1000133, 1000151, 1000159, 1000171, 1000183, 1000187, 1000193, 1000199]
theorem ok__law_draw (B : Blt mg) (D : Def K mg "_law_draw" s__law_draw ["_law_cell", "_law_k", "_law_many"]) : Cal P w K mg base 1 "_law_draw" sp_draw := by
  refine D.cal sc__law_draw (fun vs H Q E h => ?_) (fun f cdv A outer s H vs Q E hr h => ?_)
  · obtain ⟨c, k, m, rfl, _⟩ := h
    rfl
  · obtain ⟨c, k, m, rfl, hk, hm, q⟩ := h
    refine ⟨_, pss_cons (ps_set (i := 3) sc__law_draw.nd rfl (.inl rfl) (pe_tup (pa_cons pe_int (pa_cons pe_int (pa_cons pe_int (pa_cons pe_int (pa_cons pe_int (pa_cons pe_int (pa_cons pe_int (pa_cons pe_int (pa_cons pe_int (pa_cons pe_int (pa_cons pe_int (pa_cons pe_int (pa_cons pe_int (pa_cons pe_int (pa_cons pe_int (pa_cons pe_int pa_nil))))))))))))))))))
    (pss_one (ps_ret (pe_op op_mod (pe_op op_mod (pe_op op_add (pe_op op_mul (pv 0) pe_int) (pe_op op_mul (pv 1) pe_int)) (pe_ix (r := rIxT K) ix_tup (pv 3) (pe_op op_mod (pv 1) pe_int) (fun _ _ => rfl))) (pv 2)))), ?_⟩
    walk_at "go"
    refine i_tupk (xs := primes.map V.int) (by show 16 ≤ 100000; decide) fun p H1 np s1 h1 => ?_
    walk_at "go"
    refine i_I (.inr ⟨by decide, by decide⟩) ?_
    walk_at "go"
    refine i_I (.inr ⟨by decide, by decide⟩) ?_
    walk_at "go"
    refine i_I (by show (0 : Int) < 16; decide) ?_
    walk_at "go"
    have hj : (k % 16).toNat < primes.length := by show (k % 16).toNat < 16; omega
    have ej : k % 16 = (((k % 16).toNat : Nat) : Int) := by omega
    have hpos : ∀ x ∈ primes, 0 < x := by decide
    obtain ⟨pr, hpr⟩ : ∃ pr, primes[(k % 16).toNat]? = some pr := ⟨_, List.getElem?_eq_getElem hj⟩
    refine i_ixT (SqT.of h1) (v := .int pr) (by rw [ej]; exact atI_nat (by rw [List.getElem?_map, hpr]; rfl)) ?_
    refine i_I (hpos pr (List.mem_of_getElem? hpr)) ?_
    walk_at "go"
    refine i_I hm ?_
    exact q _ _ s1 (Int.emod_nonneg _ (by omega)) (Int.emod_lt_of_pos _ hm)
/-- lengths of at most sixty figures -/
def Sm (t : T3) : Prop := Nn t ∧ t.1 < 10 ^ 60 ∧ t.2.1 < 10 ^ 60 ∧ t.2.2 < 10 ^ 60
def sp_things (K : PySem.W.Frag) : Sp := fun vs H Q _ => ∃ (a : Addr) (ns : List Int), vs = [.ref a] ∧ SqL K H a (ns.map V.int) ∧ ns.length ≤ 63 ∧
  ∀ H' p vs' ts, Same H H' → H p = none → H' p = some (.lst vs') → ThL K H' vs' ts → (∀ t ∈ ts, Sm t) → ts.length ≤ 189 → Q (.ref p) H'
theorem p60_59 {r : Int} (h : r < (10 : Int) ^ (59 : Int).toNat) : r < 10 ^ 60 := Int.lt_trans h (by decide)
theorem p60_20 {r m : Int} (h : r < m) (hm : m ≤ 10 ^ 20) : r < 10 ^ 60 := Int.lt_trans (Int.lt_of_lt_of_le h hm) (by decide)
theorem dr_bound {r m : Int} (h0 : 0 ≤ r) (h1 : r < 200) (hm : 0 < m) (hm1 : m ≤ 10 ^ 20) : 0 ≤ r * m / 9 ∧ r * m / 9 < 10 ^ 60 := by
  have a := Int.mul_nonneg h0 (Int.le_of_lt hm)
  have b : r * m ≤ 200 * 10 ^ 20 := Int.mul_le_mul (Int.le_of_lt h1) hm1 (Int.le_of_lt hm) (by decide)
  have c : (200 : Int) * 10 ^ 20 < 10 ^ 60 := by decide
  generalize r * m = z at *
  omega
def mosts : List Int := [3, 10, (10 : Int) ^ (20 : Int).toNat]
def drys : List Int := [1, 30, 200]
theorem ok__law_things (B : Blt mg) (c__law_cell_at : Cal P w K mg base 1 "_law_cell_at" (sp_cell K)) (c__law_draw : Cal P w K mg base 1 "_law_draw" sp_draw) (D : Def K mg "_law_things" s__law_things ["_law_script"]) : Cal P w K mg base 2 "_law_things" (sp_things K) := by
  refine D.cal sc__law_things (fun vs H Q E h => ?_) (fun f cdv A outer s H vs Q E hr h => ?_)
  · obtain ⟨a, ns, rfl, _⟩ := h
    rfl
  · obtain ⟨a, ns, rfl, hs, hz, q⟩ := h
    refine ⟨_, pss_cons (ps_set (i := 0) sc__law_things.nd rfl (.inl rfl) (pe_slice (r := rSlL K) sl_list (pv 0) po_none (po_some pe_int)))
    (pss_cons (ps_par (i := 1) (j := 2) rfl sc__law_things.nd rfl rfl (by decide) rfl rfl (pa_cons (pe_cal c__law_draw hr (by decide) (by rfl) (pa_cons (pe_cal c__law_cell_at hr (by decide) (by rfl) (pa_cons (pv 0) (pa_cons pe_int pa_nil))) (pa_cons pe_int (pa_cons pe_int pa_nil)))) (pa_cons (pe_lst pa_nil) pa_nil)) (by rfl))
    (pss_cons (ps_if (pt_cmpR op_eq (pe_op op_mod (pe_callB (r := rLenB K) cb_len (by rfl) B.len (by decide +kernel) (pa_cons (pv 0) pa_nil)) pe_int) pe_int (nomark _))
      (pss_cons (ps_for PassesOwn.never rfl (pi_range3 (by rfl) B.range (pa_cons pe_int (pa_cons (pe_callB (r := rLenB K) cb_len (by rfl) B.len (by decide +kernel) (pa_cons (pv 0) pa_nil)) (pa_cons pe_int pa_nil)))) (pg_name (i := 3) sc__law_things.nd rfl (.inl rfl))
          (pss_cons (ps_setLc (i := 4) (own := [("_law_cell", 6)]) rfl sc__law_things.nd rfl rfl (sw_true rfl rfl rfl (by decide +kernel)) (pi_list (pe_slice (r := rSlL K) sl_list (pv 0) (po_some (pv 3)) (po_some (pe_op op_add (pv 3) pe_int)))) (blkOk_by (N := n__law_things) (sc := defScope s__law_things) (by decide +kernel)) (fun _ _ _ _ _ => (pg_name (i := 6) sc__law_things.nd rfl (.inl rfl))) (fun _ _ _ _ _ => pts_nil) (fun _ _ _ _ _ => (pe_op op_mod (pv 6) (pe_op op_pow pe_int pe_int))))
            (pss_one (ps_expr (pe_bm PySem.F.plainAttrs_list PySem.F.slot_list_append PySem.F.type_list_append mt_append (pv 2) (pa_cons (pe_tup (pa_cons (pe_ix (r := rIxL K) ix_list (pv 4) pe_int (fun _ _ => rfl)) (pa_cons (pe_ix (r := rIxL K) ix_list (pv 4) pe_int (fun _ _ => rfl)) (pa_cons (pe_ix (r := rIxL K) ix_list (pv 4) pe_int (fun _ _ => rfl)) pa_nil)))) pa_nil))))))
        (pss_one (ps_ret (pv 2))))
      (pss_nil))
    (pss_cons (ps_set (i := 5) sc__law_things.nd rfl (.inl rfl) (pe_ix (r := rIxT K) ix_tup (pe_tup (pa_cons pe_int (pa_cons pe_int (pa_cons (pe_op op_pow pe_int pe_int) pa_nil)))) (pe_cal c__law_draw hr (by decide) (by rfl) (pa_cons (pe_cal c__law_cell_at hr (by decide) (by rfl) (pa_cons (pv 0) (pa_cons pe_int pa_nil))) (pa_cons pe_int (pa_cons pe_int pa_nil)))) (fun _ _ => rfl)))
    (pss_cons (ps_for PassesOwn.never rfl (pi_range1 (by rfl) B.range (pa_cons (pe_op op_mul (pe_callB (r := rLenB K) cb_len (by rfl) B.len (by decide +kernel) (pa_cons (pv 0) pa_nil)) (pe_ifExp (pt_cmpR op_eq (pv 1) pe_int (nomark _)) pe_int pe_int)) pa_nil)) (pg_name (i := 3) sc__law_things.nd rfl (.inl rfl))
      (pss_cons (ps_set (i := 6) sc__law_things.nd rfl (.inl rfl) (pe_op op_add (pe_ix (r := rIxL K) ix_list (pv 0) (pe_op op_mod (pv 3) (pe_callB (r := rLenB K) cb_len (by rfl) B.len (by decide +kernel) (pa_cons (pv 0) pa_nil))) (fun _ _ => rfl)) (pe_op op_mul pe_int (pe_op op_fdivW (pv 3) (pe_callB (r := rLenB K) cb_len (by rfl) B.len (by decide +kernel) (pa_cons (pv 0) pa_nil))))))
        (pss_cons (ps_par (i := 7) (j := 8) rfl sc__law_things.nd rfl rfl (by decide) rfl rfl (pa_cons (pe_op op_mod (pv 6) (pv 5)) (pa_cons (pe_op op_fdivW (pv 6) (pv 5)) pa_nil)) (by rfl))
        (pss_cons (ps_par (i := 9) (j := 10) rfl sc__law_things.nd rfl rfl (by decide) rfl rfl (pa_cons (pe_op op_mod (pv 8) (pv 5)) (pa_cons (pe_op op_mod (pe_op op_fdivW (pv 8) (pv 5)) (pv 5)) pa_nil)) (by rfl))
        (pss_mid (ps_if (pt_cmpR op_gt (pv 1) pe_int (nomark _))
          (pss_cons (ps_set (i := 7) sc__law_things.nd rfl (.inl rfl) (pe_op op_fdivW (pe_op op_mul (pe_cal c__law_draw hr (by decide) (by rfl) (pa_cons (pv 6) (pa_cons (pe_op op_add (pe_op op_mod (pv 3) pe_int) pe_int) (pa_cons pe_int pa_nil)))) (pv 5)) pe_int))
            (pss_cons (ps_set (i := 9) sc__law_things.nd rfl (.inl rfl) (pe_op op_fdivW (pe_op op_mul (pe_cal c__law_draw hr (by decide) (by rfl) (pa_cons (pe_op op_add (pe_op op_mul (pv 6) pe_int) (pv 3)) (pa_cons (pe_op op_add (pe_op op_mod (pv 3) pe_int) pe_int) (pa_cons (pe_ix (r := rIxT K) ix_tup (pe_tup (pa_cons pe_int (pa_cons pe_int (pa_cons pe_int pa_nil)))) (pe_cal c__law_draw hr (by decide) (by rfl) (pa_cons (pv 6) (pa_cons pe_int (pa_cons pe_int pa_nil)))) (fun _ _ => rfl)) pa_nil)))) (pv 5)) pe_int))
            (pss_one (ps_set (i := 10) sc__law_things.nd rfl (.inl rfl) (pe_op op_fdivW (pe_op op_mul (pe_cal c__law_draw hr (by decide) (by rfl) (pa_cons (pe_op op_add (pe_op op_mul (pv 6) pe_int) pe_int) (pa_cons (pe_op op_add (pe_op op_mod (pv 3) pe_int) pe_int) (pa_cons pe_int pa_nil)))) (pv 5)) pe_int)))))
          (pss_nil))
        (pss_mid (ps_if (pt_cmpR op_eq (pv 1) pe_int (nomark _))
          (pss_one (ps_set (i := 9) sc__law_things.nd rfl (.inl rfl) pe_int))
          (pss_nil))
        (pss_mid (ps_if (PW.pt (pw_and (pt_cmpR op_eq (pv 1) pe_int (nomark _)) (pw_and1 (pt_cmpR op_lt (pv 7) (pv 10) (nomark _)))))
          (pss_one (ps_par (i := 7) (j := 10) rfl sc__law_things.nd rfl rfl (by decide) rfl rfl (pa_cons (pv 10) (pa_cons (pv 7) pa_nil)) (by rfl)))
          (pss_nil))
        (pss_one (ps_expr (pe_bm PySem.F.plainAttrs_list PySem.F.slot_list_append PySem.F.type_list_append mt_append (pv 2) (pa_cons (pe_tup (pa_cons (pv 7) (pa_cons (pv 9) (pa_cons (pv 10) pa_nil)))) pa_nil)))))))))))
    (pss_one (ps_ret (pv 2))))))), ?_⟩
    walk_at "go"
    refine i_slL hs fun p1 H1 np1 s1 h1 => ?_
    rw [show (63 : Int) = ((63 : Nat) : Int) from rfl, cut_to, List.take_of_length_le (by rw [List.length_map]; exact hz)] at h1
    walk_at "go"
    refine ⟨p1, ns, 0, rfl, SqL.of h1, ?_⟩
    walk_at "go"
    refine ⟨_, 6, 6, rfl, by decide, by decide, fun kind H2 s2 hk0 hk1 => ?_⟩
    walk_at "go"
    refine i_lstk (Nat.zero_le _) fun pf H3 npf s3 h3 => ?_
    have sl : ∀ {H'}, Same H2 H' → SqL K H' p1 (ns.map V.int) := fun e => e.seq (s2.seq (SqL.of h1))
    have nf : H pf = none := (s1.trans s2).free npf
    walk_at "go"
    refine i_lenL (sl s3) ?_
    walk_at "go"
    refine i_I (by show (0 : Int) < 3; decide) ?_
    walk_at "go"
    rw [List.length_map]
    refine i_itd (fun c3 => ?_) (fun c3 => ?_)
    · walk_at "go"
      refine i_lenL (sl s3) ?_
      walk_at "go"
      rw [List.length_map]
      refine i_itc (rg3 hz) ?_
      refine for_rangeC (fun i σ' H' => ∃ y3 y4 vs' ts, σ' = [some (.ref p1), some (.int kind), some (.ref pf), y3, y4, none, none, none, none, none, none] ∧ Same H2 H' ∧ H' pf = some (.lst vs') ∧ ThL K H' vs' ts ∧ (∀ t ∈ ts, Sm t) ∧ ts.length = i) ?_ ?_ ?_
      · exact ⟨_, _, [], [], rfl, s3, h3, All2.nil, (fun t h => by cases h), rfl⟩
      · rintro i σ' H' hi ⟨y3, y4, vs', ts, rfl, sm, hf, hT, hS, hl⟩
        walk_at "go"
        refine i_slL (sl sm) fun p4 H4 np4 s4 h4 => ?_
        have hi3 : i * 3 + 3 ≤ ns.length := by omega
        rw [show (0 : Int) + (i : Nat) * 3 = ((i * 3 : Nat) : Int) by omega, show ((i * 3 : Nat) : Int) + 3 = ((i * 3 + 3 : Nat) : Int) by omega, cut_mid _ _ _ (by rw [List.length_map]; exact hi3)] at h4
        walk_at "go"
        refine i_itl (SqL.of h4) ?_
        have l3 : (((ns.map V.int).drop (i * 3)).take 3).length = 3 := by rw [List.length_take, List.length_drop, List.length_map]; omega
        refine fun p5 np5 => lc_map (K := K) (R := fun _ y _ => ∃ r : Int, y = .int r ∧ 0 ≤ r ∧ r < (10 : Int) ^ (59 : Int).toNat) (fun _ h => h) sqn_l (fun H' e => e.seq (SqL.of h4)) (by rw [l3]; decide) np5 (fun j x H' Qc Qn hx sm k => ?_) (fun ys H5 s5 hy hl5 hr5 => ?_)
        · obtain ⟨m, rfl⟩ : ∃ m : Int, x = .int m := by
            have hm := List.mem_of_mem_drop (List.mem_of_mem_take (List.mem_of_getElem? hx))
            obtain ⟨m, _, e⟩ := List.mem_map.mp hm
            exact ⟨m, e.symm⟩
          walk_at "go"
          refine ⟨rfl, ?_⟩
          walk_at "go"
          refine i_I (⟨by decide, by decide, by decide⟩ : CPow 10 59) ?_
          have pp : (0 : Int) < (10 : Int) ^ (59 : Int).toNat := by decide
          refine i_I pp ?_
          exact k _ _ (Same.refl _) ⟨_, rfl, Int.emod_nonneg _ (by omega), Int.emod_lt_of_pos _ pp⟩
        · rw [l3] at hl5
          obtain ⟨r0, e0, b0, c0⟩ := hr5 0 ys[0] (List.getElem?_eq_getElem (by omega))
          obtain ⟨r1, e1, b1, c1⟩ := hr5 1 ys[1] (List.getElem?_eq_getElem (by omega))
          obtain ⟨r2, e2, b2, c2⟩ := hr5 2 ys[2] (List.getElem?_eq_getElem (by omega))
          have nf5 : H5 pf = some (.lst vs') := s5 _ _ (s4 _ _ hf)
          walk_at "go"
          refine ⟨ty_lst nf5, ?_⟩
          walk_at "go"
          refine i_ixL (SqL.of hy) (v := .int r0) (atI_nat (j := 0) (by rw [← e0]; exact List.getElem?_eq_getElem (by omega))) ?_
          walk_at "go"
          refine i_ixL (SqL.of hy) (v := .int r1) (atI_nat (j := 1) (by rw [← e1]; exact List.getElem?_eq_getElem (by omega))) ?_
          walk_at "go"
          refine i_ixL (SqL.of hy) (v := .int r2) (atI_nat (j := 2) (by rw [← e2]; exact List.getElem?_eq_getElem (by omega))) ?_
          walk_at "go"
          refine i_tupk (by show 3 ≤ 100000; decide) fun p6 H6 np6 s6 h6 => ?_
          walk_at "go"
          refine i_app (s6 _ _ nf5) (by rw [hT.len, hl]; omega) ?_
          walk_at "go"
          refine ⟨_, _, vs' ++ [.ref p6], ts ++ [(r0, r1, r2)], rfl, Same.mut (((sm.trans s4).trans s5).trans s6) npf, upd_same, ThL.mono (sameT_lst (s6 _ _ nf5)) (All2.snoc (ThL.mono (smT ((s4.trans s5).trans s6)) hT) ⟨p6, rfl, SqT.of h6⟩), fun t ht => ?_, by rw [List.length_append, hl]; rfl⟩
          rcases List.mem_append.mp ht with ht | ht
          · exact hS t ht
          · rw [List.mem_singleton.mp ht]
            exact ⟨⟨b0, b1, b2⟩, p60_59 c0, p60_59 c1, p60_59 c2⟩
      · rintro σ' H' ⟨y3, y4, vs', ts, rfl, sm, hf, hT, hS, hl⟩
        walk_at "go"
        exact q H' pf vs' ts ((s1.trans s2).trans sm) nf hf hT hS (by omega)
    · walk_at "go"
      refine i_I (⟨by decide, by decide, by decide⟩ : CPow 10 20) ?_
      walk_at "go"
      refine i_tupk (xs := mosts.map V.int) (by show 3 ≤ 100000; decide) fun pt H4 npt s4 h4 => ?_
      walk_at "go"
      refine ⟨p1, ns, 1, rfl, sl (s3.trans s4), ?_⟩
      walk_at "go"
      refine ⟨_, 7, 3, rfl, by decide, by decide, fun r H5 s5 r0 r1 => ?_⟩
      have er : r = ((r.toNat : Nat) : Int) := by omega
      obtain ⟨most, hmost⟩ : ∃ m, mosts[r.toNat]? = some m := ⟨_, List.getElem?_eq_getElem (by show r.toNat < 3; omega)⟩
      have hm : 0 < most ∧ most ≤ 10 ^ 20 := (by decide : ∀ x ∈ mosts, 0 < x ∧ x ≤ 10 ^ 20) most (List.mem_of_getElem? hmost)
      have hml : most.natAbs.log2 < 9000 := log_small (by
        have h1 := hm.2
        have h2 : (10 : Int) ^ 20 < 2 ^ 200 := by decide
        have h3 : ((most.natAbs : Nat) : Int) < ((2 ^ 200 : Nat) : Int) := by
          rw [show ((2 ^ 200 : Nat) : Int) = (2 : Int) ^ 200 by decide]
          omega
        exact Int.ofNat_lt.mp h3)
      refine i_ixT (SqT.of (s5 _ _ h4)) (v := .int most) (by rw [er]; exact atI_nat (by rw [List.getElem?_map, hmost]; rfl)) ?_
      walk_at "go"
      have sq5 : Same H2 H5 := (s3.trans s4).trans s5
      refine i_lenL (sl sq5) ?_
      walk_at "go"
      rw [List.length_map]
      refine i_itdC fun v hv => ?_
      obtain ⟨c, rfl, hc⟩ : ∃ c : Nat, v = .int (c : Int) ∧ c ≤ 3 := by
        rcases hv with rfl | rfl
        · exact ⟨3, rfl, by decide⟩
        · exact ⟨1, rfl, by decide⟩
      refine i_I (.inl ⟨by omega, by omega⟩) ?_
      walk_at "go"
      have hmul : ns.length * c ≤ 189 := Nat.mul_le_mul hz hc
      refine i_itr (m := ns.length * c) (by rw [Int.natCast_mul]) (by omega) ?_
      refine for_rng (fun i σ' H' => ∃ y3 y6 y7 y8 y9 y10 vs' ts, σ' = [some (.ref p1), some (.int kind), some (.ref pf), y3, none, some (.int most), y6, y7, y8, y9, y10] ∧ Same H2 H' ∧ H' pf = some (.lst vs') ∧ ThL K H' vs' ts ∧ (∀ t ∈ ts, Sm t) ∧ ts.length = i) ?_ ?_ ?_
      · exact ⟨_, _, _, _, _, _, [], [], rfl, sq5, s5 _ _ (s4 _ _ h3), All2.nil, (fun t h => by cases h), rfl⟩
      · rintro i σ' H' hi ⟨y3, y6, y7, y8, y9, y10, vs', ts, rfl, sm, hf, hT, hS, hl⟩
        have hpos : 0 < ns.length := by
          rcases Nat.eq_zero_or_pos ns.length with e | e
          · rw [e, Nat.zero_mul] at hi; omega
          · exact e
        walk_at "go"
        refine i_lenL (sl sm) ?_
        rw [List.length_map]
        refine i_I (by omega) ?_
        have hix : ((i : Int) % (ns.length : Int)) = ((i % ns.length : Nat) : Int) := by omega
        obtain ⟨n0, hn0⟩ : ∃ m, ns[i % ns.length]? = some m := ⟨_, List.getElem?_eq_getElem (Nat.mod_lt _ hpos)⟩
        refine i_ixL (sl sm) (v := .int n0) (by rw [hix]; exact atI_nat (by rw [List.getElem?_map, hn0]; rfl)) ?_
        walk_at "go"
        refine i_lenL (sl sm) ?_
        rw [List.length_map]
        refine i_I (⟨by omega, log_small (by rw [Int.natAbs_natCast]; exact Nat.lt_of_le_of_lt hz (by decide))⟩ : CDivW _ _) ?_
        refine i_I (.inl ⟨by decide, by decide⟩) ?_
        walk_at "go"
        generalize n0 + 977 * ((i : Int) / (ns.length : Int)) = cell
        refine i_I hm.1 ?_
        walk_at "go"
        refine i_I (⟨hm.1, hml⟩ : CDivW _ _) ?_
        walk_at "go"
        refine i_I hm.1 ?_
        walk_at "go"
        refine i_I (⟨hm.1, hml⟩ : CDivW _ _) ?_
        walk_at "go"
        refine i_I hm.1 ?_
        walk_at "go"
        have md : ∀ x : Int, 0 ≤ x % most ∧ x % most < 10 ^ 60 := fun x => ⟨Int.emod_nonneg _ (by omega), p60_20 (Int.emod_lt_of_pos _ hm.1) hm.2⟩
        have b1 := md cell
        have b2 := md (cell / most)
        have b3 := md (cell / most / most)
        generalize cell % most = one0 at b1
        generalize cell / most % most = dry0 at b2
        generalize cell / most / most % most = oth0 at b3
        generalize cell / most = rest0
        let W : L2.St → Hp → Prop := fun σ'' H'' => ∃ one dry oth : Int, σ'' = [some (.ref p1), some (.int kind), some (.ref pf), some (.int (i : Int)), none, some (.int most), some (.int cell), some (.int one), some (.int rest0), some (.int dry), some (.int oth)] ∧ Same H' H'' ∧ (0 ≤ one ∧ one < 10 ^ 60) ∧ (0 ≤ dry ∧ dry < 10 ^ 60) ∧ (0 ≤ oth ∧ oth < 10 ^ 60)
        refine i_mid W ?_ ?_
        · walk_at "go"
          refine i_itd (fun c2 => ?_) (fun c2 => ?_)
          · walk_at "go"
            refine i_I (by show (0 : Int) < 5; decide) ?_
            walk_at "go"
            refine ⟨_, _, 30, rfl, by omega, by decide, fun d1 H6 s6 d10 d11 => ?_⟩
            walk_at "go"
            refine i_I (.inl ⟨by omega, by omega⟩) ?_
            walk_at "go"
            refine i_I (⟨by decide, by decide⟩ : CDivW _ 9) ?_
            walk_at "go"
            refine i_I (.inr ⟨by decide, by decide⟩) ?_
            walk_at "go"
            refine i_I (by show (0 : Int) < 7; decide) ?_
            walk_at "go"
            refine i_tupk (xs := drys.map V.int) (by show 3 ≤ 100000; decide) fun pd H7 npd s7 h7 => ?_
            walk_at "go"
            refine ⟨_, 3, 3, rfl, by decide, by decide, fun r2 H8 s8 r20 r21 => ?_⟩
            have er2 : r2 = ((r2.toNat : Nat) : Int) := by omega
            obtain ⟨dm, hdm⟩ : ∃ m, drys[r2.toNat]? = some m := ⟨_, List.getElem?_eq_getElem (by show r2.toNat < 3; omega)⟩
            have hd : 0 < dm ∧ dm ≤ 200 := (by decide : ∀ x ∈ drys, 0 < x ∧ x ≤ 200) dm (List.mem_of_getElem? hdm)
            refine i_ixT (SqT.of (s8 _ _ h7)) (v := .int dm) (by rw [er2]; exact atI_nat (by rw [List.getElem?_map, hdm]; rfl)) ?_
            walk_at "go"
            refine ⟨_, _, dm, rfl, by omega, hd.1, fun d2 H9 s9 d20 d21 => ?_⟩
            walk_at "go"
            refine i_I (.inl ⟨by omega, by omega⟩) ?_
            walk_at "go"
            refine i_I (⟨by decide, by decide⟩ : CDivW _ 9) ?_
            walk_at "go"
            refine i_I (.inr ⟨by decide, by decide⟩) ?_
            walk_at "go"
            refine i_I (by show (0 : Int) < 3; decide) ?_
            walk_at "go"
            refine ⟨_, _, 30, rfl, by omega, by decide, fun d3 H10 s10 d30 d31 => ?_⟩
            walk_at "go"
            refine i_I (.inl ⟨by omega, by omega⟩) ?_
            walk_at "go"
            refine i_I (⟨by decide, by decide⟩ : CDivW _ 9) ?_
            walk_at "go"
            exact ⟨_, _, _, rfl, (((s6.trans s7).trans s8).trans s9).trans s10, dr_bound d10 (by omega) hm.1 hm.2, dr_bound d20 (by omega) hm.1 hm.2, dr_bound d30 (by omega) hm.1 hm.2⟩
          · walk_at "go"
            exact ⟨one0, dry0, oth0, rfl, Same.refl _, b1, b2, b3⟩
        · rintro σ2 H6 ⟨one, dry, oth, rfl, s6, c1, c2, c3'⟩
          refine i_mid W ?_ ?_
          · walk_at "go"
            refine i_itd (fun c2 => ?_) (fun c2 => ?_)
            · walk_at "go"
              exact ⟨one, 0, oth, rfl, s6, c1, ⟨by decide, by decide⟩, c3'⟩
            · walk_at "go"
              exact ⟨one, dry, oth, rfl, s6, c1, by assumption, c3'⟩
          · rintro σ3 H7 ⟨one, dry, oth, rfl, s7, c1, c2, c3'⟩
            refine i_mid W ?_ ?_
            · walk_at "go"
              refine i_itd (fun k4 => ?_) (fun k4 => ?_)
              · walk_at "go"
                refine i_itd (fun k5 => ?_) (fun k5 => ?_)
                · walk_at "go"
                  exact ⟨oth, dry, one, rfl, s7, c3', c2, c1⟩
                · walk_at "go"
                  exact ⟨one, dry, oth, rfl, s7, c1, c2, c3'⟩
              · walk_at "go"
                exact ⟨one, dry, oth, rfl, s7, c1, c2, c3'⟩
            · rintro σ4 H8 ⟨one, dry, oth, rfl, s8, c1, c2, c3'⟩
              have hf8 := s8 _ _ hf
              walk_at "go"
              refine ⟨ty_lst hf8, ?_⟩
              walk_at "go"
              refine i_tupk (by show 3 ≤ 100000; decide) fun p6 H9 np6 s9 h9 => ?_
              walk_at "go"
              refine i_app (s9 _ _ hf8) (by rw [hT.len, hl]; omega) ?_
              walk_at "go"
              refine ⟨_, _, _, _, _, _, vs' ++ [.ref p6], ts ++ [(one, dry, oth)], rfl, Same.mut ((sm.trans s8).trans s9) npf, upd_same, ThL.mono (sameT_lst (s9 _ _ hf8)) (All2.snoc (ThL.mono (smT (s8.trans s9)) hT) ⟨p6, rfl, SqT.of h9⟩), fun t ht => ?_, by rw [List.length_append, hl]; rfl⟩
              rcases List.mem_append.mp ht with ht | ht
              · exact hS t ht
              · rw [List.mem_singleton.mp ht]
                exact ⟨⟨c1.1, c2.1, c3'.1⟩, c1.2, c2.2, c3'.2⟩
      · rintro σ' H' ⟨y3, y6, y7, y8, y9, y10, vs', ts, rfl, sm, hf, hT, hS, hl⟩
        walk_at "go"
        exact q H' pf vs' ts ((s1.trans s2).trans sm) nf hf hT hS (by omega)
end
def sp_ldone (K : PySem.W.Frag) : Sp := fun vs H Q _ => ∃ (a b : Addr) (ts : List T3) (os : List Nat), vs = [.ref a, .ref b] ∧ Things K H a ts ∧ SqL K H b ((zs os).map V.int) ∧ (∀ k ∈ os, k < ts.length) ∧ os.length ≤ 1000 ∧ ∀ H', Same H H' → Q (.int (ld (sq ts os))) H'
theorem sb_sum : ∀ l : List T3, (l.map fun t => t.2.2).sum = sb l
  | [] => rfl
  | t :: r => by rw [List.map_cons, List.sum_cons, sb_sum r, sb]
def third (ts : List T3) : V → V
  | .int z => .int (ts.getD z.toNat (0, 0, 0)).2.2
  | v => v
theorem third_map (ts : List T3) (os : List Nat) : (((zs os).map V.int).filter fun _ => true).map (third ts) = ((sq ts os).map fun t => t.2.2).map V.int := by
  rw [List.filter_eq_self.mpr fun _ _ => rfl]
  unfold zs sq
  rw [List.map_map, List.map_map, List.map_map, List.map_map]
  refine List.map_congr_left fun k _ => ?_
  show third ts (.int (k : Int)) = .int (ts.getD k (0, 0, 0)).2.2
  rfl
theorem sq_drop_cons {ts : List T3} {os : List Nat} {i k : Nat} (h : os[i]? = some k) : (sq ts os).drop i = ts.getD k (0, 0, 0) :: (sq ts os).drop (i + 1) := by
  obtain ⟨hi, e⟩ := List.getElem?_eq_some_iff.mp (sq_at (ts := ts) h)
  rw [List.drop_eq_getElem_cons hi, e]
section
variable {P : Program} {w : World} {K : PySem.W.Frag} {mg : Str → Option Value} {base : Heap}
theorem ok__law_done (B : Blt mg) (D : Def K mg "_law_done" s__law_done ["_law_things_here", "_law_order_here"]) : Cal P w K mg base 1 "_law_done" (sp_ldone K) := by
  refine D.cal sc__law_done (fun vs H Q E h => ?_) (fun f cdv A outer s H vs Q E hr h => ?_)
  · obtain ⟨a, b, ts, os, rfl, _⟩ := h
    rfl
  · obtain ⟨a, b, ts, os, rfl, hT, hO, hk, hz, q⟩ := h
    refine ⟨_, pss_cons (ps_par3 (i := 2) (j := 3) (l := 4) rfl sc__law_done.nd rfl rfl rfl (by decide) (by decide) (by decide) rfl rfl rfl (pa_cons pe_int (pa_cons (pe_callB (r := rSum K) (cr_sum rfl) (by rfl) B.sum (by decide +kernel) (pa_cons (pe_lc (own := [("_law_at", 5)]) rfl sc__law_done.nd (pi_list (pv 1)) (blkOk_by (N := n__law_done) (sc := defScope s__law_done) (by decide +kernel)) (fun _ _ _ _ _ => (pg_name (i := 5) sc__law_done.nd rfl (.inl rfl))) (fun _ _ _ _ _ => pts_nil) (fun _ _ _ _ _ => (pe_ix (r := rIxT K) ix_tup (pe_ix (r := rIxL K) ix_list (pv 0) (pv 5) (fun _ _ => rfl)) pe_int (fun _ _ => rfl)))) pa_nil)) (pa_cons pe_int pa_nil))) (by rfl))
    (pss_cons (ps_for PassesOwn.never rfl (pi_list (pv 1)) (pg_name (i := 5) sc__law_done.nd rfl (.inl rfl))
      (pss_cons (ps_set (i := 2) sc__law_done.nd rfl (.inl rfl) (pe_op op_add (pv 2) (pe_ix (r := rIxT K) ix_tup (pe_ix (r := rIxL K) ix_list (pv 0) (pv 5) (fun _ _ => rfl)) pe_int (fun _ _ => rfl))))
        (pss_cons (ps_set (i := 4) sc__law_done.nd rfl (.inl rfl) (pe_callB (cb_max2 rfl) (by rfl) B.max (by decide +kernel) (pa_cons (pv 4) (pa_cons (pe_op op_add (pe_op op_add (pv 2) (pe_ix (r := rIxT K) ix_tup (pe_ix (r := rIxL K) ix_list (pv 0) (pv 5) (fun _ _ => rfl)) pe_int (fun _ _ => rfl))) (pv 3)) pa_nil))))
        (pss_one (ps_set (i := 3) sc__law_done.nd rfl (.inl rfl) (pe_op op_sub (pv 3) (pe_ix (r := rIxT K) ix_tup (pe_ix (r := rIxL K) ix_list (pv 0) (pv 5) (fun _ _ => rfl)) pe_int (fun _ _ => rfl))))))))
    (pss_one (ps_ret (pv 4)))), ?_⟩
    walk_at "go"
    refine i_itl hO ?_
    refine fun p1 np1 => lc_fm (fun _ => true) (third ts) sqn_l (fun H' e => e.seq hO) (by rw [zs_len']; omega) np1 (fun i x H' Qc Qn hx sm k _ => ?_) (fun H1 s1 h1 => ?_)
    · obtain ⟨m, hm, rfl⟩ := zs_at hx
      walk_at "go"
      refine ⟨rfl, ?_⟩
      walk_at "go"
      refine i_thing (hT.mono sm) (getD_at (hk m (List.mem_of_getElem? hm))) fun p hp => ?_
      walk_at "go"
      refine i_ixT hp (v := .int (ts.getD m (0, 0, 0)).2.2) (atI_nat (j := 2) rfl) ?_
      exact k rfl H' (Same.refl _)
    · rw [third_map] at h1
      walk_at "go"
      refine i_sum (SqL.of h1) ?_
      rw [sb_sum]
      walk_at "go"
      refine i_itl (s1.seq hO) ?_
      refine for_list (K := K) (a := b) (xs := (zs os).map V.int) (fun i σ' H' => ∃ (m : Int) (y5 : Option V), σ' = [some (.ref a), some (.ref b), some (.int (sa ((sq ts os).take i))), some (.int (sb ((sq ts os).drop i))), some (.int m), y5] ∧ Same H H' ∧ mx (sa ((sq ts os).take i)) ((sq ts os).drop i) m = ld (sq ts os)) ?_ ?_ ?_ ?_
      · exact ⟨0, _, rfl, s1, rfl⟩
      · rintro i σ' H' _ ⟨_, _, _, sm, _⟩
        exact sm.seq hO
      · rintro i x σ' H' hx ⟨m, y5, rfl, sm, e⟩
        obtain ⟨k, hk1, rfl⟩ := zs_at hx
        have ht := getD_at (hk k (List.mem_of_getElem? hk1))
        have hT' := hT.mono sm
        rw [sq_drop_cons hk1, mx] at e
        rw [sq_drop_cons hk1, take_snoc (sq_at hk1), sa_snoc, sb]
        walk_at "go"
        refine i_thing hT' ht fun p hp => ?_
        walk_at "go"
        refine i_ixT hp (v := .int (ts.getD k (0, 0, 0)).1) (atI_nat (j := 0) rfl) ?_
        walk_at "go"
        refine i_thing hT' ht fun p2 hp2 => ?_
        walk_at "go"
        refine i_ixT hp2 (v := .int (ts.getD k (0, 0, 0)).2.1) (atI_nat (j := 1) rfl) ?_
        walk_at "go"
        refine i_thing hT' ht fun p3 hp3 => ?_
        walk_at "go"
        refine i_ixT hp3 (v := .int (ts.getD k (0, 0, 0)).2.2) (atI_nat (j := 2) rfl) ?_
        walk_at "go"
        rw [show (ts.getD k (0, 0, 0)).2.2 + sb ((sq ts os).drop (i + 1)) - (ts.getD k (0, 0, 0)).2.2 = sb ((sq ts os).drop (i + 1)) by omega]
        exact ⟨_, _, rfl, sm, e⟩
      · rintro σ' H' ⟨m, y5, rfl, sm, e⟩
        walk_at "go"
        rw [zs_len', List.drop_of_length_le (by rw [sq_len]; exact Nat.le_refl _)] at e
        have e2 : m = ld (sq ts os) := e
        rw [e2]
        exact q H' sm
theorem ok__law_whole (B : Blt mg) (D : Def K mg "_law_whole" s__law_whole ["_law_number"]) : Cal P w K mg base 1 "_law_whole" sp_whole := by
  refine D.cal sc__law_whole (fun vs H Q E h => ?_) (fun f cdv A outer s H vs Q E hr h => ?_)
  · obtain ⟨m, rfl, _⟩ := h
    rfl
  · obtain ⟨m, rfl, q⟩ := h
    refine ⟨_, pss_one (ps_ret (pe_and (pe_callB (r := rIsi K) call_isi (by rfl) B.isinstance (by decide +kernel) (pa_cons (pv 0) (pa_cons (pe_bltn (v := .ty "int") (u := .type "int") (by rfl) B.int (by decide +kernel) rfl) pa_nil))) (pe_one (pe_not (pe_callB (r := rIsi K) call_isi (by rfl) B.isinstance (by decide +kernel) (pa_cons (pv 0) (pa_cons (pe_bltn (v := .ty "bool") (u := .type "bool") (by rfl) B.bool (by decide +kernel) rfl) pa_nil))))))), ?_⟩
    walk_at "go"
    refine i_isi (r := true) ty_int (by decide +kernel) ?_
    walk_at "go"
    refine i_isi (r := false) ty_int (by decide +kernel) ?_
    walk_at "go"
    exact q
end
abbrev s_is_apart : Stmt := topS 11
abbrev n_is_apart : List Str := ["things", "apart", "last", "at"]
theorem sc_is_apart : FnScope n_is_apart ["things", "apart"] (defScope s_is_apart) := ⟨rfl, rfl, rfl, by decide +kernel, rfl, by decide +kernel, by decide +kernel⟩
abbrev s_worth_of : Stmt := topS 12
abbrev n_worth_of : List Str := ["things", "bench", "apart", "length", "worth", "met", "marks", "at", "thing", "here", "there"]
theorem sc_worth_of : FnScope n_worth_of ["things", "bench", "apart", "length"] (defScope s_worth_of) := ⟨rfl, rfl, rfl, by decide +kernel, rfl, by decide +kernel, by decide +kernel⟩
abbrev s_Soonest___init__ : Stmt := inClass (topS 13) 0
abbrev n_Soonest___init__ : List Str := ["self", "order", "bench", "apart", "length"]
theorem sc_Soonest___init__ : FnScope n_Soonest___init__ ["self", "order", "bench", "apart", "length"] (defScope s_Soonest___init__) := ⟨rfl, rfl, rfl, by decide +kernel, rfl, by decide +kernel, by decide +kernel⟩
abbrev s_Soonest_shows : Stmt := inClass (topS 13) 1
abbrev n_Soonest_shows : List Str := ["self", "things", "worth"]
theorem sc_Soonest_shows : FnScope n_Soonest_shows ["self", "things"] (defScope s_Soonest_shows) := ⟨rfl, rfl, rfl, by decide +kernel, rfl, by decide +kernel, by decide +kernel⟩
/-- is_apart, of any whole numbers -/
def sp_apart (K : PySem.W.Frag) : Sp := fun vs H Q _ => ∃ (a b : Addr) (ts : List T3) (ns : List Int), vs = [.ref a, .ref b] ∧ Things K H a ts ∧ SqL K H b (ns.map V.int) ∧ ∀ H', Same H H' → Q (.bl (ris ts.length (-1) ns)) H'
def wV : Option Int → V
  | none => .non
  | some m => .int m
/-- worth_of, of any whole numbers -/
def sp_worth (K : PySem.W.Frag) : Sp := fun vs H Q _ => ∃ (a p : Addr) (ts : List T3) (b l : Int) (ns : List Int), vs = [.ref a, .int b, .ref p, .int l] ∧ Things K H a ts ∧ SqL K H p (ns.map V.int) ∧ ts.length ≤ 1000 ∧ ∀ H', Same H H' → Q (wV (wv ts b ns l)) H'
section
variable {P : Program} {w : World} {K : PySem.W.Frag} {mg : Str → Option Value} {base : Heap}
theorem ok_is_apart (B : Blt mg) (c_is_whole : Cal P w K mg base 1 "is_whole" sp_whole) (D : Def K mg "is_apart" s_is_apart ["things", "apart"]) : Cal P w K mg base 2 "is_apart" (sp_apart K) := by
  refine D.cal sc_is_apart (fun vs H Q E h => ?_) (fun f cdv A outer s H vs Q E hr h => ?_)
  · obtain ⟨a, b, ts, ns, rfl, _⟩ := h
    rfl
  · obtain ⟨a, b, ts, ns, rfl, hT, hA, q⟩ := h
    refine ⟨_, pss_cons (ps_set (i := 2) sc_is_apart.nd rfl (.inl rfl) (pe_un un_neg pe_int))
    (pss_cons (ps_for PassesOwn.never rfl (pi_list (pv 1)) (pg_name (i := 3) sc_is_apart.nd rfl (.inl rfl))
      (pss_cons (ps_if (PW.pt (pw_or (pt_not (pt_val (pe_cal c_is_whole hr (by decide) (by rfl) (pa_cons (pv 3) pa_nil)))) (pw_or1 (pt_not (pt_chain op_lt op_lt (pv 2) (pv 3) (pe_callB (r := rLenB K) cb_len (by rfl) B.len (by decide +kernel) (pa_cons (pv 0) pa_nil)))))))
          (pss_one (ps_ret pe_bl))
          (pss_nil))
        (pss_one (ps_set (i := 2) sc_is_apart.nd rfl (.inl rfl) (pv 3)))))
    (pss_one (ps_ret pe_bl))), ?_⟩
    walk_at "go"
    refine i_itl hA ?_
    refine for_list (K := K) (a := b) (xs := ns.map V.int) (fun i σ' H' => ∃ (m : Int) (y3 : Option V), σ' = [some (.ref a), some (.ref b), some (.int m), y3] ∧ Same H H' ∧ ris ts.length (-1) ns = ris ts.length m (ns.drop i)) ?_ ?_ ?_ ?_
    · exact ⟨_, _, rfl, Same.refl _, rfl⟩
    · rintro i σ' H' _ ⟨_, _, _, sm, _⟩
      exact sm.seq hA
    · rintro i x σ' H' hx ⟨m, y3, rfl, sm, e⟩
      rw [List.getElem?_map] at hx
      obtain ⟨z, hz, rfl⟩ := Option.map_eq_some_iff.mp hx
      obtain ⟨hi, hz2⟩ := List.getElem?_eq_some_iff.mp hz
      rw [List.drop_eq_getElem_cons hi, hz2, ris] at e
      walk_at "go"
      refine ⟨z, rfl, ?_⟩
      walk_at "go"
      refine i_itd (fun c1 => ?_) (fun c1 => ?_)
      · walk_at "go"
        refine i_lenThings (hT.mono sm) ?_
        walk_at "go"
        rw [decide_eq_true c1, Bool.true_and] at e
        refine i_itdn (fun c2 => ?_) (fun c2 => ?_)
        · walk_at "go"
          rw [decide_eq_false c2, Bool.false_and] at e
          rw [← e]
          exact q H' sm
        · walk_at "go"
          rw [decide_eq_true c2, Bool.true_and] at e
          exact ⟨_, _, rfl, sm, e⟩
      · walk_at "go"
        rw [decide_eq_false c1, Bool.false_and, Bool.false_and] at e
        rw [← e]
        exact q H' sm
    · rintro σ' H' ⟨m, y3, rfl, sm, e⟩
      rw [List.length_map, List.drop_length] at e
      walk_at "go"
      have e2 : ris ts.length (-1) ns = true := e
      rw [← e2]
      exact q H' sm
theorem marks_list {n : Nat} {ap : List Int} {H : Hp} {p : Addr} {ys : List V} (h : H p = some (.lst ys)) (hl : ys.length = n) (hr : ∀ (i : Nat) (y : V), ys[i]? = some y → y = .bl false) : H p = some (.lst ((mks n []).map V.bl)) := by
  rw [h, mks_nil, List.map_replicate]
  refine congrArg (fun z => some (HO.lst z)) (List.eq_replicate_iff.mpr ⟨hl, fun y hy => ?_⟩)
  obtain ⟨i, hi, e⟩ := List.getElem_of_mem hy
  exact hr i y (by rw [List.getElem?_eq_getElem hi, e])
theorem marks_at {n k : Nat} {ap : List Int} (h : k < n) : ((mks n ap).map V.bl)[k]? = some (.bl (decide ((k : Int) ∈ ap))) := by
  rw [List.getElem?_map, mks_get h]; rfl
theorem marks_set {n j : Nat} {ap : List Int} (h : j < n) : ((mks n ap).map V.bl).set j (.bl true) = (mks n (ap ++ [(j : Int)])).map V.bl := by
  rw [← mks_set h, List.map_set]
theorem ok_worth_of (B : Blt mg) (c_is_whole : Cal P w K mg base 1 "is_whole" sp_whole) (c_is_apart : Cal P w K mg base 2 "is_apart" (sp_apart K)) (D : Def K mg "worth_of" s_worth_of ["things", "bench", "apart", "length"]) : Cal P w K mg base 3 "worth_of" (sp_worth K) := by
  refine D.cal sc_worth_of (fun vs H Q E h => ?_) (fun f cdv A outer s H vs Q E hr h => ?_)
  · obtain ⟨a, p, ts, b, l, ns, rfl, _⟩ := h
    rfl
  · obtain ⟨a, p, ts, b, l, ns, rfl, hT, hA, hz, q⟩ := h
    have qn : ¬ ((b = 1 ∨ b = 2) ∧ ris ts.length (-1) ns = true ∧ 0 ≤ l) → ∀ H', Same H H' → Q .non H' := fun c H' sm => by
      have z := q H' sm
      rw [wv_not c] at z
      exact z
    refine ⟨_, pss_cons (ps_if (PW.pt (pw_or (pt_not (pt_val (pe_cal c_is_whole hr (by decide) (by rfl) (pa_cons (pv 1) pa_nil)))) (pw_or (pt_cmpR (r := rIn K true) op_notIn_seq (pv 1) (pe_tup (pa_cons pe_int (pa_cons pe_int pa_nil))) (by rfl)) (pw_or (pt_not (pt_val (pe_cal c_is_apart hr (by decide) (by rfl) (pa_cons (pv 0) (pa_cons (pv 2) pa_nil))))) (pw_or (pt_not (pt_val (pe_cal c_is_whole hr (by decide) (by rfl) (pa_cons (pv 3) pa_nil)))) (pw_or1 (pt_cmpR op_lt (pv 3) pe_int (nomark _))))))))
      (pss_one (ps_ret pe_non))
      (pss_nil))
    (pss_cons (ps_set (i := 4) sc_worth_of.nd rfl (.inl rfl) (pv 3))
    (pss_cons (ps_set (i := 5) sc_worth_of.nd rfl (.inl rfl) (pe_cmpR op_eq (pv 3) pe_int (nomark _)))
    (pss_cons (ps_setLc (i := 6) (own := [("thing", 8)]) rfl sc_worth_of.nd rfl rfl (sw_true rfl rfl rfl (by decide +kernel)) (pi_list (pv 0)) (blkOk_by (N := n_worth_of) (sc := defScope s_worth_of) (by decide +kernel)) (fun _ _ _ _ _ => (pg_name (i := 8) sc_worth_of.nd rfl (.inl rfl))) (fun _ _ _ _ _ => pts_nil) (fun _ _ _ _ _ => pe_bl))
    (pss_cons (ps_for PassesOwn.never rfl (pi_list (pv 2)) (pg_name (i := 7) sc_worth_of.nd rfl (.inl rfl))
      (pss_one (ps_asg pe_bl (pg_sub (pv 6) (pv 7) set_list))))
    (pss_cons (ps_for PassesOwn.never rfl (pi_enum (by rfl) B.enumerate (pa_cons (pv 0) pa_nil)) (pg_tup (n := 2) rfl (pgs_cons (pg_name (i := 7) sc_worth_of.nd rfl (.inl rfl)) (pgs_cons (pg_name (i := 8) sc_worth_of.nd rfl (.inl rfl)) pgs_nil)) : PG _ _ (gTup K 2 (gCons (gName 7) (gCons (gName 8) gNil))))
      (pss_mid (ps_asg (pe_ifExp (pt_cmpR op_eq (pv 1) pe_int (nomark _)) (pe_tup (pa_cons (pe_ix (r := rIxT K) ix_tup (pv 8) pe_int (fun _ _ => rfl)) (pa_cons (pe_ix (r := rIxT K) ix_tup (pv 8) pe_int (fun _ _ => rfl)) pa_nil))) (pe_tup (pa_cons (pe_ix (r := rIxT K) ix_tup (pv 8) pe_int (fun _ _ => rfl)) (pa_cons (pe_ix (r := rIxT K) ix_tup (pv 8) pe_int (fun _ _ => rfl)) pa_nil)))) (pg_tup (n := 2) rfl (pgs_cons (pg_name (i := 9) sc_worth_of.nd rfl (.inl rfl)) (pgs_cons (pg_name (i := 10) sc_worth_of.nd rfl (.inl rfl)) pgs_nil)) : PG _ _ (gTup K 2 (gCons (gName 9) (gCons (gName 10) gNil)))))
        (pss_one (ps_if (pt_val (pe_ix (r := rIxL K) ix_list (pv 6) (pv 7) (fun _ _ => rfl)))
          (pss_cons (ps_if (pt_cmpR op_gt (pv 9) (pv 10) (nomark _))
              (pss_one (ps_ret pe_non))
              (pss_nil))
            (pss_one (ps_aug (i := 4) sc_worth_of.nd rfl (.inl rfl) (pv 9) ip_add)))
          (pss_cons (ps_if (pt_cmpR op_ge (pe_op op_add (pv 9) (pe_ix (r := rIxT K) ix_tup (pv 8) pe_int (fun _ _ => rfl))) (pv 3) (nomark _))
              (pss_one (ps_set (i := 5) sc_worth_of.nd rfl (.inl rfl) pe_bl))
              (pss_one (ps_if (pt_cmpR op_lt (pv 9) (pv 10) (nomark _))
                  (pss_one (ps_ret pe_non))
                  (pss_nil))))
            (pss_one (ps_aug (i := 4) sc_worth_of.nd rfl (.inl rfl) (pv 10) ip_add)))))))
    (pss_one (ps_ret (pe_ifExp (pt_val (pv 5)) (pv 4) pe_non)))))))), ?_⟩
    walk_at "go"
    refine ⟨b, rfl, ?_⟩
    walk_at "go"
    refine i_tupk (by show 2 ≤ 100000; decide) fun p1 H1 np1 s1 h1 => ?_
    refine i_not12 h1 ?_
    refine ⟨_, rfl, ?_⟩
    refine i_itdn (fun cb => ?_) (fun cb => ?_)
    · walk_at "go"
      exact qn (fun z => cb z.1) _ s1
    · walk_at "go"
      refine ⟨a, p, ts, ns, rfl, hT.mono s1, s1.seq hA, fun H2 s2 => ?_⟩
      walk_at "go"
      refine i_ite (fun cr => ?_) (fun cr => ?_)
      · walk_at "go"
        have cr2 : ris ts.length (-1) ns = false := by simpa using cr
        exact qn (fun z => by rw [cr2] at z; cases z.2.1) _ (s1.trans s2)
      · have cr2 : ris ts.length (-1) ns = true := by simpa using cr
        walk_at "go"
        refine ⟨l, rfl, ?_⟩
        walk_at "go"
        refine i_itd (fun cl => ?_) (fun cl => ?_)
        · walk_at "go"
          exact qn (fun z => by have := z.2.2; omega) _ (s1.trans s2)
        · walk_at "go"
          have s12 := s1.trans s2
          obtain ⟨vs, hs, hT2⟩ := hT.mono s12
          refine i_itl hs ?_
          refine fun p0 hp0 => lc_map (K := K) (R := fun _ y _ => y = .bl false) (fun _ h => h) sqn_l (fun H' e => e.seq hs) (by rw [hT2.len]; omega) hp0 (fun i x H' Qc Qn hx sm k => ?_) (fun ys H3 s3 hy hl hrr => ?_)
          · walk_at "go"
            refine ⟨rfl, ?_⟩
            walk_at "go"
            exact k _ _ (Same.refl _) rfl
          · have hy := marks_list (ap := ns) hy (by rw [hl, hT2.len]) hrr
            have np0 : H p0 = none := s12.free hp0
            have s13 := s12.trans s3
            obtain ⟨rp, rm⟩ := ris_to cr2
            walk_at "go"
            refine i_itl (s13.seq hA) ?_
            refine for_list (K := K) (a := p) (xs := ns.map V.int) (fun i σ' H' => ∃ (y7 : Option V), σ' = [some (.ref a), some (.int b), some (.ref p), some (.int l), some (.int l), some (.bl (decide (l = 0))), some (.ref p0), y7, none, none, none] ∧ Same H H' ∧ H' p0 = some (.lst ((mks ts.length (ns.take i)).map V.bl))) ?_ ?_ ?_ ?_
            · exact ⟨_, rfl, s13, hy⟩
            · rintro i σ' H' _ ⟨_, _, sm, _⟩
              exact sm.seq hA
            · rintro i x σ' H' hx ⟨y7, rfl, sm, hm⟩
              rw [List.getElem?_map] at hx
              obtain ⟨z, hz1, rfl⟩ := Option.map_eq_some_iff.mp hx
              have hb := rm z (List.mem_of_getElem? hz1)
              obtain ⟨j, rfl⟩ : ∃ j : Nat, z = (j : Int) := ⟨z.toNat, by omega⟩
              have hj : j < ts.length := by omega
              walk_at "go"
              refine i_setL hm (ixN_nat (by rw [List.length_map, mks_len]; exact hj)) ?_
              rw [marks_set hj, ← take_snoc hz1]
              exact ⟨_, rfl, Same.mut sm np0, upd_same⟩
            · rintro σ' H4 ⟨y7, rfl, sm4, hm⟩
              rw [List.length_map, List.take_length] at hm
              walk_at "go"
              obtain ⟨vs4, hs4, hT4⟩ := hT.mono sm4
              refine i_itn hs4 ?_
              refine for_enum (K := K) (a := a) (xs := vs4) (fun i σ' H' => ∃ (y7 y8 y9 y10 : Option V), σ' = [some (.ref a), some (.int b), some (.ref p), some (.int l), some (.int (wrt ts b ns l i)), some (.bl (metB ts b ns l i)), some (.ref p0), y7, y8, y9, y10] ∧ Same H4 H' ∧ Along ts b ns l i) ?_ ?_ ?_ ?_
              · refine ⟨y7, none, none, none, ?_, Same.refl _, along_0 ..⟩
                rw [wrt_0, met_0]
              · rintro i σ' H' ⟨_, _, _, _, _, sm, _⟩
                exact sm.seq hs4
              · rintro i x T σ' H5 H6 hx ⟨y7, y8, y9, y10, rfl, sm5, al⟩ nT s6 e6
                obtain ⟨t, ht, hx2⟩ := hT4.at' hx
                have hi : i < ts.length := (List.getElem?_eq_some_iff.mp ht).1
                have gt : ts.getD i (0, 0, 0) = t := by rw [List.getD_eq_getElem?_getD, ht]; rfl
                have sm6 := sm5.trans s6
                have hT6 : H6 T = some (.tup [.int (i : Nat), x]) := by rw [e6]; exact upd_same
                obtain ⟨pt, rfl, hpt⟩ := hx2.mono (smT sm6)
                have hm6 := sm6 _ _ hm
                refine i_gtup (SqT.of hT6) rfl ?_
                walk_at "go"
                refine i_mid (fun σ' H' => Same H6 H' ∧ σ' = [some (.ref a), some (.int b), some (.ref p), some (.int l), some (.int (wrt ts b ns l i)), some (.bl (metB ts b ns l i)), some (.ref p0), some (.int (i : Nat)), some (.ref pt), some (.int (hre b t)), some (.int (thr b t))]) ?_ ?_
                · walk_at "go"
                  refine i_itd (fun c => ?_) (fun c => ?_)
                  · walk_at "go"
                    refine i_ixT hpt (v := .int t.1) (atI_nat (j := 0) rfl) ?_
                    walk_at "go"
                    refine i_ixT hpt (v := .int t.2.2) (atI_nat (j := 2) rfl) ?_
                    walk_at "go"
                    refine i_tupk (by show 2 ≤ 100000; decide) fun p3 H7 np3 s7 h7 => ?_
                    refine i_gtup (SqT.of h7) rfl ?_
                    walk_at "go"
                    subst c
                    exact ⟨s7, rfl⟩
                  · walk_at "go"
                    refine i_ixT hpt (v := .int t.2.2) (atI_nat (j := 2) rfl) ?_
                    walk_at "go"
                    refine i_ixT hpt (v := .int t.1) (atI_nat (j := 0) rfl) ?_
                    walk_at "go"
                    refine i_tupk (by show 2 ≤ 100000; decide) fun p3 H7 np3 s7 h7 => ?_
                    refine i_gtup (SqT.of h7) rfl ?_
                    walk_at "go"
                    rw [hre2 c, thr2 c]
                    exact ⟨s7, rfl⟩
                · rintro σ' H7 ⟨s7, rfl⟩
                  have sm7 := sm6.trans s7
                  have hpt7 := Same.t s7 hpt
                  walk_at "go"
                  refine i_ixL (SqL.of (s7 _ _ hm6)) (v := .bl (decide ((i : Int) ∈ ns))) (atI_nat (marks_at hi)) ?_
                  walk_at "go"
                  refine i_itd (fun ci => ?_) (fun ci => ?_)
                  · have en := ent_in (ts := ts) ci
                    rw [gt] at en
                    walk_at "go"
                    refine i_itd (fun c => ?_) (fun c => ?_)
                    · walk_at "go"
                      have z := q H7 (sm4.trans sm7)
                      rw [wv_bad hi (by rw [en, okE_in]; exact decide_eq_false (by omega))] at z
                      exact z
                    · walk_at "go"
                      have al2 := along_s hi al (by rw [en, okE_in]; exact decide_eq_true (by omega))
                      rw [wrt_s hi, met_s hi, en, vE_in, mE_in, Bool.or_false]
                      exact ⟨_, _, _, _, rfl, sm7, al2⟩
                  · have en := ent_out (ts := ts) ci
                    rw [gt] at en
                    walk_at "go"
                    refine i_ixT hpt7 (v := .int t.2.1) (atI_nat (j := 1) rfl) ?_
                    walk_at "go"
                    refine i_itd (fun c => ?_) (fun c => ?_)
                    · walk_at "go"
                      have al2 := along_s hi al (by rw [en, okE_out, decide_eq_true c]; rfl)
                      rw [wrt_s hi, met_s hi, en, vE_out, mE_out, decide_eq_true c, Bool.or_true]
                      exact ⟨_, _, _, _, rfl, sm7, al2⟩
                    · walk_at "go"
                      refine i_itd (fun c2 => ?_) (fun c2 => ?_)
                      · walk_at "go"
                        have z := q H7 (sm4.trans sm7)
                        rw [wv_bad hi (by rw [en, okE_out, decide_eq_false c]; exact decide_eq_false (by omega))] at z
                        exact z
                      · walk_at "go"
                        have al2 := along_s hi al (by rw [en, okE_out, decide_eq_false c]; exact decide_eq_true (by omega))
                        rw [wrt_s hi, met_s hi, en, vE_out, mE_out, decide_eq_false c, Bool.or_false]
                        exact ⟨_, _, _, _, rfl, sm7, al2⟩
              · rintro σ' H5 ⟨y7, y8, y9, y10, rfl, sm5, al⟩
                rw [hT4.len] at al ⊢
                have z := q H5 (sm4.trans sm5)
                rw [wv_end cb cr2 (by omega) al] at z
                walk_at "go"
                refine i_ite (fun c => ?_) (fun c => ?_)
                · walk_at "go"
                  rw [if_pos c] at z
                  exact z
                · walk_at "go"
                  rw [if_neg (by rw [c]; decide)] at z
                  exact z
end
/-- all but x stays -/
def SameB (x : Addr) (H H' : Hp) : Prop := ∀ a u, a ≠ x → H a = some u → H' a = some u
theorem Same.b {H H' : Hp} {x : Addr} (h : Same H H') : SameB x H H' := fun a u _ e => h a u e
theorem SameB.trans {H H1 H2 : Hp} {x : Addr} (h : SameB x H H1) (k : SameB x H1 H2) : SameB x H H2 := fun a u n e => k a u n (h a u n e)
theorem SameB.set {H : Hp} {x : Addr} {o : HO} : SameB x H (upd H x o) := fun a u n e => (upd_ne n).trans e
theorem SameB.same {H0 H H' : Hp} {x : Addr} (h : SameB x H H') (e : Same H0 H) (n : H0 x = none) : Same H0 H' := fun a u k => h a u (ne_of_none k n) (e a u k)
theorem SameB.seq {K : PySem.W.Frag} {H H' : Hp} {x p C dx : Addr} {fs : List (Str × V)} {xs : List V} (h : SameB x H H') (e : H x = some (.ins C dx fs)) (s : SqL K H p xs) : SqL K H' p xs := by
  have ne : ∀ o, H p = some o → (∀ C dx fs, o ≠ .ins C dx fs) → p ≠ x := fun o k n z => n C dx fs (by
    subst z
    rw [k] at e
    exact Option.some.inj e)
  rcases s with (s | ⟨o, s⟩) | s
  · exact .inl (.inl (h _ _ (ne _ s fun _ _ _ z => nomatch z) s))
  · exact .inl (.inr ⟨o, h _ _ (ne _ s fun _ _ _ z => nomatch z) s⟩)
  · exact .inr s
/-- a Soonest, its order at po, its apart at pa -/
def IsS (H : Hp) (C x po pa : Addr) (b l : Int) : Prop := ∃ dx, H x = some (.ins C dx [("order", .ref po), ("bench", .int b), ("apart", .ref pa), ("length", .int l)])
theorem IsS.mono {H H' : Hp} {C x po pa : Addr} {b l : Int} (h : IsS H C x po pa b l) (e : Same H H') : IsS H' C x po pa b l := by
  obtain ⟨dx, h⟩ := h
  exact ⟨dx, e _ _ h⟩
/-- what is asked of the class Soonest -/
structure ClS (K : PySem.W.Frag) (C : Addr) : Prop where
  own : Own K C
  o : NoAttr K C "order"
  b : NoAttr K C "bench"
  a : NoAttr K C "apart"
  l : NoAttr K C "length"
def sp_initS (K : PySem.W.Frag) (C : Addr) : Sp := fun vs H Q _ => ∃ (x dx o p : Addr) (b l : Int) (xs ys : List V), vs = [.ref x, .ref o, .int b, .ref p, .int l] ∧ H x = some (.ins C dx []) ∧ SqL K H o xs ∧ SqL K H p ys ∧
  ∀ H' po pa, SameB x H H' → H po = none → H pa = none → po ≠ pa → IsS H' C x po pa b l → H' po = some (.lst xs) → H' pa = some (.lst ys) → Q .non H'
/-- Soonest.shows, of any whole numbers -/
def sp_showS (K : PySem.W.Frag) (C : Addr) : Sp := fun vs H Q _ => ∃ (x a po pa : Addr) (b l : Int) (ts : List T3) (ns ap : List Int), vs = [.ref x, .ref a] ∧ IsS H C x po pa b l ∧ Things K H a ts ∧ SqL K H po (ns.map V.int) ∧ SqL K H pa (ap.map V.int) ∧
  ts.length ≤ 1000 ∧ ns.length ≤ 10000 ∧ ∀ H', Same H H' → Q (.bl (shw ts ns b ap l)) H'
section
variable {P : Program} {w : World} {K : PySem.W.Frag} {mg : Str → Option Value} {base : Heap} {C : Addr}
theorem ok_Soonest___init__ (B : Blt mg) (X_S : ClS K C) (D : DefI K mg "Soonest" C "Soonest.__init__" s_Soonest___init__ ["self", "order", "bench", "apart", "length"]) : MakX P w K mg base 1 "Soonest" C (sp_initS K C) := by
  refine D.mak sc_Soonest___init__ (fun vs H Q E h => ?_) (fun f cdv A outer s H vs Q E hr h => ?_)
  · obtain ⟨x, dx, o, p, b, l, xs, ys, rfl, _⟩ := h
    rfl
  · obtain ⟨x, dx, o, p, b, l, xs, ys, rfl, hx, hO, hA, q⟩ := h
    refine ⟨_, pss_cons (ps_fld (pv 0) (pe_callTy (r := rListB K) cb_list (by rfl) B.list (by decide +kernel) (pa_cons (pv 1) pa_nil)) rfl)
    (pss_cons (ps_fld (pv 0) (pv 2) rfl)
    (pss_cons (ps_fld (pv 0) (pe_callTy (r := rListB K) cb_list (by rfl) B.list (by decide +kernel) (pa_cons (pv 3) pa_nil)) rfl)
    (pss_one (ps_fld (pv 0) (pv 4) rfl)))), ?_⟩
    walk_at "go"
    refine i_listL hO fun po H1 n1 s1 h1 => ?_
    walk_at "go"
    have x1 := s1 _ _ hx
    refine i_sfldE x1 X_S.own.cls X_S.o (by show 0 < 1000; decide) ?_
    walk_at "go"
    refine i_sfldE upd_same X_S.own.cls X_S.b (by show 1 < 1000; decide) ?_
    walk_at "go"
    have b3 : SameB x H (upd (upd H1 x (.ins C dx (putF "order" (.ref po) []))) x (.ins C dx (putF "bench" (.int b) (putF "order" (.ref po) [])))) := ((Same.b s1).trans SameB.set).trans SameB.set
    refine i_listL (b3.seq hx hA) fun pa H4 n4 s4 h4 => ?_
    walk_at "go"
    refine i_sfldE (s4 _ _ upd_same) X_S.own.cls X_S.a (by show 2 < 1000; decide) ?_
    walk_at "go"
    refine i_sfldE upd_same X_S.own.cls X_S.l (by show 3 < 1000; decide) ?_
    walk_at "go"
    have nx : po ≠ x := fun z => by rw [z, hx] at n1; cases n1
    have po4 := s4 _ _ ((upd_ne nx).trans ((upd_ne nx).trans h1))
    have np : pa ≠ po := fun z => by
      rw [z] at n4
      rw [show upd (upd H1 x (.ins C dx (putF "order" (.ref po) []))) x (.ins C dx (putF "bench" (.int b) (putF "order" (.ref po) []))) po = some (.lst xs) from (upd_ne nx).trans ((upd_ne nx).trans h1)] at n4
      cases n4
    have nax : pa ≠ x := fun z => by
      rw [z, upd_same] at n4
      cases n4
    have fa : H pa = none := by
      cases e : H pa with
      | none => rfl
      | some u =>
        have := b3 pa u nax e
        rw [n4] at this
        cases this
    refine q _ po pa (((b3.trans (Same.b s4)).trans SameB.set).trans SameB.set) n1 fa (Ne.symm np) ⟨dx, upd_same⟩ ?_ ?_
    · rw [upd_ne nx, upd_ne nx]; exact po4
    · rw [upd_ne nax, upd_ne nax]; exact h4
/-- a Soonest made -/
theorem i_makS {o p : Addr} {b l : Int} {xs ys : List V} {H : Hp} {Q : VK} (hO : SqL K H o xs) (hA : SqL K H p ys)
    (k : ∀ x po pa H', Same H H' → H x = none → H po = none → H pa = none → po ≠ pa → IsS H' C x po pa b l → H' po = some (.lst xs) → H' pa = some (.lst ys) → Q (.ref x) H') :
    ∀ x dx, H x = none → H dx = none → dx ≠ x → sp_initS K C [.ref x, .ref o, .int b, .ref p, .int l] (upd (upd H dx (.own x)) x (.ins C dx [])) (fun v H2 => v = .non ∧ Q (.ref x) H2) E0 := by
  intro x dx nx nd ne
  have sm : Same H (upd (upd H dx (.own x)) x (.ins C dx [])) := (Same.upd nd).trans (Same.upd ((upd_ne (Ne.symm ne)).trans nx))
  refine ⟨x, dx, o, p, b, l, xs, ys, rfl, upd_same, sm.seq hO, sm.seq hA, fun H' po pa sb n1 n2 n3 hS h1 h2 => ⟨rfl, k x po pa H' (sb.same sm nx) nx (sm.free n1) (sm.free n2) n3 hS h1 h2⟩⟩
theorem wV_ne {o : Option Int} : ∃ c : Bool, c = o.isSome ∧ (decide (wV o = V.non)) = !c := by
  cases o with
  | none => exact ⟨false, rfl, rfl⟩
  | some m => exact ⟨true, rfl, rfl⟩
theorem ok_Soonest_shows (B : Blt mg) (X_S : ClS K C) (c_is_order : Cal P w K mg base 2 "is_order" (sp_isord K)) (c_worth_of : Cal P w K mg base 3 "worth_of" (sp_worth K)) (c_run : Cal P w K mg base 1 "run" (sp_run K)) (D : DefM K C "shows" "Soonest.shows" s_Soonest_shows ["self", "things"]) : MetX P w K mg base 4 C "shows" (sp_showS K C) := by
  refine D.met sc_Soonest_shows (fun vs H Q E h => ?_) (fun f cdv A outer s H vs Q E hr h => ?_)
  · obtain ⟨x, a, po, pa, b, l, ts, ns, ap, rfl, _⟩ := h
    rfl
  · obtain ⟨x, a, po, pa, b, l, ts, ns, ap, rfl, ⟨dx, hx⟩, hT, hO, hA, hz, hn, q⟩ := h
    refine ⟨_, pss_cons (ps_if (pt_not (pt_val (pe_cal c_is_order hr (by decide) (by rfl) (pa_cons (pv 1) (pa_cons (pe_fld (pv 0) rfl) pa_nil)))))
      (pss_one (ps_ret pe_bl))
      (pss_nil))
    (pss_cons (ps_set (i := 2) sc_Soonest_shows.nd rfl (.inl rfl) (pe_cal c_worth_of hr (by decide) (by rfl) (pa_cons (pv 1) (pa_cons (pe_fld (pv 0) rfl) (pa_cons (pe_fld (pv 0) rfl) (pa_cons (pe_fld (pv 0) rfl) pa_nil))))))
    (pss_one (ps_ret (pe_and (pe_cmpR cp_notN (pv 2) pe_non (nomark _)) (pe_one (pe_cmpR op_eq (pv 2) (pe_ix (r := rIxT K) ix_tup (pe_cal c_run hr (by decide) (by rfl) (pa_cons (pv 1) (pa_cons (pe_fld (pv 0) rfl) pa_nil))) pe_int (fun _ _ => rfl)) (nomark _))))))), ?_⟩
    walk_at "go"
    refine i_fldE hx X_S.own.cls X_S.o rfl ?_
    walk_at "go"
    refine ⟨a, po, ts, ns, rfl, hT, hO, hz, hn, fun H1 s1 => ?_⟩
    walk_at "go"
    refine i_itdn (fun c => ?_) (fun c => ?_)
    · walk_at "go"
      have z := q H1 s1
      rw [shw_no c] at z
      exact z
    · obtain ⟨os, rfl, hp⟩ := perm_zs c
      have x1 := s1 _ _ hx
      walk_at "go"
      refine i_fldE x1 X_S.own.cls X_S.b rfl ?_
      walk_at "go"
      refine i_fldE x1 X_S.own.cls X_S.a rfl ?_
      walk_at "go"
      refine i_fldE x1 X_S.own.cls X_S.l rfl ?_
      walk_at "go"
      refine ⟨a, pa, ts, b, l, ap, rfl, hT.mono s1, s1.seq hA, hz, fun H2 s2 => ?_⟩
      walk_at "go"
      have s12 := s1.trans s2
      have z := q
      rw [shw_os hp] at z
      cases e : wv ts b ap l with
      | none =>
        rw [e] at z
        walk_at "go"
        refine i_notNn ?_
        walk_at "go"
        exact z H2 s12
      | some m =>
        rw [e] at z
        walk_at "go"
        refine i_notNi ?_
        refine ⟨_, rfl, ?_⟩
        walk_at "go"
        refine i_fldE (s12 _ _ hx) X_S.own.cls X_S.o rfl ?_
        walk_at "go"
        refine ⟨a, po, ts, os, rfl, hT.mono s12, s12.seq hO, perm_lt hp, by rw [perm_len hp]; exact hz, fun H3 p l' vs' s3 hp3 hl3 hP => ?_⟩
        walk_at "go"
        refine i_ixT (SqT.of hp3) (v := .int (dn (sq ts os))) (atI_nat (j := 1) rfl) ?_
        walk_at "go"
        have y := z H3 (s12.trans s3)
        rw [show decide (some m = some (dn (sq ts os))) = decide (m = dn (sq ts os)) by rw [decide_eq_decide, Option.some.injEq]] at y
        refine i_eqI ?_
        exact y
end
abbrev s_best_order : Stmt := topS 17
abbrev n_best_order : List Str := ["things", "quick", "slow", "at", "thing", "key"]
theorem sc_best_order : FnScope n_best_order ["things"] (defScope s_best_order) := ⟨rfl, rfl, rfl, by decide +kernel, rfl, by decide +kernel, by decide +kernel⟩
abbrev s_bar_of : Stmt := topS 18
abbrev n_bar_of : List Str := ["things", "order", "ahead", "behind", "best", "place", "at", "one", "dry", "other", "thing"]
theorem sc_bar_of : FnScope n_bar_of ["things", "order"] (defScope s_bar_of) := ⟨rfl, rfl, rfl, by decide +kernel, rfl, by decide +kernel, by decide +kernel⟩
abbrev s_soonest : Stmt := topS 19
abbrev n_soonest : List Str := ["things", "order", "bench", "apart", "length"]
theorem sc_soonest : FnScope n_soonest ["things"] (defScope s_soonest) := ⟨rfl, rfl, rfl, by decide +kernel, rfl, by decide +kernel, by decide +kernel⟩
/-- a tracked pair -/
def IsQ (H : Hp) (v : V) (p : Int × Int) : Prop := ∃ t, v = .ref t ∧ H t = some (.tup [.int p.1, .int p.2])
abbrev QrL (H : Hp) (vs : List V) (ps : List (Int × Int)) : Prop := All2 (IsQ H) vs ps
theorem IsQ.same {H H' : Hp} {v : V} {p : Int × Int} (h : IsQ H v p) (e : Same H H') : IsQ H' v p := by
  obtain ⟨t, h1, h2⟩ := h
  exact ⟨t, h1, e _ _ h2⟩
theorem IsQ.lst {H : Hp} {v : V} {p : Int × Int} {q : Addr} {ys zs : List V} (h : IsQ H v p) (e : H q = some (.lst ys)) : IsQ (upd H q (.lst zs)) v p := by
  obtain ⟨t, h1, h2⟩ := h
  refine ⟨t, h1, (upd_ne fun z => ?_).trans h2⟩
  rw [z, e] at h2
  cases h2
theorem QrL.same {H H' : Hp} {vs : List V} {ps : List (Int × Int)} (h : QrL H vs ps) (e : Same H H') : QrL H' vs ps := All2.mono (fun _ _ r => r.same e) h
theorem QrL.lst {H : Hp} {vs : List V} {ps : List (Int × Int)} {q : Addr} {ys zs : List V} (h : QrL H vs ps) (e : H q = some (.lst ys)) : QrL (upd H q (.lst zs)) vs ps := All2.mono (fun _ _ r => r.lst e) h
/-- the pair that stands at a value -/
def kq (H : Hp) : V → Int × Int
  | .ref t => (match H t with
    | some (.tup [.int i, .int j]) => (i, j)
    | _ => (0, 0))
  | _ => (0, 0)
theorem kq_is {H : Hp} {v : V} {p : Int × Int} (h : IsQ H v p) : kq H v = p := by
  obtain ⟨t, rfl, h2⟩ := h
  show (match H t with
    | some (.tup [.int i, .int j]) => (i, j)
    | _ => (0, 0)) = p
  rw [h2]
theorem QrL.map {H : Hp} {vs : List V} {ps : List (Int × Int)} (h : QrL H vs ps) : ps = vs.map (kq H) := by
  refine List.ext_getElem? fun i => ?_
  rw [List.getElem?_map]
  cases e : vs[i]? with
  | none =>
    have := List.getElem?_eq_none_iff.mp e
    exact List.getElem?_eq_none (by rw [← h.len]; exact this)
  | some v =>
    obtain ⟨p, h1, h2⟩ := h.at' e
    rw [h1, Option.map_some, kq_is h2]
/-- sorted of a list of pairs -/
theorem i_sortQ {K : PySem.W.Frag} {H : Hp} {a : Addr} {xs : List V} {ps : List (Int × Int)} {Q : VK} (hs : SqL K H a xs) (hq : QrL H xs ps)
    (h : ∀ (ys : List V) (ps' : List (Int × Int)) (p : Addr) (H' : Hp), ps'.Perm ps → (ps'.Pairwise fun x y => x.1 ≤ y.1) → H p = none → Same H H' → H' p = some (.lst ys) → QrL H' ys ps' → Q (.ref p) H') : rSortedPO K [.ref a] H Q := by
  have e := hq.map
  have each : ∀ x ∈ xs, IsQ H x (kq H x) := fun x hx => by
    obtain ⟨i, hi⟩ := List.mem_iff_getElem?.mp hx
    obtain ⟨p, _, h2⟩ := hq.at' hi
    rw [kq_is h2]
    exact h2
  refine ⟨a, xs, kq H, rfl, hs, fun x hx => each x hx, fun ys p h1 h2 np => ?_⟩
  refine h ys (ys.map (kq H)) p _ (by rw [e]; exact h2.perm.map _) ?_ np (Same.upd np) upd_same ?_
  · rw [List.pairwise_map]
    refine h1.imp fun {x y} k => ?_
    have z := SrtO.lexB_no.mp k
    omega
  · refine ⟨by rw [List.length_map], fun i x p hx hp => ?_⟩
    rw [List.getElem?_map, hx, Option.map_some] at hp
    have e2 : kq H x = p := Option.some.inj hp
    rw [← e2]
    exact (each x (h2.perm.mem_iff.mp (List.mem_of_getElem? hx))).same (Same.upd np)
/-- best_order -/
def sp_border (K : PySem.W.Frag) : Sp := fun vs H Q _ => ∃ (a : Addr) (ts : List T3), vs = [.ref a] ∧ Things K H a ts ∧ ts.length ≤ 1000 ∧ ∀ H' p os, Same H H' → H p = none → H' p = some (.lst ((zs os).map V.int)) → Best ts os → Q (.ref p) H'
section
variable {P : Program} {w : World} {K : PySem.W.Frag} {mg : Str → Option Value} {base : Heap} {C : Addr}
theorem ok_best_order (B : Blt mg) (D : Def K mg "best_order" s_best_order ["things"]) : Cal P w K mg base 1 "best_order" (sp_border K) := by
  refine D.cal sc_best_order (fun vs H Q E h => ?_) (fun f cdv A outer s H vs Q E hr h => ?_)
  · obtain ⟨a, ts, rfl, _⟩ := h
    rfl
  · obtain ⟨a, ts, rfl, hT, hz, q⟩ := h
    refine ⟨_, pss_cons (ps_set (i := 1) sc_best_order.nd rfl (.inl rfl) (pe_lst pa_nil))
    (pss_cons (ps_set (i := 2) sc_best_order.nd rfl (.inl rfl) (pe_lst pa_nil))
    (pss_cons (ps_for PassesOwn.never rfl (pi_enum (by rfl) B.enumerate (pa_cons (pv 0) pa_nil)) (pg_tup (n := 2) rfl (pgs_cons (pg_name (i := 3) sc_best_order.nd rfl (.inl rfl)) (pgs_cons (pg_name (i := 4) sc_best_order.nd rfl (.inl rfl)) pgs_nil)) : PG _ _ (gTup K 2 (gCons (gName 3) (gCons (gName 4) gNil))))
      (pss_one (ps_if (pt_cmpR op_le (pe_ix (r := rIxT K) ix_tup (pv 4) pe_int (fun _ _ => rfl)) (pe_ix (r := rIxT K) ix_tup (pv 4) pe_int (fun _ _ => rfl)) (nomark _))
          (pss_one (ps_expr (pe_bm PySem.F.plainAttrs_list PySem.F.slot_list_append PySem.F.type_list_append mt_append (pv 1) (pa_cons (pe_tup (pa_cons (pe_op op_add (pe_ix (r := rIxT K) ix_tup (pv 4) pe_int (fun _ _ => rfl)) (pe_ix (r := rIxT K) ix_tup (pv 4) pe_int (fun _ _ => rfl))) (pa_cons (pv 3) pa_nil))) pa_nil))))
          (pss_one (ps_expr (pe_bm PySem.F.plainAttrs_list PySem.F.slot_list_append PySem.F.type_list_append mt_append (pv 2) (pa_cons (pe_tup (pa_cons (pe_op op_sub (pe_un un_neg (pe_ix (r := rIxT K) ix_tup (pv 4) pe_int (fun _ _ => rfl))) (pe_ix (r := rIxT K) ix_tup (pv 4) pe_int (fun _ _ => rfl))) (pa_cons (pv 3) pa_nil))) pa_nil)))))))
    (pss_one (ps_ret (pe_lc (own := [("key", 5), ("at", 3)]) rfl sc_best_order.nd (pi_list (pe_op op_cat (pe_callB (r := rSortedPO K) cr_sortedPO (by rfl) B.sorted (by decide +kernel) (pa_cons (pv 1) pa_nil)) (pe_callB (r := rSortedPO K) cr_sortedPO (by rfl) B.sorted (by decide +kernel) (pa_cons (pv 2) pa_nil)))) (blkOk_by (N := n_best_order) (sc := defScope s_best_order) (by decide +kernel)) (fun _ _ _ _ _ => (pg_tup (n := 2) rfl (pgs_cons (pg_name (i := 5) sc_best_order.nd rfl (.inl rfl)) (pgs_cons (pg_name (i := 3) sc_best_order.nd rfl (.inl rfl)) pgs_nil)) : PG _ _ (gTup K 2 (gCons (gName 5) (gCons (gName 3) gNil))))) (fun _ _ _ _ _ => pts_nil) (fun _ _ _ _ _ => (pv 3))))))), ?_⟩
    walk_at "go"
    refine i_lstk (Nat.zero_le _) fun q0 H1 n1 s1 h1 => ?_
    walk_at "go"
    refine i_lstk (Nat.zero_le _) fun q1 H2 n2 s2 h2 => ?_
    walk_at "go"
    have s12 := s1.trans s2
    have n20 : H q1 = none := s1.free n2
    have ne : q0 ≠ q1 := fun z => by
      rw [← z, h1] at n2
      cases n2
    obtain ⟨vs, hs, hT2⟩ := hT
    refine i_itn (s12.seq hs) ?_
    refine for_enum (K := K) (a := a) (xs := vs) (fun i σ' H' => ∃ (y3 y4 : Option V) (us vs2 : List V), σ' = [some (.ref a), some (.ref q0), some (.ref q1), y3, y4, none] ∧ Same H H' ∧ H' q0 = some (.lst us) ∧ H' q1 = some (.lst vs2) ∧ QrL H' us (qL ts i) ∧ QrL H' vs2 (sL ts i)) ?_ ?_ ?_ ?_
    · exact ⟨none, none, [], [], rfl, s12, s2 _ _ h1, h2, All2.nil, All2.nil⟩
    · rintro i σ' H' ⟨_, _, _, _, _, sm, _⟩
      exact sm.seq hs
    · rintro i x T σ' H3 H4 hx ⟨y3, y4, us, vs2, rfl, sm, hu, hv, Qu, Qv⟩ nT s4 e4
      obtain ⟨t, ht, hx2⟩ := hT2.at' hx
      have hi : i < ts.length := (List.getElem?_eq_some_iff.mp ht).1
      have gt : ts.getD i (0, 0, 0) = t := by rw [List.getD_eq_getElem?_getD, ht]; rfl
      have sm4 := sm.trans s4
      obtain ⟨pt, rfl, hpt⟩ := hx2.mono (smT sm4)
      have hT4 : H4 T = some (.tup [.int (i : Nat), .ref pt]) := by rw [e4]; exact upd_same
      have lu : us.length < 100000 := by rw [Qu.len]; have := (qL_len ts i).1; omega
      have lv : vs2.length < 100000 := by rw [Qv.len]; have := (qL_len ts i).2; omega
      refine i_gtup (SqT.of hT4) rfl ?_
      walk_at "go"
      refine i_ixT hpt (v := .int t.1) (atI_nat (j := 0) rfl) ?_
      walk_at "go"
      refine i_ixT hpt (v := .int t.2.2) (atI_nat (j := 2) rfl) ?_
      walk_at "go"
      refine i_itd (fun c => ?_) (fun c => ?_)
      · have cq : isQ ts i = true := by unfold isQ; rw [gt]; exact decide_eq_true c
        obtain ⟨e1, e2⟩ := qL_y cq
        walk_at "go"
        refine ⟨ty_lst (s4 _ _ hu), ?_⟩
        walk_at "go"
        refine i_ixT hpt (v := .int t.1) (atI_nat (j := 0) rfl) ?_
        walk_at "go"
        refine i_ixT hpt (v := .int t.2.1) (atI_nat (j := 1) rfl) ?_
        walk_at "go"
        refine i_tupk (by show 2 ≤ 100000; decide) fun p5 H5 n5 s5 h5 => ?_
        walk_at "go"
        have s45 := s4.trans s5
        have u5 := s45 _ _ hu
        refine i_app u5 lu ?_
        walk_at "go"
        refine ⟨_, _, _, _, rfl, Same.mut (sm.trans s45) n1, upd_same, (upd_ne (Ne.symm ne)).trans (s45 _ _ hv), ?_, ?_⟩
        · rw [e1]
          refine QrL.lst (All2.snoc (Qu.same s45) ?_) u5
          rw [gt]
          exact ⟨p5, rfl, h5⟩
        · rw [e2]
          exact (Qv.same s45).lst u5
      · have cq : isQ ts i = false := by unfold isQ; rw [gt]; exact decide_eq_false c
        obtain ⟨e1, e2⟩ := qL_n cq
        walk_at "go"
        refine ⟨ty_lst (s4 _ _ hv), ?_⟩
        walk_at "go"
        refine i_ixT hpt (v := .int t.2.2) (atI_nat (j := 2) rfl) ?_
        walk_at "go"
        refine i_ixT hpt (v := .int t.2.1) (atI_nat (j := 1) rfl) ?_
        walk_at "go"
        refine i_tupk (by show 2 ≤ 100000; decide) fun p5 H5 n5 s5 h5 => ?_
        walk_at "go"
        have s45 := s4.trans s5
        have v5 := s45 _ _ hv
        refine i_app v5 lv ?_
        walk_at "go"
        refine ⟨_, _, _, _, rfl, Same.mut (sm.trans s45) n20, (upd_ne ne).trans (s45 _ _ hu), upd_same, ?_, ?_⟩
        · rw [e1]
          exact (Qu.same s45).lst v5
        · rw [e2]
          refine QrL.lst (All2.snoc (Qv.same s45) ?_) v5
          rw [gt]
          exact ⟨p5, rfl, h5⟩
    · rintro σ' H3 ⟨y3, y4, us, vs2, rfl, sm, hu, hv, Qu, Qv⟩
      rw [hT2.len] at Qu Qv
      have lu := (qL_len ts ts.length).1
      have lv := (qL_len ts ts.length).2
      walk_at "go"
      refine i_sortQ (SqL.of hu) Qu fun as ps p4 H4 P4 O4 n4 s4 h4 A4 => ?_
      walk_at "go"
      refine i_sortQ (SqL.of (s4 _ _ hv)) (Qv.same s4) fun bs rs p5 H5 P5 O5 n5 s5 h5 A5 => ?_
      walk_at "go"
      have A45 := A4.same s5
      have la : as.length ≤ 1000 := by rw [A4.len, P4.length_eq]; omega
      have lb : bs.length ≤ 1000 := by rw [A5.len, P5.length_eq]; omega
      refine i_cat (s5 _ _ h4) h5 (by omega) fun p6 H6 n6 s6 h6 => ?_
      have AB : QrL H6 (as ++ bs) (ps ++ rs) := QrL.same (All2.app A45 A5) s6
      obtain ⟨os, eo, hB⟩ := best_of P4 P5 O4 O5
      have s36 := ((sm.trans s4).trans s5).trans s6
      refine i_itl (SqL.of h6) ?_
      refine fun p7 n7 => lc_map (K := K) (R := fun i y _ => ∀ p : Int × Int, (ps ++ rs)[i]? = some p → y = .int p.2) (fun _ h => h) sqn_l (fun H' e => e.seq (SqL.of h6)) (by rw [List.length_append]; omega) n7 (fun i x H' Qc Qn hx sm7 k => ?_) (fun ys H7 s7 h7 hl hr => ?_)
      · obtain ⟨p, hp, t, rfl, ht⟩ := AB.at' hx
        refine i_gtup (SqT.of (sm7 _ _ ht)) rfl ?_
        walk_at "go"
        refine ⟨rfl, ?_⟩
        walk_at "go"
        exact k _ _ (Same.refl _) fun p' hp' => by
          rw [hp] at hp'
          cases hp'
          rfl
      · have ey : ys = (zs os).map V.int := by
          rw [← eo, List.map_map]
          refine List.ext_getElem? fun i => ?_
          rw [List.getElem?_map]
          cases e : (ps ++ rs)[i]? with
          | none => exact List.getElem?_eq_none (by rw [hl, AB.len]; exact List.getElem?_eq_none_iff.mp e)
          | some p =>
            have hi : i < ys.length := by rw [hl, AB.len]; exact (List.getElem?_eq_some_iff.mp e).1
            rw [List.getElem?_eq_getElem hi, hr i _ (List.getElem?_eq_getElem hi) p e]
            rfl
        rw [ey] at h7
        walk_at "go"
        exact q H7 p7 os (s36.trans s7) (s36.free n7) h7 hB
theorem sb_perm {l m : List T3} (h : l.Perm m) : sb l = sb m := by
  induction h with
  | nil => rfl
  | cons x _ ih => rw [sb, sb, ih]
  | swap x y l => rw [sb, sb, sb, sb]; omega
  | trans _ _ h1 h2 => rw [h1, h2]
theorem sq_all (ts : List T3) : sq ts (List.range ts.length) = ts := by
  refine List.ext_getElem? fun i => ?_
  unfold sq
  rw [List.getElem?_map]
  by_cases h : i < ts.length
  · rw [List.getElem?_range h, Option.map_some, ← getD_at h]
  · rw [List.getElem?_eq_none (by rw [List.length_range]; omega), List.getElem?_eq_none (by omega)]
    rfl
theorem sb_os {ts : List T3} {os : List Nat} (h : os.Perm (List.range ts.length)) : sb (sq ts os) = sb ts := by
  have := sb_perm (h.map fun k => ts.getD k (0, 0, 0))
  exact this.trans (congrArg sb (sq_all ts))
theorem sb_drop {ts : List T3} {os : List Nat} {i k : Nat} (h : os[i]? = some k) : sb (sq ts (os.drop i)) = (ts.getD k (0, 0, 0)).2.2 + sb (sq ts (os.drop (i + 1))) := by
  obtain ⟨hi, e⟩ := List.getElem?_eq_some_iff.mp h
  rw [List.drop_eq_getElem_cons hi, e]
  rfl
theorem sa_take {ts : List T3} {os : List Nat} {i k : Nat} (h : os[i]? = some k) : sa (sq ts (os.take (i + 1))) = sa (sq ts (os.take i)) + (ts.getD k (0, 0, 0)).1 := by
  rw [take_snoc h, sq_app, sa_app]
  show _ + ((ts.getD k (0, 0, 0)).1 + 0) = _
  omega
/-- bar_of, of the best order -/
def sp_bar (K : PySem.W.Frag) : Sp := fun vs H Q _ => ∃ (a o : Addr) (ts : List T3) (os : List Nat), vs = [.ref a, .ref o] ∧ Things K H a ts ∧ SqL K H o ((zs os).map V.int) ∧ (∀ t ∈ ts, Nn t) ∧ ts.length ≤ 1000 ∧ Best ts os ∧
  ∀ H' p pa b l ap, Same H H' → H' p = some (.tup [.int b, .ref pa, .int l]) → H' pa = some (.lst (ap.map V.int)) → wv ts b ap l = some (dn (sq ts os)) → ap.length ≤ 1000 → Q (.ref p) H'
theorem zs_take (os : List Nat) (k : Nat) : ((zs os).map V.int).take k = (zs (os.take k)).map V.int := by
  unfold zs
  rw [List.map_take, List.map_take]
theorem zs_drop (os : List Nat) (k : Nat) : ((zs os).map V.int).drop k = (zs (os.drop k)).map V.int := by
  unfold zs
  rw [List.map_drop, List.map_drop]
theorem zs_get {os : List Nat} {i k : Nat} (h : os[i]? = some k) : ((zs os).map V.int)[i]? = some (.int (k : Int)) := by
  unfold zs
  rw [List.map_map, List.getElem?_map, h]
  rfl
theorem ok_bar_of (B : Blt mg) (D : Def K mg "bar_of" s_bar_of ["things", "order"]) : Cal P w K mg base 1 "bar_of" (sp_bar K) := by
  refine D.cal sc_bar_of (fun vs H Q E h => ?_) (fun f cdv A outer s H vs Q E hr h => ?_)
  · obtain ⟨a, o, ts, os, rfl, _⟩ := h
    rfl
  · obtain ⟨a, o, ts, os, rfl, hT, hO, hn, hz, hB, q⟩ := h
    have hP := hB.1
    have hk := perm_lt hP
    have lo := perm_len hP
    refine ⟨_, pss_cons (ps_set (i := 2) sc_bar_of.nd rfl (.inl rfl) pe_int)
    (pss_cons (ps_set (i := 3) sc_bar_of.nd rfl (.inl rfl) (pe_callB (r := rSum K) (cr_sum rfl) (by rfl) B.sum (by decide +kernel) (pa_cons (pe_lc (own := [("thing", 10)]) rfl sc_bar_of.nd (pi_list (pv 0)) (blkOk_by (N := n_bar_of) (sc := defScope s_bar_of) (by decide +kernel)) (fun _ _ _ _ _ => (pg_name (i := 10) sc_bar_of.nd rfl (.inl rfl))) (fun _ _ _ _ _ => pts_nil) (fun _ _ _ _ _ => (pe_ix (r := rIxT K) ix_tup (pv 10) pe_int (fun _ _ => rfl)))) pa_nil)))
    (pss_cons (ps_set (i := 4) sc_bar_of.nd rfl (.inl rfl) (pe_tup (pa_cons pe_int (pa_cons pe_int pa_nil))))
    (pss_cons (ps_for PassesOwn.never rfl (pi_enum (by rfl) B.enumerate (pa_cons (pv 1) pa_nil)) (pg_tup (n := 2) rfl (pgs_cons (pg_name (i := 5) sc_bar_of.nd rfl (.inl rfl)) (pgs_cons (pg_name (i := 6) sc_bar_of.nd rfl (.inl rfl)) pgs_nil)) : PG _ _ (gTup K 2 (gCons (gName 5) (gCons (gName 6) gNil))))
      (pss_cons (ps_asg (pe_ix (r := rIxL K) ix_list (pv 0) (pv 6) (fun _ _ => rfl)) (pg_tup (n := 3) rfl (pgs_cons (pg_name (i := 7) sc_bar_of.nd rfl (.inl rfl)) (pgs_cons (pg_name (i := 8) sc_bar_of.nd rfl (.inl rfl)) (pgs_cons (pg_name (i := 9) sc_bar_of.nd rfl (.inl rfl)) pgs_nil))) : PG _ _ (gTup K 3 (gCons (gName 7) (gCons (gName 8) (gCons (gName 9) gNil))))))
        (pss_cons (ps_aug (i := 2) sc_bar_of.nd rfl (.inl rfl) (pv 7) ip_add)
        (pss_cons (ps_if (pt_cmpR op_gt (pe_op op_add (pe_op op_add (pv 2) (pv 8)) (pv 3)) (pe_ix (r := rIxT K) ix_tup (pv 4) pe_int (fun _ _ => rfl)) (nomark _))
          (pss_one (ps_set (i := 4) sc_bar_of.nd rfl (.inl rfl) (pe_tup (pa_cons (pe_op op_add (pe_op op_add (pv 2) (pv 8)) (pv 3)) (pa_cons (pv 5) pa_nil)))))
          (pss_nil))
        (pss_one (ps_aug (i := 3) sc_bar_of.nd rfl (.inl rfl) (pv 9) ip_sub))))))
    (pss_cons (ps_if (pt_cmpR op_eq (pe_callB (r := rLenB K) cb_len (by rfl) B.len (by decide +kernel) (pa_cons (pv 1) pa_nil)) pe_int (nomark _))
      (pss_one (ps_ret (pe_tup (pa_cons pe_int (pa_cons (pe_lst pa_nil) (pa_cons pe_int pa_nil))))))
      (pss_nil))
    (pss_cons (ps_set (i := 6) sc_bar_of.nd rfl (.inl rfl) (pe_ix (r := rIxL K) ix_list (pv 1) (pe_ix (r := rIxT K) ix_tup (pv 4) pe_int (fun _ _ => rfl)) (fun _ _ => rfl)))
    (pss_cons (ps_asg (pe_ix (r := rIxL K) ix_list (pv 0) (pv 6) (fun _ _ => rfl)) (pg_tup (n := 3) rfl (pgs_cons (pg_name (i := 7) sc_bar_of.nd rfl (.inl rfl)) (pgs_cons (pg_name (i := 8) sc_bar_of.nd rfl (.inl rfl)) (pgs_cons (pg_name (i := 9) sc_bar_of.nd rfl (.inl rfl)) pgs_nil))) : PG _ _ (gTup K 3 (gCons (gName 7) (gCons (gName 8) (gCons (gName 9) gNil))))))
    (pss_cons (ps_if (pt_cmpR op_le (pv 7) (pv 9) (nomark _))
      (pss_one (ps_ret (pe_tup (pa_cons pe_int (pa_cons (pe_callB (r := rSortedI K) cr_sortedI (by rfl) B.sorted (by decide +kernel) (pa_cons (pe_slice (r := rSlL K) sl_list (pv 1) po_none (po_some (pe_ix (r := rIxT K) ix_tup (pv 4) pe_int (fun _ _ => rfl)))) pa_nil)) (pa_cons (pe_op op_add (pv 7) (pv 8)) pa_nil))))))
      (pss_nil))
    (pss_one (ps_ret (pe_tup (pa_cons pe_int (pa_cons (pe_callB (r := rSortedI K) cr_sortedI (by rfl) B.sorted (by decide +kernel) (pa_cons (pe_slice (r := rSlL K) sl_list (pv 1) (po_some (pe_op op_add (pe_ix (r := rIxT K) ix_tup (pv 4) pe_int (fun _ _ => rfl)) pe_int)) po_none) pa_nil)) (pa_cons (pe_op op_add (pv 9) (pv 8)) pa_nil))))))))))))), ?_⟩
    walk_at "go"
    obtain ⟨vs, hs, hT2⟩ := hT
    have hT : Things K H a ts := ⟨vs, hs, hT2⟩
    refine i_itl hs ?_
    refine fun p0 n0 => lc_map (K := K) (R := fun i y _ => ∀ t, ts[i]? = some t → y = .int t.2.2) (fun _ h => h) sqn_l (fun H' e => e.seq hs) (by rw [hT2.len]; omega) n0 (fun i x H' Qc Qn hx sm k => ?_) (fun ys H1 s1 h1 hl hr => ?_)
    · obtain ⟨t, ht, hx'⟩ := hT2.at' hx
      obtain ⟨pt, rfl, hpt⟩ := hx'.mono (smT sm)
      walk_at "go"
      refine ⟨rfl, ?_⟩
      walk_at "go"
      refine i_ixT hpt (v := .int t.2.2) (atI_nat (j := 2) rfl) ?_
      exact k _ _ (Same.refl _) fun t' ht' => by
        rw [ht] at ht'
        cases ht'
        rfl
    · have ey : ys = (ts.map fun t => t.2.2).map V.int := by
        rw [List.map_map]
        refine List.ext_getElem? fun i => ?_
        rw [List.getElem?_map]
        cases e : ts[i]? with
        | none => exact List.getElem?_eq_none (by rw [hl, hT2.len]; exact List.getElem?_eq_none_iff.mp e)
        | some t =>
          have hi : i < ys.length := by rw [hl, hT2.len]; exact (List.getElem?_eq_some_iff.mp e).1
          rw [List.getElem?_eq_getElem hi, hr i _ (List.getElem?_eq_getElem hi) t e]
          rfl
      rw [ey] at h1
      walk_at "go"
      refine i_sum (SqL.of h1) ?_
      rw [sb_sum]
      walk_at "go"
      refine i_tupk (by show 2 ≤ 100000; decide) fun p2 H2 n2 s2 h2 => ?_
      walk_at "go"
      have s12 := s1.trans s2
      refine i_itn (s12.seq hO) ?_
      refine for_enum (K := K) (a := o) (xs := (zs os).map V.int) (fun i σ' H' => ∃ (m : Int) (k : Nat) (pb : Addr) (y5 y6 y7 y8 y9 : Option V), σ' = [some (.ref a), some (.ref o), some (.int (sa (sq ts (os.take i)))), some (.int (sb (sq ts (os.drop i)))), some (.ref pb), y5, y6, y7, y8, y9, none] ∧ Same H H' ∧ H' pb = some (.tup [.int m, .int (k : Int)]) ∧ Top ts os i m k) ?_ ?_ ?_ ?_
      · refine ⟨0, 0, p2, none, none, none, none, none, ?_, s12, h2, top_0 ts os⟩
        rw [show os.drop 0 = os from rfl, sb_os hP]
        rfl
      · rintro i σ' H' ⟨_, _, _, _, _, _, _, _, _, sm, _⟩
        exact sm.seq hO
      · rintro i x T σ' H3 H4 hx ⟨m, k, pb, y5, y6, y7, y8, y9, rfl, sm, hb, top⟩ nT s4 e4
        obtain ⟨j, hj, rfl⟩ := zs_at hx
        have hj2 := hk j (List.mem_of_getElem? hj)
        have hT4 : H4 T = some (.tup [.int (i : Nat), .int (j : Int)]) := by rw [e4]; exact upd_same
        have sm4 := sm.trans s4
        have ew := way_at (ts := ts) hj
        unfold pth at ew
        refine i_gtup (SqT.of hT4) rfl ?_
        walk_at "go"
        refine i_thing (hT.mono sm4) (getD_at hj2) fun pt hpt => ?_
        refine i_gtup hpt rfl ?_
        walk_at "go"
        rw [sb_drop hj]
        refine i_ixT (SqT.of (s4 _ _ hb)) (v := .int m) (atI_nat (j := 0) rfl) ?_
        walk_at "go"
        have en : (ts.getD j (0, 0, 0)).2.2 + sb (sq ts (os.drop (i + 1))) - (ts.getD j (0, 0, 0)).2.2 = sb (sq ts (os.drop (i + 1))) := by omega
        refine i_itd (fun c => ?_) (fun c => ?_)
        · walk_at "go"
          refine i_tupk (by show 2 ≤ 100000; decide) fun p5 H5 n5 s5 h5 => ?_
          walk_at "go"
          have tp := top_y top (by omega)
          rw [sa_take hj, en]
          rw [show sa (sq ts (os.take i)) + (ts.getD j (0, 0, 0)).1 + (ts.getD j (0, 0, 0)).2.1 + ((ts.getD j (0, 0, 0)).2.2 + sb (sq ts (os.drop (i + 1)))) = wayAt ts os i from ew.symm] at h5
          exact ⟨_, i, p5, _, _, _, _, _, rfl, sm4.trans s5, h5, tp⟩
        · walk_at "go"
          have tp := top_n top (by omega)
          rw [sa_take hj, en]
          exact ⟨m, k, pb, _, _, _, _, _, rfl, sm4, s4 _ _ hb, tp⟩
      · rintro σ' H3 ⟨m, k, pb, y5, y6, y7, y8, y9, rfl, sm, hb, top⟩
        rw [zs_len'] at top ⊢
        walk_at "go"
        refine i_lenL (sm.seq hO) ?_
        walk_at "go"
        rw [zs_len']
        refine i_itd (fun c => ?_) (fun c => ?_)
        · have e0 : os = [] := List.eq_nil_of_length_eq_zero (by omega)
          have t0 : ts = [] := List.eq_nil_of_length_eq_zero (by omega)
          walk_at "go"
          refine i_lstk (Nat.zero_le _) fun p4 H4 n4 s4 h4 => ?_
          walk_at "go"
          refine i_tupk (by show 3 ≤ 100000; decide) fun p5 H5 n5 s5 h5 => ?_
          refine q H5 p5 p4 1 0 [] ((sm.trans s4).trans s5) h5 (s5 _ _ h4) ?_ (Nat.zero_le _)
          subst e0 t0
          rfl
        · obtain ⟨k1, k2, k3⟩ := top_end hn hP top (fun z => c (by rw [z]; rfl))
          have ej := List.getElem?_eq_getElem k1
          have hj2 := hk os[k] (List.getElem_mem k1)
          have ba := fun (ap : List Int) hs => bar_at (ap := ap) hn hB ej (k2.symm.trans k3) hs
          walk_at "go"
          refine i_ixT (SqT.of hb) (v := .int (k : Int)) (atI_nat (j := 1) rfl) ?_
          refine i_ixL (sm.seq hO) (atI_nat (zs_get ej)) ?_
          walk_at "go"
          refine i_thing (hT.mono sm) (getD_at hj2) fun pt hpt => ?_
          refine i_gtup hpt rfl ?_
          walk_at "go"
          refine i_itd (fun c1 => ?_) (fun c1 => ?_)
          · walk_at "go"
            refine i_ixT (SqT.of hb) (v := .int (k : Int)) (atI_nat (j := 1) rfl) ?_
            walk_at "go"
            refine i_slL (sm.seq hO) fun p4 H4 n4 s4 h4 => ?_
            rw [cut_to, zs_take] at h4
            walk_at "go"
            refine i_sortI (SqL.of h4) fun ap p5 H5 hp5 hs5 n5 s5 h5 => ?_
            walk_at "go"
            refine i_tupk (by show 3 ≤ 100000; decide) fun p6 H6 n6 s6 h6 => ?_
            refine q H6 p6 p5 1 _ ap (((sm.trans s4).trans s5).trans s6) h6 (s6 _ _ h5) ((ba ap hs5).1 c1 hp5) ?_
            rw [hp5.length_eq, zs_len, List.length_take]; omega
          · walk_at "go"
            refine i_ixT (SqT.of hb) (v := .int (k : Int)) (atI_nat (j := 1) rfl) ?_
            walk_at "go"
            refine i_slL (sm.seq hO) fun p4 H4 n4 s4 h4 => ?_
            rw [show ((k : Int) + 1) = ((k + 1 : Nat) : Int) from rfl, cut_from, zs_drop] at h4
            walk_at "go"
            refine i_sortI (SqL.of h4) fun ap p5 H5 hp5 hs5 n5 s5 h5 => ?_
            walk_at "go"
            refine i_tupk (by show 3 ≤ 100000; decide) fun p6 H6 n6 s6 h6 => ?_
            refine q H6 p6 p5 2 _ ap (((sm.trans s4).trans s5).trans s6) h6 (s6 _ _ h5) ((ba ap hs5).2 c1 hp5) ?_
            rw [hp5.length_eq, zs_len, List.length_drop]; omega
/-- soonest -/
def sp_soon (K : PySem.W.Frag) (C : Addr) : Sp := fun vs H Q _ => ∃ (a : Addr) (ts : List T3), vs = [.ref a] ∧ Things K H a ts ∧ (∀ t ∈ ts, Nn t) ∧ ts.length ≤ 1000 ∧
  ∀ H' x po pa b l os ap, Same H H' → H x = none → H po = none → H pa = none → po ≠ pa → IsS H' C x po pa b l → H' po = some (.lst ((zs os).map V.int)) → H' pa = some (.lst (ap.map V.int)) → os.Perm (List.range ts.length) → wv ts b ap l = some (dn (sq ts os)) → ap.length ≤ 1000 → Q (.ref x) H'
theorem ok_soonest (B : Blt mg) (c_check_things : Cal P w K mg base 3 "check_things" (sp_check K)) (c_best_order : Cal P w K mg base 1 "best_order" (sp_border K)) (c_bar_of : Cal P w K mg base 1 "bar_of" (sp_bar K)) (c_Soonest : MakX P w K mg base 1 "Soonest" C (sp_initS K C)) (D : Def K mg "soonest" s_soonest ["things"]) : Cal P w K mg base 4 "soonest" (sp_soon K C) := by
  refine D.cal sc_soonest (fun vs H Q E h => ?_) (fun f cdv A outer s H vs Q E hr h => ?_)
  · obtain ⟨a, ts, rfl, _⟩ := h
    rfl
  · obtain ⟨a, ts, rfl, hT, hn, hz, q⟩ := h
    refine ⟨_, pss_cons (ps_expr (pe_cal c_check_things hr (by decide) (by rfl) (pa_cons (pv 0) pa_nil)))
    (pss_cons (ps_set (i := 1) sc_soonest.nd rfl (.inl rfl) (pe_cal c_best_order hr (by decide) (by rfl) (pa_cons (pv 0) pa_nil)))
    (pss_cons (ps_asg (pe_cal c_bar_of hr (by decide) (by rfl) (pa_cons (pv 0) (pa_cons (pv 1) pa_nil))) (pg_tup (n := 3) rfl (pgs_cons (pg_name (i := 2) sc_soonest.nd rfl (.inl rfl)) (pgs_cons (pg_name (i := 3) sc_soonest.nd rfl (.inl rfl)) (pgs_cons (pg_name (i := 4) sc_soonest.nd rfl (.inl rfl)) pgs_nil))) : PG _ _ (gTup K 3 (gCons (gName 2) (gCons (gName 3) (gCons (gName 4) gNil))))))
    (pss_one (ps_ret (pe_mak c_Soonest hr (by decide) (by rfl) (pa_cons (pv 1) (pa_cons (pv 2) (pa_cons (pv 3) (pa_cons (pv 4) pa_nil))))))))), ?_⟩
    walk_at "go"
    refine ⟨a, ts, rfl, hT, hn, hz, fun H1 s1 => ?_⟩
    walk_at "go"
    refine ⟨a, ts, rfl, hT.mono s1, hz, fun H2 o os s2 n2 h2 hB => ?_⟩
    walk_at "go"
    have s12 := s1.trans s2
    refine ⟨a, o, ts, os, rfl, hT.mono s12, SqL.of h2, hn, hz, hB, fun H3 p pa b l ap s3 h3 h4 hw hl => ?_⟩
    refine i_gtup (SqT.of h3) rfl ?_
    walk_at "go"
    have s13 := s12.trans s3
    refine i_makS (SqL.of (s3 _ _ h2)) (SqL.of h4) fun x po pa2 H5 s5 nx n1 n3 ne hS e1 e2 => ?_
    exact q H5 x po pa2 b l os ap (s13.trans s5) (s13.free nx) (s13.free n1) (s13.free n3) ne hS e1 e2 hB.1 hw hl
end
abbrev s__law_order : Stmt := topS 25
abbrev n__law_order : List Str := ["_law_things_here", "_law_order_here", "_law_at"]
theorem sc__law_order : FnScope n__law_order ["_law_things_here", "_law_order_here"] (defScope s__law_order) := ⟨rfl, rfl, rfl, by decide +kernel, rfl, by decide +kernel, by decide +kernel⟩
abbrev s__law_worth : Stmt := topS 26
abbrev n__law_worth : List Str := ["_law_things_here", "_law_bench", "_law_apart", "_law_length", "_law_worth_here", "_law_longest", "_law_marks", "_law_at", "_law_mark", "_law_thing", "_law_here", "_law_there"]
theorem sc__law_worth : FnScope n__law_worth ["_law_things_here", "_law_bench", "_law_apart", "_law_length"] (defScope s__law_worth) := ⟨rfl, rfl, rfl, by decide +kernel, rfl, by decide +kernel, by decide +kernel⟩
/-- _law_worth: -1 for what is no bar -/
def sp_lworth (K : PySem.W.Frag) : Sp := fun vs H Q _ => ∃ (a p : Addr) (ts : List T3) (b l : Int) (ns : List Int), vs = [.ref a, .int b, .ref p, .int l] ∧ Things K H a ts ∧ SqL K H p (ns.map V.int) ∧ ts.length ≤ 1000 ∧ ns.length ≤ 1000 ∧ ∀ H', Same H H' → Q (.int ((wv ts b ns l).getD (-1))) H'
theorem hre_at {b : Int} (cb : b = 1 ∨ b = 2) (t : T3) : atI [V.int t.1, V.int t.2.1, V.int t.2.2] (2 * b - 2) = some (.int (hre b t)) := by
  rcases cb with rfl | rfl <;> rfl
theorem thr_at {b : Int} (cb : b = 1 ∨ b = 2) (t : T3) : atI [V.int t.1, V.int t.2.1, V.int t.2.2] (4 - 2 * b) = some (.int (thr b t)) := by
  rcases cb with rfl | rfl <;> rfl
theorem strict_eq {a b : List Int} (ha : a.Pairwise (· < ·)) (hb : b.Pairwise (· < ·)) (h : ∀ k, k ∈ a ↔ k ∈ b) : a = b := by
  have na : a.Nodup := ha.imp fun h e => by omega
  have nb : b.Nodup := hb.imp fun h e => by omega
  exact sorted_uniq ((List.perm_ext_iff_of_nodup na nb).mpr h) (ha.imp fun h => Int.le_of_lt h) (hb.imp fun h => Int.le_of_lt h)
theorem zs_ins (os : List Nat) (p n : Nat) : (zs (os.take p ++ [n] ++ os.drop p)).map V.int = ((zs os).map V.int).take p ++ [V.int (n : Int)] ++ ((zs os).map V.int).drop p := by
  unfold zs
  rw [List.map_append, List.map_append, List.map_append, List.map_append, ← List.map_take, ← List.map_take, ← List.map_drop, ← List.map_drop]
  rfl
section
variable {P : Program} {w : World} {K : PySem.W.Frag} {mg : Str → Option Value} {base : Heap} {C : Addr}
theorem ok__law_order (B : Blt mg) (c__law_whole : Cal P w K mg base 1 "_law_whole" sp_whole) (D : Def K mg "_law_order" s__law_order ["_law_things_here", "_law_order_here"]) : Cal P w K mg base 2 "_law_order" (sp_isord K) := by
  refine D.cal sc__law_order (fun vs H Q E h => ?_) (fun f cdv A outer s H vs Q E hr h => ?_)
  · obtain ⟨a, b, ts, ns, rfl, _⟩ := h
    rfl
  · obtain ⟨a, b, ts, ns, rfl, hT, hO, hz, hn, q⟩ := h
    refine ⟨_, pss_cons (ps_if (PW.pt (pw_or (pt_not (pt_val (pe_callB (r := rIsi K) call_isi (by rfl) B.isinstance (by decide +kernel) (pa_cons (pv 1) (pa_cons (pe_bltn (v := .ty "list") (u := .type "list") (by rfl) B.list (by decide +kernel) rfl) pa_nil))))) (pw_or1 (pt_not (pt_val (pe_callB (r := rAll K) (cr_all rfl) (by rfl) B.all (by decide +kernel) (pa_cons (pe_lc (own := [("_law_at", 2)]) rfl sc__law_order.nd (pi_list (pv 1)) (blkOk_by (N := n__law_order) (sc := defScope s__law_order) (by decide +kernel)) (fun _ _ _ _ _ => (pg_name (i := 2) sc__law_order.nd rfl (.inl rfl))) (fun _ _ _ _ _ => pts_nil) (fun _ _ _ _ _ => (pe_cal c__law_whole hr (by decide) (by rfl) (pa_cons (pv 2) pa_nil)))) pa_nil)))))))
      (pss_one (ps_ret pe_bl))
      (pss_nil))
    (pss_one (ps_ret (pe_cmpR (r := rEqD K) (op_eqD hr.units) (pe_callB (r := rSortedI K) cr_sortedI (by rfl) B.sorted (by decide +kernel) (pa_cons (pv 1) pa_nil)) (pe_listRg rfl (by rfl) B.list (prg_1 (by rfl) B.range (pe_callB (r := rLenB K) cb_len (by rfl) B.len (by decide +kernel) (pa_cons (pv 0) pa_nil)))) (nomark _)))), ?_⟩
    walk_at "go"
    refine i_isi (r := true) (ty_sqL hO) (by decide +kernel) ?_
    walk_at "go"
    refine i_itl hO ?_
    refine fun p0 hp0 => lc_map (K := K) (R := fun _ y _ => y = .bl true) (fun _ h => h) sqn_l (fun H' e => e.seq hO) (by rw [List.length_map]; omega) hp0 (fun i x H' Qc Qn hx sm k => ?_) (fun ys H' sm hy hl hr => ?_)
    · rw [List.getElem?_map] at hx
      obtain ⟨m, _, rfl⟩ := Option.map_eq_some_iff.mp hx
      walk_at "go"
      refine ⟨rfl, ?_⟩
      walk_at "go"
      refine ⟨m, rfl, ?_⟩
      exact k _ _ (Same.refl _) rfl
    · have e := all_true hl hr
      rw [e] at hy
      walk_at "go"
      refine i_allT hy ?_
      walk_at "go"
      refine i_sortI (sm.seq hO) fun ns' p1 H1 hP hS np1 s1 h1 => ?_
      walk_at "go"
      refine i_lenThings ((hT.mono sm).mono s1) ?_
      refine i_rg (n := ts.length) rfl (by omega) fun p2 H2 np2 s2 h2 => ?_
      refine i_eqD (d := dI ns') (e := dI (rg ts.length)) (dp_ints (SqL.of (s2 _ _ h1))) (dp_ints (SqL.of h2)) (shaped_dI _) (shaped_dI _) ?_
      rw [eqv_dI]
      have e3 : decide (ns' = rg ts.length) = decide (ns.Perm (rg ts.length)) := by
        rw [decide_eq_decide]
        exact sorted_rg hP hS
      rw [e3]
      exact q _ ((sm.trans s1).trans s2)
theorem ok__law_worth (B : Blt mg) (D : Def K mg "_law_worth" s__law_worth ["_law_things_here", "_law_bench", "_law_apart", "_law_length"]) : Cal P w K mg base 1 "_law_worth" (sp_lworth K) := by
  refine D.cal sc__law_worth (fun vs H Q E h => ?_) (fun f cdv A outer s H vs Q E hr h => ?_)
  · obtain ⟨a, p, ts, b, l, ns, rfl, _⟩ := h
    rfl
  · obtain ⟨a, p, ts, b, l, ns, rfl, hT, hA, hz, hzn, q⟩ := h
    have qn : ¬ ((b = 1 ∨ b = 2) ∧ ris ts.length (-1) ns = true ∧ 0 ≤ l) → ∀ H', Same H H' → Q (.int (-1)) H' := fun c H' sm => by
      have z := q H' sm
      rw [wv_not c] at z
      exact z
    refine ⟨_, pss_cons (ps_if (PW.pt (pw_or (pt_cmpR (r := rIn K true) op_notIn_seq (pv 1) (pe_tup (pa_cons pe_int (pa_cons pe_int pa_nil))) (by rfl)) (pw_or (pt_cmpR op_lt (pv 3) pe_int (nomark _)) (pw_or1 (pt_cmpR (r := rNeD K) (op_neD hr.units) (pv 2) (pe_callB (r := rSortS w) (cr_sortS rfl) (by rfl) B.sorted (by decide +kernel) (pa_cons (pe_callTy (r := rSetI K w) (cr_setI rfl) (by rfl) B.set (by decide +kernel) (pa_cons (pv 2) pa_nil)) pa_nil)) (nomark _))))))
      (pss_one (ps_ret (pe_un un_neg pe_int)))
      (pss_nil))
    (pss_cons (ps_if (pt_val (pe_callB (r := rAny K) (cr_any rfl) (by rfl) B.any (by decide +kernel) (pa_cons (pe_lc (own := [("_law_at", 7)]) rfl sc__law_worth.nd (pi_list (pv 2)) (blkOk_by (N := n__law_worth) (sc := defScope s__law_worth) (by decide +kernel)) (fun _ _ _ _ _ => (pg_name (i := 7) sc__law_worth.nd rfl (.inl rfl))) (fun _ _ _ _ _ => pts_nil) (fun _ _ _ _ _ => (pe_not (pe_chain op_le op_lt pe_int (pv 7) (pe_callB (r := rLenB K) cb_len (by rfl) B.len (by decide +kernel) (pa_cons (pv 0) pa_nil)))))) pa_nil)))
      (pss_one (ps_ret (pe_un un_neg pe_int)))
      (pss_nil))
    (pss_cons (ps_par3 (i := 4) (j := 5) (l := 6) rfl sc__law_worth.nd rfl rfl rfl (by decide) (by decide) (by decide) rfl rfl rfl (pa_cons (pv 3) (pa_cons (pe_un un_neg pe_int) (pa_cons (pe_op op_rep (pe_lst (pa_cons pe_bl pa_nil)) (pe_callB (r := rLenB K) cb_len (by rfl) B.len (by decide +kernel) (pa_cons (pv 0) pa_nil))) pa_nil))) (by rfl))
    (pss_cons (ps_for PassesOwn.never rfl (pi_list (pv 2)) (pg_name (i := 7) sc__law_worth.nd rfl (.inl rfl))
      (pss_one (ps_asg pe_bl (pg_sub (pv 6) (pv 7) set_list))))
    (pss_cons (ps_for PassesOwn.never rfl (pi_zip (by rfl) B.zip (pa_cons (pv 6) (pa_cons (pv 0) pa_nil))) (pg_tup (n := 2) rfl (pgs_cons (pg_name (i := 8) sc__law_worth.nd rfl (.inl rfl)) (pgs_cons (pg_name (i := 9) sc__law_worth.nd rfl (.inl rfl)) pgs_nil)) : PG _ _ (gTup K 2 (gCons (gName 8) (gCons (gName 9) gNil))))
      (pss_cons (ps_par (i := 10) (j := 11) rfl sc__law_worth.nd rfl rfl (by decide) rfl rfl (pa_cons (pe_ix (r := rIxT K) ix_tup (pv 9) (pe_op op_sub (pe_op op_mul pe_int (pv 1)) pe_int) (fun _ _ => rfl)) (pa_cons (pe_ix (r := rIxT K) ix_tup (pv 9) (pe_op op_sub pe_int (pe_op op_mul pe_int (pv 1))) (fun _ _ => rfl)) pa_nil)) (by rfl))
        (pss_cons (ps_if (PW.pt (pw_and (pt_val (pv 8)) (pw_and1 (pt_cmpR op_gt (pv 10) (pv 11) (nomark _)))))
          (pss_one (ps_ret (pe_un un_neg pe_int)))
          (pss_nil))
        (pss_cons (ps_if (PW.pt (pw_and (pt_not (pt_val (pv 8))) (pw_and (pt_cmpR op_lt (pe_op op_add (pv 10) (pe_ix (r := rIxT K) ix_tup (pv 9) pe_int (fun _ _ => rfl))) (pv 3) (nomark _)) (pw_and1 (pt_cmpR op_lt (pv 10) (pv 11) (nomark _))))))
          (pss_one (ps_ret (pe_un un_neg pe_int)))
          (pss_nil))
        (pss_cons (ps_if (pt_not (pt_val (pv 8)))
          (pss_one (ps_set (i := 5) sc__law_worth.nd rfl (.inl rfl) (pe_callB (cb_max2 rfl) (by rfl) B.max (by decide +kernel) (pa_cons (pv 5) (pa_cons (pe_op op_add (pv 10) (pe_ix (r := rIxT K) ix_tup (pv 9) pe_int (fun _ _ => rfl))) pa_nil)))))
          (pss_nil))
        (pss_one (ps_set (i := 4) sc__law_worth.nd rfl (.inl rfl) (pe_op op_add (pv 4) (pe_ifExp (pt_val (pv 8)) (pv 10) (pv 11))))))))))
    (pss_one (ps_ret (pe_ifExp (PW.pt (pw_or (pt_cmpR op_eq (pv 3) pe_int (nomark _)) (pw_or1 (pt_cmpR op_ge (pv 5) (pv 3) (nomark _))))) (pv 4) (pe_un un_neg pe_int)))))))), ?_⟩
    walk_at "go"
    refine i_tupk (by show 2 ≤ 100000; decide) fun p1 H1 np1 s1 h1 => ?_
    refine i_not12 h1 ?_
    refine ⟨_, rfl, ?_⟩
    refine i_itdn (fun cb => ?_) (fun cb => ?_)
    · walk_at "go"
      exact qn (fun z => cb z.1) _ s1
    · walk_at "go"
      refine i_itd (fun cl => ?_) (fun cl => ?_)
      · walk_at "go"
        exact qn (fun z => by have := z.2.2; omega) _ s1
      · walk_at "go"
        refine ⟨p, ns, rfl, s1.seq hA, hzn, fun p2 c2 n2 => ?_⟩
        refine ⟨p2, _, c2, rfl, upd_same, fun ss p3 o3 m3 n3 => ?_⟩
        have s2 : Same H (upd (upd H1 p2 (SetO w p2 (fun j => decide (j ∈ ns)) c2)) p3 (.lst (ss.map V.int))) := s1.trans ((Same.upd n2).trans (Same.upd n3))
        refine i_neD (d := dI ns) (e := dI ss) (dp_ints (s2.seq hA)) (dp_ints (SqL.of upd_same)) (shaped_dI _) (shaped_dI _) ?_
        rw [eqv_dI]
        have srt : ns = ss ↔ ns.Pairwise (· < ·) := ⟨fun e => by rw [e]; exact o3, fun h => strict_eq h o3 fun k => by rw [m3 k, decide_eq_true_eq]⟩
        refine ⟨_, rfl, ?_⟩
        generalize upd (upd H1 p2 (SetO w p2 (fun j => decide (j ∈ ns)) c2)) p3 (.lst (ss.map V.int)) = H2 at s2 ⊢
        refine i_itdn (fun ce => ?_) (fun ce => ?_)
        · walk_at "go"
          exact qn (fun z => ce (srt.mpr (ris_to z.2.1).1)) _ s2
        · have cs := srt.mp ce
          walk_at "go"
          refine i_itl (s2.seq hA) ?_
          refine fun p4 n4 => lc_map (K := K) (R := fun i y _ => ∀ z, ns[i]? = some z → y = .bl (!decide (0 ≤ z ∧ z < (ts.length : Int)))) (fun _ h => h) sqn_l (fun H' e => e.seq (s2.seq hA)) (by rw [List.length_map]; omega) n4 (fun i x H' Qc Qn hx sm k => ?_) (fun ys H4 s4 h4 hl4 hr4 => ?_)
          · rw [List.getElem?_map] at hx
            obtain ⟨z, hz1, rfl⟩ := Option.map_eq_some_iff.mp hx
            have kz : ∀ b, b = (!decide (0 ≤ z ∧ z < (ts.length : Int))) → Qc (.bl b) H' := fun b e => k _ _ (Same.refl _) fun z' hz' => by
              rw [hz1] at hz'
              cases hz'
              rw [e]
            walk_at "go"
            refine ⟨rfl, ?_⟩
            walk_at "go"
            refine i_itd (fun c1 => ?_) (fun c1 => ?_)
            · walk_at "go"
              refine i_lenThings (hT.mono (s2.trans sm)) ?_
              walk_at "go"
              refine kz _ ?_
              rw [show decide (0 ≤ z ∧ z < (ts.length : Int)) = decide (z < (ts.length : Int)) from decide_eq_decide.mpr ⟨fun h => h.2, fun h => ⟨c1, h⟩⟩]
            · walk_at "go"
              refine kz _ ?_
              rw [decide_eq_false (fun h => c1 h.1)]
          · have ey : ys = (ns.map fun z => !decide (0 ≤ z ∧ z < (ts.length : Int))).map V.bl := by
              rw [List.map_map]
              refine List.ext_getElem? fun i => ?_
              rw [List.getElem?_map]
              cases e : ns[i]? with
              | none => exact List.getElem?_eq_none (by rw [hl4, List.length_map]; exact List.getElem?_eq_none_iff.mp e)
              | some z =>
                have hi : i < ys.length := by rw [hl4, List.length_map]; exact (List.getElem?_eq_some_iff.mp e).1
                rw [List.getElem?_eq_getElem hi, hr4 i _ (List.getElem?_eq_getElem hi) z e]
                rfl
            rw [ey] at h4
            have s24 := s2.trans s4
            walk_at "go"
            refine i_any (SqL.of h4) ?_
            refine ⟨_, rfl, ?_⟩
            refine i_ite (fun ca => ?_) (fun ca => ?_)
            · walk_at "go"
              refine qn (fun z => ?_) _ s24
              obtain ⟨x, hx, hx2⟩ := List.any_eq_true.mp ca
              obtain ⟨y, hy, rfl⟩ := List.mem_map.mp hx
              have := (ris_to z.2.1).2 y hy
              rw [decide_eq_true (by omega)] at hx2
              cases hx2
            · have cr : ris ts.length (-1) ns = true := ris_of cs fun x hx => by
                have h5 := List.any_eq_false.mp ca _ (List.mem_map.mpr ⟨x, hx, rfl⟩)
                have h6 : 0 ≤ x ∧ x < (ts.length : Int) := by simpa using h5
                omega
              obtain ⟨rp, rm⟩ := ris_to cr
              walk_at "go"
              refine i_lstk (by show 1 ≤ 100000; decide) fun p5 H5 n5 s5 h5 => ?_
              walk_at "go"
              refine i_lenThings (hT.mono (s24.trans s5)) ?_
              refine i_rep h5 rfl (by omega) fun p6 H6 n6 s6 h6 => ?_
              have s26 := (s24.trans s5).trans s6
              have n60 : H p6 = none := (s24.trans s5).free n6
              rw [show List.replicate ts.length (V.bl false) = (mks ts.length []).map V.bl by rw [mks_nil, List.map_replicate]] at h6
              walk_at "go"
              refine i_itl (s26.seq hA) ?_
              refine for_list (K := K) (a := p) (xs := ns.map V.int) (fun i σ' H' => ∃ (y7 : Option V), σ' = [some (.ref a), some (.int b), some (.ref p), some (.int l), some (.int l), some (.int (-1)), some (.ref p6), y7, none, none, none, none] ∧ Same H H' ∧ H' p6 = some (.lst ((mks ts.length (ns.take i)).map V.bl))) ?_ ?_ ?_ ?_
              · exact ⟨_, rfl, s26, h6⟩
              · rintro i σ' H' _ ⟨_, _, sm, _⟩
                exact sm.seq hA
              · rintro i x σ' H' hx ⟨y7, rfl, sm, hm⟩
                rw [List.getElem?_map] at hx
                obtain ⟨z, hz1, rfl⟩ := Option.map_eq_some_iff.mp hx
                have hb := rm z (List.mem_of_getElem? hz1)
                obtain ⟨j, rfl⟩ : ∃ j : Nat, z = (j : Int) := ⟨z.toNat, by omega⟩
                have hj : j < ts.length := by omega
                walk_at "go"
                refine i_setL hm (ixN_nat (by rw [List.length_map, mks_len]; exact hj)) ?_
                rw [marks_set hj, ← take_snoc hz1]
                exact ⟨_, rfl, Same.mut sm n60, upd_same⟩
              · rintro σ' H7 ⟨y7, rfl, sm7, hm⟩
                rw [List.length_map, List.take_length] at hm
                walk_at "go"
                obtain ⟨vs4, hs4, hT4⟩ := hT.mono sm7
                refine i_itz (SqL.of hm) hs4 ?_
                refine for_zip (K := K) (a := p6) (b := a) (xs := (mks ts.length ns).map V.bl) (ys := vs4) (fun i σ' H' => ∃ (lg : Int) (y8 y9 y10 y11 : Option V), σ' = [some (.ref a), some (.int b), some (.ref p), some (.int l), some (.int (wrt ts b ns l i)), some (.int lg), some (.ref p6), y7, y8, y9, y10, y11] ∧ Same H7 H' ∧ Along ts b ns l i ∧ metB ts b ns l i = (decide (l = 0) || decide (l ≤ lg))) ?_ ?_ (by rw [List.length_map, mks_len, hT4.len]) ?_ ?_
                · refine ⟨-1, none, none, none, none, ?_, Same.refl _, along_0 .., ?_⟩
                  · rw [wrt_0]
                  · rw [met_0, decide_eq_false (by omega : ¬ l ≤ -1), Bool.or_false]
                · rintro i σ' H' ⟨_, _, _, _, _, _, sm, _⟩
                  exact ⟨sm.seq (SqL.of hm), sm.seq hs4⟩
                · rintro i x y T σ' H8 H9 hx hy ⟨lg, y8, y9, y10, y11, rfl, sm8, al, me⟩ nT s9 h9
                  obtain ⟨t, ht, hy2⟩ := hT4.at' hy
                  have hi : i < ts.length := (List.getElem?_eq_some_iff.mp ht).1
                  have gt : ts.getD i (0, 0, 0) = t := by rw [List.getD_eq_getElem?_getD, ht]; rfl
                  rw [marks_at hi] at hx
                  cases hx
                  have sm9 := sm8.trans s9
                  obtain ⟨pt, rfl, hpt⟩ := hy2.mono (smT sm9)
                  have cm : CMul 2 b := by rcases cb with rfl | rfl <;> exact .inr ⟨by decide, by decide⟩
                  refine i_gtup (SqT.of h9) rfl ?_
                  walk_at "go"
                  refine i_I cm ?_
                  walk_at "go"
                  refine i_ixT hpt (hre_at cb t) ?_
                  walk_at "go"
                  refine i_I cm ?_
                  walk_at "go"
                  refine i_ixT hpt (thr_at cb t) ?_
                  walk_at "go"
                  by_cases ci : (i : Int) ∈ ns
                  · have en := ent_in (ts := ts) ci
                    rw [gt] at en
                    rw [decide_eq_true ci]
                    walk_at "go"
                    refine i_itd (fun c => ?_) (fun c => ?_)
                    · walk_at "go"
                      have z := q H9 (sm7.trans sm9)
                      rw [wv_bad hi (by rw [en, okE_in]; exact decide_eq_false (by omega))] at z
                      exact z
                    · walk_at "go"
                      have al2 := along_s hi al (by rw [en, okE_in]; exact decide_eq_true (by omega))
                      rw [wrt_s hi, met_s hi, en, vE_in, mE_in, Bool.or_false]
                      exact ⟨lg, _, _, _, _, rfl, sm9, al2, me⟩
                  · have en := ent_out (ts := ts) ci
                    rw [gt] at en
                    rw [decide_eq_false ci]
                    have fin : okE b l (ent ts ns i) = true → ∃ (lg' : Int) (y8 y9 y10 y11 : Option V), [some (V.ref a), some (.int b), some (.ref p), some (.int l), some (.int (wrt ts b ns l i + thr b t)), some (.int (gr lg (hre b t + t.2.1))), some (.ref p6), y7, some (.bl false), some (.ref pt), some (.int (hre b t)), some (.int (thr b t))] = [some (.ref a), some (.int b), some (.ref p), some (.int l), some (.int (wrt ts b ns l (i + 1))), some (.int lg'), some (.ref p6), y7, y8, y9, y10, y11] ∧ Same H7 H9 ∧ Along ts b ns l (i + 1) ∧ metB ts b ns l (i + 1) = (decide (l = 0) || decide (l ≤ lg')) := fun ok => by
                      have al2 := along_s hi al ok
                      rw [wrt_s hi, met_s hi, en, vE_out, mE_out, me]
                      refine ⟨_, _, _, _, _, rfl, sm9, al2, ?_⟩
                      rw [Bool.or_assoc]
                      refine congrArg (decide (l = 0) || ·) ?_
                      rw [Bool.eq_iff_iff, Bool.or_eq_true, decide_eq_true_eq, decide_eq_true_eq, decide_eq_true_eq]
                      unfold gr
                      split <;> omega
                    walk_at "go"
                    refine i_ixT hpt (v := .int t.2.1) (atI_nat (j := 1) rfl) ?_
                    walk_at "go"
                    refine i_itd (fun c => ?_) (fun c => ?_)
                    · walk_at "go"
                      refine i_itd (fun c2 => ?_) (fun c2 => ?_)
                      · walk_at "go"
                        have z := q H9 (sm7.trans sm9)
                        rw [wv_bad hi (by rw [en, okE_out, decide_eq_false (by omega)]; exact decide_eq_false (by omega))] at z
                        exact z
                      · walk_at "go"
                        refine i_ixT hpt (v := .int t.2.1) (atI_nat (j := 1) rfl) ?_
                        walk_at "go"
                        exact fin (by rw [en, okE_out, decide_eq_true (show thr b t ≤ hre b t by omega), Bool.or_true])
                    · walk_at "go"
                      refine i_ixT hpt (v := .int t.2.1) (atI_nat (j := 1) rfl) ?_
                      walk_at "go"
                      exact fin (by rw [en, okE_out, decide_eq_true (show l ≤ hre b t + t.2.1 by omega), Bool.true_or])
                · rintro σ' H8 ⟨lg, y8, y9, y10, y11, rfl, sm8, al, me⟩
                  rw [List.length_map, mks_len] at al me ⊢
                  have z := q H8 (sm7.trans sm8)
                  rw [wv_end cb cr (by omega) al, me] at z
                  walk_at "go"
                  refine i_itd (fun c => ?_) (fun c => ?_)
                  · walk_at "go"
                    rw [decide_eq_true c, Bool.true_or] at z
                    exact z
                  · rw [decide_eq_false c, Bool.false_or] at z
                    walk_at "go"
                    refine i_itd (fun c2 => ?_) (fun c2 => ?_)
                    · walk_at "go"
                      rw [decide_eq_true c2] at z
                      exact z
                    · walk_at "go"
                      rw [decide_eq_false c2] at z
                      exact z
end
abbrev s_Within___init__ : Stmt := inClass (topS 14) 0
abbrev n_Within___init__ : List Str := ["self", "order"]
theorem sc_Within___init__ : FnScope n_Within___init__ ["self", "order"] (defScope s_Within___init__) := ⟨rfl, rfl, rfl, by decide +kernel, rfl, by decide +kernel, by decide +kernel⟩
abbrev s_Within_shows : Stmt := inClass (topS 14) 1
abbrev n_Within_shows : List Str := ["self", "things", "time"]
theorem sc_Within_shows : FnScope n_Within_shows ["self", "things", "time"] (defScope s_Within_shows) := ⟨rfl, rfl, rfl, by decide +kernel, rfl, by decide +kernel, by decide +kernel⟩
abbrev s_Never___init__ : Stmt := inClass (topS 15) 0
abbrev n_Never___init__ : List Str := ["self", "bench", "apart", "length"]
theorem sc_Never___init__ : FnScope n_Never___init__ ["self", "bench", "apart", "length"] (defScope s_Never___init__) := ⟨rfl, rfl, rfl, by decide +kernel, rfl, by decide +kernel, by decide +kernel⟩
abbrev s_Never_shows : Stmt := inClass (topS 15) 1
abbrev n_Never_shows : List Str := ["self", "things", "time", "worth"]
theorem sc_Never_shows : FnScope n_Never_shows ["self", "things", "time"] (defScope s_Never_shows) := ⟨rfl, rfl, rfl, by decide +kernel, rfl, by decide +kernel, by decide +kernel⟩
def IsW (H : Hp) (C x po : Addr) : Prop := ∃ dx, H x = some (.ins C dx [("order", .ref po)])
def IsN (H : Hp) (C x pa : Addr) (b l : Int) : Prop := ∃ dx, H x = some (.ins C dx [("bench", .int b), ("apart", .ref pa), ("length", .int l)])
structure ClW (K : PySem.W.Frag) (C : Addr) : Prop where
  own : Own K C
  o : NoAttr K C "order"
structure ClN (K : PySem.W.Frag) (C : Addr) : Prop where
  own : Own K C
  b : NoAttr K C "bench"
  a : NoAttr K C "apart"
  l : NoAttr K C "length"
/-- an answer about a time -/
inductive An where
  | w (ns : List Int)
  | n (b : Int) (ap : List Int) (l : Int)
def An.ns : An → List Int
  | .w ns => ns
  | .n _ ap _ => ap
def An.isW : An → Bool
  | .w _ => true
  | .n _ _ _ => false
def An.cl (cW cN : Addr) : An → Addr
  | .w _ => cW
  | .n _ _ _ => cN
def An.sho (ts : List T3) (tm : Int) : An → Bool
  | .w ns => decide (ns.Perm (rg ts.length)) && decide (dn (sq ts (nat_ ns)) ≤ tm)
  | .n b ap l => (match wv ts b ap l with
    | none => false
    | some m => decide (tm < m))
def IsA (K : PySem.W.Frag) (H : Hp) (cW cN x p : Addr) : An → Prop
  | .w ns => IsW H cW x p ∧ H p = some (.lst (ns.map V.int))
  | .n b ap l => IsN H cN x p b l ∧ H p = some (.lst (ap.map V.int))
theorem IsA.same {K : PySem.W.Frag} {H H' : Hp} {cW cN x p : Addr} {an : An} (h : IsA K H cW cN x p an) (e : Same H H') : IsA K H' cW cN x p an := by
  cases an with
  | w ns =>
    obtain ⟨⟨dx, h1⟩, h2⟩ := h
    exact ⟨⟨dx, e _ _ h1⟩, e _ _ h2⟩
  | n b ap l =>
    obtain ⟨⟨dx, h1⟩, h2⟩ := h
    exact ⟨⟨dx, e _ _ h1⟩, e _ _ h2⟩
theorem IsA.ins {K : PySem.W.Frag} {H : Hp} {cW cN x p : Addr} {an : An} (h : IsA K H cW cN x p an) : ∃ dx fs, H x = some (.ins (an.cl cW cN) dx fs) := by
  cases an with
  | w ns =>
    obtain ⟨⟨dx, h1⟩, h2⟩ := h
    exact ⟨dx, _, h1⟩
  | n b ap l =>
    obtain ⟨⟨dx, h1⟩, h2⟩ := h
    exact ⟨dx, _, h1⟩
def sp_initW (K : PySem.W.Frag) (C : Addr) : Sp := fun vs H Q _ => ∃ (x dx o : Addr) (xs : List V), vs = [.ref x, .ref o] ∧ H x = some (.ins C dx []) ∧ SqL K H o xs ∧
  ∀ H' po, SameB x H H' → H po = none → IsW H' C x po → H' po = some (.lst xs) → Q .non H'
def sp_initN (K : PySem.W.Frag) (C : Addr) : Sp := fun vs H Q _ => ∃ (x dx p : Addr) (b l : Int) (ys : List V), vs = [.ref x, .int b, .ref p, .int l] ∧ H x = some (.ins C dx []) ∧ SqL K H p ys ∧
  ∀ H' pa, SameB x H H' → H pa = none → IsN H' C x pa b l → H' pa = some (.lst ys) → Q .non H'
/-- shows of either, of any whole numbers -/
def sp_shA (K : PySem.W.Frag) (cW cN : Addr) (an : An) : Sp := fun vs H Q _ => ∃ (x p a : Addr) (tm : Int) (ts : List T3), vs = [.ref x, .ref a, .int tm] ∧ IsA K H cW cN x p an ∧ Things K H a ts ∧ ts.length ≤ 1000 ∧ an.ns.length ≤ 10000 ∧ ∀ H', Same H H' → Q (.bl (an.sho ts tm)) H'
def sp_shW (K : PySem.W.Frag) (cW cN : Addr) : Sp := fun vs H Q E => ∃ ns, sp_shA K cW cN (.w ns) vs H Q E
def sp_shN (K : PySem.W.Frag) (cW cN : Addr) : Sp := fun vs H Q E => ∃ b ap l, sp_shA K cW cN (.n b ap l) vs H Q E
section
variable {P : Program} {w : World} {K : PySem.W.Frag} {mg : Str → Option Value} {base : Heap} {C cW cN : Addr}
theorem ok_Within___init__ (B : Blt mg) (X_W : ClW K C) (D : DefI K mg "Within" C "Within.__init__" s_Within___init__ ["self", "order"]) : MakX P w K mg base 1 "Within" C (sp_initW K C) := by
  refine D.mak sc_Within___init__ (fun vs H Q E h => ?_) (fun f cdv A outer s H vs Q E hr h => ?_)
  · obtain ⟨x, dx, o, xs, rfl, _⟩ := h
    rfl
  · obtain ⟨x, dx, o, xs, rfl, hx, hO, q⟩ := h
    refine ⟨_, pss_one (ps_fld (pv 0) (pe_callTy (r := rListB K) cb_list (by rfl) B.list (by decide +kernel) (pa_cons (pv 1) pa_nil)) rfl), ?_⟩
    walk_at "go"
    refine i_listL hO fun po H1 n1 s1 h1 => ?_
    walk_at "go"
    refine i_sfldE (s1 _ _ hx) X_W.own.cls X_W.o (by show 0 < 1000; decide) ?_
    walk_at "go"
    have nx : po ≠ x := fun z => by rw [z, hx] at n1; cases n1
    exact q _ po ((Same.b s1).trans SameB.set) n1 ⟨dx, upd_same⟩ ((upd_ne nx).trans h1)
theorem ok_Never___init__ (B : Blt mg) (X_N : ClN K C) (D : DefI K mg "Never" C "Never.__init__" s_Never___init__ ["self", "bench", "apart", "length"]) : MakX P w K mg base 1 "Never" C (sp_initN K C) := by
  refine D.mak sc_Never___init__ (fun vs H Q E h => ?_) (fun f cdv A outer s H vs Q E hr h => ?_)
  · obtain ⟨x, dx, p, b, l, ys, rfl, _⟩ := h
    rfl
  · obtain ⟨x, dx, p, b, l, ys, rfl, hx, hA, q⟩ := h
    refine ⟨_, pss_cons (ps_fld (pv 0) (pv 1) rfl)
    (pss_cons (ps_fld (pv 0) (pe_callTy (r := rListB K) cb_list (by rfl) B.list (by decide +kernel) (pa_cons (pv 2) pa_nil)) rfl)
    (pss_one (ps_fld (pv 0) (pv 3) rfl))), ?_⟩
    walk_at "go"
    refine i_sfldE hx X_N.own.cls X_N.b (by show 0 < 1000; decide) ?_
    walk_at "go"
    have b1 : SameB x H (upd H x (.ins C dx (putF "bench" (.int b) []))) := SameB.set
    refine i_listL (b1.seq hx hA) fun pa H4 n4 s4 h4 => ?_
    walk_at "go"
    refine i_sfldE (s4 _ _ upd_same) X_N.own.cls X_N.a (by show 1 < 1000; decide) ?_
    walk_at "go"
    refine i_sfldE upd_same X_N.own.cls X_N.l (by show 2 < 1000; decide) ?_
    walk_at "go"
    have nax : pa ≠ x := fun z => by
      rw [z, upd_same] at n4
      cases n4
    have fa : H pa = none := by
      rw [upd_ne nax] at n4
      exact n4
    refine q _ pa (((b1.trans (Same.b s4)).trans SameB.set).trans SameB.set) fa ⟨dx, upd_same⟩ ?_
    rw [upd_ne nax, upd_ne nax]
    exact h4
theorem i_makW {o : Addr} {xs : List V} {H : Hp} {Q : VK} (hO : SqL K H o xs) (k : ∀ x po H', Same H H' → H x = none → H po = none → IsW H' C x po → H' po = some (.lst xs) → Q (.ref x) H') :
    ∀ x dx, H x = none → H dx = none → dx ≠ x → sp_initW K C [.ref x, .ref o] (upd (upd H dx (.own x)) x (.ins C dx [])) (fun v H2 => v = .non ∧ Q (.ref x) H2) E0 := by
  intro x dx nx nd ne
  have sm : Same H (upd (upd H dx (.own x)) x (.ins C dx [])) := (Same.upd nd).trans (Same.upd ((upd_ne (Ne.symm ne)).trans nx))
  exact ⟨x, dx, o, xs, rfl, upd_same, sm.seq hO, fun H' po sb n1 hS h1 => ⟨rfl, k x po H' (sb.same sm nx) nx (sm.free n1) hS h1⟩⟩
theorem i_makN {p : Addr} {b l : Int} {ys : List V} {H : Hp} {Q : VK} (hA : SqL K H p ys) (k : ∀ x pa H', Same H H' → H x = none → H pa = none → IsN H' C x pa b l → H' pa = some (.lst ys) → Q (.ref x) H') :
    ∀ x dx, H x = none → H dx = none → dx ≠ x → sp_initN K C [.ref x, .int b, .ref p, .int l] (upd (upd H dx (.own x)) x (.ins C dx [])) (fun v H2 => v = .non ∧ Q (.ref x) H2) E0 := by
  intro x dx nx nd ne
  have sm : Same H (upd (upd H dx (.own x)) x (.ins C dx [])) := (Same.upd nd).trans (Same.upd ((upd_ne (Ne.symm ne)).trans nx))
  exact ⟨x, dx, p, b, l, ys, rfl, upd_same, sm.seq hA, fun H' pa sb n1 hS h1 => ⟨rfl, k x pa H' (sb.same sm nx) nx (sm.free n1) hS h1⟩⟩
theorem ok_Within_shows (B : Blt mg) (X_W : ClW K cW) (c_is_order : Cal P w K mg base 2 "is_order" (sp_isord K)) (c_run : Cal P w K mg base 1 "run" (sp_run K)) (D : DefM K cW "shows" "Within.shows" s_Within_shows ["self", "things", "time"]) : MetX P w K mg base 4 cW "shows" (sp_shW K cW cN) := by
  refine D.met sc_Within_shows (fun vs H Q E h => ?_) (fun f cdv A outer s H vs Q E hr h => ?_)
  · obtain ⟨ns, x, p, a, tm, ts, rfl, _⟩ := h
    rfl
  · obtain ⟨ns, x, p, a, tm, ts, rfl, ⟨⟨dx, hx⟩, hO⟩, hT, hz, hn, q⟩ := h
    refine ⟨_, pss_one (ps_ret (pe_and (pe_cal c_is_order hr (by decide) (by rfl) (pa_cons (pv 1) (pa_cons (pe_fld (pv 0) rfl) pa_nil))) (pe_one (pe_cmpR op_le (pe_ix (r := rIxT K) ix_tup (pe_cal c_run hr (by decide) (by rfl) (pa_cons (pv 1) (pa_cons (pe_fld (pv 0) rfl) pa_nil))) pe_int (fun _ _ => rfl)) (pv 2) (nomark _))))), ?_⟩
    walk_at "go"
    refine i_fldE hx X_W.own.cls X_W.o rfl ?_
    walk_at "go"
    refine ⟨a, p, ts, ns, rfl, hT, SqL.of hO, hz, hn, fun H1 s1 => ?_⟩
    refine ⟨_, rfl, ?_⟩
    have z : ∀ H', Same H H' → Q (.bl (decide (ns.Perm (rg ts.length)) && decide (dn (sq ts (nat_ ns)) ≤ tm))) H' := q
    refine i_itd (fun c => ?_) (fun c => ?_)
    · rw [decide_eq_true c, Bool.true_and] at z
      obtain ⟨os, rfl, hp⟩ := perm_zs c
      rw [nat_zs] at z
      walk_at "go"
      refine i_fldE (s1 _ _ hx) X_W.own.cls X_W.o rfl ?_
      walk_at "go"
      refine ⟨a, p, ts, os, rfl, hT.mono s1, SqL.of (s1 _ _ hO), perm_lt hp, by rw [perm_len hp]; exact hz, fun H3 p' l' vs' s3 hp3 hl3 hP => ?_⟩
      walk_at "go"
      refine i_ixT (SqT.of hp3) (v := .int (dn (sq ts os))) (atI_nat (j := 1) rfl) ?_
      walk_at "go"
      exact z H3 (s1.trans s3)
    · rw [decide_eq_false c, Bool.false_and] at z
      exact z H1 s1
theorem ok_Never_shows (B : Blt mg) (X_N : ClN K cN) (c_worth_of : Cal P w K mg base 3 "worth_of" (sp_worth K)) (D : DefM K cN "shows" "Never.shows" s_Never_shows ["self", "things", "time"]) : MetX P w K mg base 4 cN "shows" (sp_shN K cW cN) := by
  refine D.met sc_Never_shows (fun vs H Q E h => ?_) (fun f cdv A outer s H vs Q E hr h => ?_)
  · obtain ⟨b, ap, l, x, p, a, tm, ts, rfl, _⟩ := h
    rfl
  · obtain ⟨b, ap, l, x, p, a, tm, ts, rfl, ⟨⟨dx, hx⟩, hA⟩, hT, hz, hn, q⟩ := h
    refine ⟨_, pss_cons (ps_set (i := 3) sc_Never_shows.nd rfl (.inl rfl) (pe_cal c_worth_of hr (by decide) (by rfl) (pa_cons (pv 1) (pa_cons (pe_fld (pv 0) rfl) (pa_cons (pe_fld (pv 0) rfl) (pa_cons (pe_fld (pv 0) rfl) pa_nil))))))
    (pss_one (ps_ret (pe_and (pe_cmpR cp_notN (pv 3) pe_non (nomark _)) (pe_one (pe_cmpR op_gt (pv 3) (pv 2) (nomark _)))))), ?_⟩
    walk_at "go"
    refine i_fldE hx X_N.own.cls X_N.b rfl ?_
    walk_at "go"
    refine i_fldE hx X_N.own.cls X_N.a rfl ?_
    walk_at "go"
    refine i_fldE hx X_N.own.cls X_N.l rfl ?_
    walk_at "go"
    refine ⟨a, p, ts, b, l, ap, rfl, hT, SqL.of hA, hz, fun H2 s2 => ?_⟩
    walk_at "go"
    have z : ∀ H', Same H H' → Q (.bl (match wv ts b ap l with | none => false | some m => decide (tm < m))) H' := q
    cases e : wv ts b ap l with
    | none =>
      rw [e] at z
      refine i_notNn ?_
      walk_at "go"
      exact z H2 s2
    | some m =>
      rw [e] at z
      refine i_notNi ?_
      walk_at "go"
      refine i_I0 ?_
      exact z H2 s2
end
def kMak (C : Addr) (sp : Sp) (Q : VK) : List V → Hp → Prop := fun vs H1 => ∀ x dx, H1 x = none → H1 dx = none → dx ≠ x → sp (.ref x :: vs) (upd (upd H1 dx (.own x)) x (.ins C dx [])) (fun v H2 => v = .non ∧ Q (.ref x) H2) E0
theorem i_makk {C : Addr} {sp : Sp} {ts : TA} {σ : L2.St} {H : Hp} {Q : VK} (h : ts σ H (kMak C sp Q)) : tMak C sp ts σ H Q := h
theorem i_makS4 {K : PySem.W.Frag} {C o p : Addr} {b l : Int} {xs ys : List V} {H : Hp} {Q : VK} (hO : SqL K H o xs) (hA : SqL K H p ys)
    (k : ∀ x po pa H', Same H H' → H x = none → H po = none → H pa = none → po ≠ pa → IsS H' C x po pa b l → H' po = some (.lst xs) → H' pa = some (.lst ys) → Q (.ref x) H') : kMak C (sp_initS K C) Q [.ref o, .int b, .ref p, .int l] H := i_makS hO hA k
theorem i_makW4 {K : PySem.W.Frag} {C o : Addr} {xs : List V} {H : Hp} {Q : VK} (hO : SqL K H o xs) (k : ∀ x po H', Same H H' → H x = none → H po = none → IsW H' C x po → H' po = some (.lst xs) → Q (.ref x) H') : kMak C (sp_initW K C) Q [.ref o] H := i_makW hO k
theorem i_makN4 {K : PySem.W.Frag} {C p : Addr} {b l : Int} {ys : List V} {H : Hp} {Q : VK} (hA : SqL K H p ys) (k : ∀ x pa H', Same H H' → H x = none → H pa = none → IsN H' C x pa b l → H' pa = some (.lst ys) → Q (.ref x) H') : kMak C (sp_initN K C) Q [.int b, .ref p, .int l] H := i_makN hA k
local macro_rules | `(tactic| walk_at "st") => `(tactic| first
  | with_reducible refine i_seq ?_ | with_reducible refine i_asg ?_ | with_reducible refine i_op ?_ | ((with_reducible refine i_var0 ?_); refine ⟨_, rfl, ?_⟩) | with_reducible refine i_c ?_
  | with_reducible refine i_nm ?_ | with_reducible refine i_I0 ?_ | with_reducible refine i_cons ?_ | with_reducible refine i_nil ?_ | with_reducible refine i_cb ?_ | with_reducible refine i_cal ?_ | with_reducible refine i_calS ?_
  | with_reducible refine i_ifS ?_ | with_reducible refine i_if ?_ | with_reducible refine i_test ?_ | with_reducible refine i_tB ?_ | with_reducible refine i_bl ?_ | with_reducible refine i_int ?_
  | with_reducible refine i_eqI ?_ | with_reducible refine i_neI ?_ | with_reducible refine i_not ?_ | with_reducible refine i_and ?_ | with_reducible refine i_or ?_ | with_reducible refine i_andV ?_ | with_reducible refine i_orV ?_ | with_reducible refine i_notV ?_
  | with_reducible refine i_un ?_ | with_reducible refine i_U ?_ | with_reducible refine i_ipI ?_ | ((with_reducible refine i_aug0 ?_); refine ⟨_, rfl, ?_⟩) | with_reducible refine i_ret ?_ | with_reducible refine i_drop ?_ | with_reducible refine i_next ?_
  | with_reducible refine i_chain ?_ | with_reducible refine i_ifT ?_ | with_reducible refine i_ifF ?_ | with_reducible refine i_ifNT ?_ | with_reducible refine i_ifNF ?_ | with_reducible refine i_par ?_ | with_reducible refine i_par3 ?_ | with_reducible refine i_par_e ?_ | with_reducible refine i_par3_e ?_
  | with_reducible refine i_gcons ?_ | with_reducible refine i_gnil ?_ | with_reducible refine i_gsub ?_ | with_reducible refine i_tupn ?_ | with_reducible refine i_lstn ?_ | with_reducible refine i_bm ?_ | with_reducible refine i_bm0 ?_
  | with_reducible refine i_sl ?_ | with_reducible refine i_noP ?_ | with_reducible refine i_part ?_ | with_reducible refine i_for ?_ | with_reducible refine i_lc ?_ | with_reducible refine i_iList ?_ | with_reducible refine i_iTup ?_ | with_reducible refine i_iRng1 ?_
  | with_reducible refine i_iEnum ?_ | with_reducible refine i_iRng3 ?_ | with_reducible refine i_revL ?_ | with_reducible refine i_iZip ?_ | with_reducible refine i_yes ?_ | with_reducible refine i_listRg ?_ | with_reducible refine i_notNi ?_ | with_reducible refine i_notNn ?_ | with_reducible refine i_isB ?_ | with_reducible refine i_notB ?_ | with_reducible refine i_eqB ?_ | with_reducible refine i_neB ?_ | with_reducible refine i_fld ?_ | with_reducible refine i_sfld ?_ | with_reducible refine i_met ?_ | with_reducible refine i_makk ?_ | with_reducible refine i_max2 ?_)
local macro_rules | `(tactic| walk_at "go") => `(tactic| repeat walk_at "st")
abbrev s__law_says : Stmt := topS 28
abbrev n__law_says : List Str := ["_law_said", "_law_due"]
theorem sc__law_says : FnScope n__law_says ["_law_said", "_law_due"] (defScope s__law_says) := ⟨rfl, rfl, rfl, by decide +kernel, rfl, by decide +kernel, by decide +kernel⟩
abbrev s__law_bent : Stmt := topS 29
abbrev n__law_bent : List Str := ["_law_some", "_law_cell", "_law_many", "_law_kind", "_law_size", "_law_strange", "_law_at", "_law_other", "_law_found"]
theorem sc__law_bent : FnScope n__law_bent ["_law_some", "_law_cell", "_law_many"] (defScope s__law_bent) := ⟨rfl, rfl, rfl, by decide +kernel, rfl, by decide +kernel, by decide +kernel⟩
abbrev s__law_right : Stmt := topS 30
abbrev n__law_right : List Str := ["_law_things_here", "_law_order_here", "_law_bench", "_law_apart", "_law_length", "_law_handed", "_law_one", "_law_other", "_law_third", "_law_worth_here", "_law_good", "_law_time", "_law_more"]
theorem sc__law_right : FnScope n__law_right ["_law_things_here", "_law_order_here", "_law_bench", "_law_apart", "_law_length"] (defScope s__law_right) := ⟨rfl, rfl, rfl, by decide +kernel, rfl, by decide +kernel, by decide +kernel⟩
theorem i_popAt {H : Hp} {Q : VK} {p : Addr} {xs : List V} {m : Int} {j : Nat} {y : V} (hp : H p = some (.lst xs)) (e : m = (j : Int)) (hj : xs[j]? = some y) (hz : xs.length ≤ 100000) (h : Q y (upd H p (.lst (xs.eraseIdx j)))) : rPopAt (.ref p) [.int m] H Q := by
  subst e
  have lt := (List.getElem?_eq_some_iff.mp hj).1
  exact ⟨p, xs, _, j, y, rfl, rfl, hp, by omega, by omega, PySem.seqIndex_of (by omega) (by omega), hj, h⟩
theorem nd_len : ∀ {a b : List Int}, a.Nodup → (∀ x ∈ a, x ∈ b) → a.length ≤ b.length
  | [], _, _, _ => Nat.zero_le _
  | x :: r, b, h, k => by
    rw [List.nodup_cons] at h
    have hx := k x List.mem_cons_self
    have ih := nd_len (b := b.erase x) h.2 fun y hy => by
      have ne : y ≠ x := fun e => h.1 (e ▸ hy)
      exact (List.mem_erase_of_ne ne).mpr (k y (List.mem_cons_of_mem x hy))
    rw [List.length_erase_of_mem hx] at ih
    have := List.length_pos_of_mem hx
    rw [List.length_cons]
    omega
def sp_says : Sp := fun vs H Q _ => ∃ b c : Bool, vs = [.bl b, .bl c] ∧ Q (.bl (b == c)) H
/-- _law_bent: some list of whole numbers -/
def sp_bent (K : PySem.W.Frag) : Sp := fun vs H Q _ => ∃ (p : Addr) (cell : Int) (m : Nat) (ns : List Int), vs = [.ref p, .int cell, .int (m : Int)] ∧ SqL K H p (ns.map V.int) ∧ ns.length ≤ 900 ∧
  ∀ H' r ms, Same H H' → H' r = some (.lst (List.map V.int ms)) → ms.length ≤ ns.length + 1 → Q (.ref r) H'
section
variable {P : Program} {w : World} {K : PySem.W.Frag} {mg : Str → Option Value} {base : Heap} {cS cW cN : Addr}
theorem ok__law_says (B : Blt mg) (D : Def K mg "_law_says" s__law_says ["_law_said", "_law_due"]) : Cal P w K mg base 1 "_law_says" sp_says := by
  refine D.cal sc__law_says (fun vs H Q E h => ?_) (fun f cdv A outer s H vs Q E hr h => ?_)
  · obtain ⟨b, c, rfl, _⟩ := h
    rfl
  · obtain ⟨b, c, rfl, q⟩ := h
    refine ⟨_, pss_one (ps_ret (pe_and (pe_callB (r := rIsi K) call_isi (by rfl) B.isinstance (by decide +kernel) (pa_cons (pv 0) (pa_cons (pe_bltn (v := .ty "bool") (u := .type "bool") (by rfl) B.bool (by decide +kernel) rfl) pa_nil))) (pe_one (pe_cmpR op_eq (pv 0) (pv 1) (nomark _))))), ?_⟩
    walk_at "go"
    refine i_isi (r := true) (.base (.bl b)) (by decide +kernel) ?_
    walk_at "go"
    exact q
theorem ok__law_bent (B : Blt mg) (c__law_draw : Cal P w K mg base 1 "_law_draw" sp_draw) (D : Def K mg "_law_bent" s__law_bent ["_law_some", "_law_cell", "_law_many"]) : Cal P w K mg base 2 "_law_bent" (sp_bent K) := by
  refine D.cal sc__law_bent (fun vs H Q E h => ?_) (fun f cdv A outer s H vs Q E hr h => ?_)
  · obtain ⟨p, cell, m, ns, rfl, _⟩ := h
    rfl
  · obtain ⟨p, cell, m, ns, rfl, hs, hz, q⟩ := h
    refine ⟨_, pss_cons (ps_par3 (i := 3) (j := 4) (l := 5) rfl sc__law_bent.nd rfl rfl rfl (by decide) (by decide) (by decide) rfl rfl rfl (pa_cons (pe_cal c__law_draw hr (by decide) (by rfl) (pa_cons (pv 1) (pa_cons pe_int (pa_cons pe_int pa_nil)))) (pa_cons (pe_callB (r := rLenB K) cb_len (by rfl) B.len (by decide +kernel) (pa_cons (pv 0) pa_nil)) (pa_cons (pe_op op_sub (pe_cal c__law_draw hr (by decide) (by rfl) (pa_cons (pv 1) (pa_cons pe_int (pa_cons (pe_op op_add (pv 2) pe_int) pa_nil)))) pe_int) pa_nil))) (by rfl))
    (pss_cons (ps_if (pt_cmpR op_eq (pv 4) pe_int (nomark _))
      (pss_one (ps_ret (pe_ifExp (pt_cmpR op_lt (pv 3) pe_int (nomark _)) (pe_lst (pa_cons (pv 5) pa_nil)) (pe_lst pa_nil))))
      (pss_nil))
    (pss_cons (ps_par3 (i := 6) (j := 7) (l := 8) rfl sc__law_bent.nd rfl rfl rfl (by decide) (by decide) (by decide) rfl rfl rfl (pa_cons (pe_cal c__law_draw hr (by decide) (by rfl) (pa_cons (pv 1) (pa_cons pe_int (pa_cons (pv 4) pa_nil)))) (pa_cons (pe_cal c__law_draw hr (by decide) (by rfl) (pa_cons (pv 1) (pa_cons pe_int (pa_cons (pv 4) pa_nil)))) (pa_cons (pe_callTy (r := rListB K) cb_list (by rfl) B.list (by decide +kernel) (pa_cons (pv 0) pa_nil)) pa_nil))) (by rfl))
    (pss_mid (ps_if (pt_cmpR op_eq (pv 3) pe_int (nomark _))
      (pss_one (ps_asg (pe_tup (pa_cons (pe_ix (r := rIxL K) ix_list (pv 8) (pv 7) (fun _ _ => rfl)) (pa_cons (pe_ix (r := rIxL K) ix_list (pv 8) (pv 6) (fun _ _ => rfl)) pa_nil))) (pg_tup (n := 2) rfl (pgs_cons (pg_sub (pv 8) (pv 6) set_list) (pgs_cons (pg_sub (pv 8) (pv 7) set_list) pgs_nil)) : PG _ _ (gTup K 2 (gCons _ (gCons _ gNil))))))
      (pss_nil))
    (pss_mid (ps_if (pt_cmpR op_eq (pv 3) pe_int (nomark _))
      (pss_one (ps_expr (pe_bm PySem.F.plainAttrs_list PySem.F.slot_list_pop PySem.F.type_list_pop mt_popAt (pv 8) (pa_cons (pv 6) pa_nil))))
      (pss_nil))
    (pss_mid (ps_if (pt_cmpR op_eq (pv 3) pe_int (nomark _))
      (pss_one (ps_expr (pe_bm PySem.F.plainAttrs_list PySem.F.slot_list_insert PySem.F.type_list_insert mt_ins (pv 8) (pa_cons (pv 6) (pa_cons (pv 5) pa_nil)))))
      (pss_nil))
    (pss_mid (ps_if (pt_cmpR op_eq (pv 3) pe_int (nomark _))
      (pss_one (ps_asg (pv 5) (pg_sub (pv 8) (pv 6) set_list)))
      (pss_nil))
    (pss_cons (ps_if (pt_cmpR op_eq (pv 3) pe_int (nomark _))
      (pss_one (ps_ret (pe_callB (r := rSortS w) (cr_sortS rfl) (by rfl) B.sorted (by decide +kernel) (pa_cons (pe_callTy (r := rSetI K w) (cr_setI rfl) (by rfl) B.set (by decide +kernel) (pa_cons (pe_op op_cat (pv 8) (pe_lst (pa_cons (pv 5) pa_nil))) pa_nil)) pa_nil))))
      (pss_nil))
    (pss_cons (ps_if (pt_cmpR op_eq (pv 3) pe_int (nomark _))
      (pss_one (ps_ret (pe_revL (pv 8))))
      (pss_nil))
    (pss_one (ps_ret (pv 8))))))))))), ?_⟩
    walk_at "go"
    refine ⟨cell, 1, 8, rfl, by decide, by decide, fun kd H1 s1 _ _ => ?_⟩
    walk_at "go"
    refine i_lenL (s1.seq hs) ?_
    walk_at "go"
    refine ⟨cell, 2, _, rfl, by decide, by omega, fun sr H2 s2 _ _ => ?_⟩
    walk_at "go"
    rw [List.length_map]
    have s12 := s1.trans s2
    generalize sr - 1 = sg
    refine i_itd (fun c0 => ?_) (fun c0 => ?_)
    · have e0 : ns = [] := List.eq_nil_of_length_eq_zero (by omega)
      subst e0
      walk_at "go"
      refine i_itd (fun c1 => ?_) (fun c1 => ?_)
      · walk_at "go"
        refine i_lstk (by show 1 ≤ 100000; decide) fun r H3 _ s3 h3 => ?_
        exact q H3 r [sg] (s12.trans s3) h3 (Nat.le_refl _)
      · walk_at "go"
        refine i_lstk (Nat.zero_le _) fun r H3 _ s3 h3 => ?_
        exact q H3 r [] (s12.trans s3) h3 (Nat.zero_le _)
    · walk_at "go"
      refine ⟨cell, 3, _, rfl, by decide, by omega, fun at_ H3 s3 a0 a1 => ?_⟩
      walk_at "go"
      refine ⟨cell, 4, _, rfl, by decide, by omega, fun ot H4 s4 o0 o1 => ?_⟩
      walk_at "go"
      have s14 := (s12.trans s3).trans s4
      refine i_listL (s14.seq hs) fun fo H5 nf s5 h5 => ?_
      have s15 := s14.trans s5
      have nf0 : H fo = none := s14.free nf
      obtain ⟨i, rfl⟩ : ∃ i : Nat, at_ = (i : Int) := ⟨at_.toNat, by omega⟩
      obtain ⟨j, rfl⟩ : ∃ j : Nat, ot = (j : Int) := ⟨ot.toNat, by omega⟩
      have hi : i < ns.length := by omega
      have hj : j < ns.length := by omega
      walk_at "go"
      have set_int : ∀ (l : List Int) (i : Nat) (v : Int), (l.map V.int).set i (.int v) = (l.set i v).map V.int := fun l i v => (List.map_set ..).symm
      have get_int : ∀ (l : List Int) (i : Nat) (h : i < l.length), atI (l.map V.int) (i : Int) = some (.int l[i]) := fun l i h => atI_nat (by rw [List.getElem?_map, List.getElem?_eq_getElem h]; rfl)
      refine i_mid (fun σ' H' => ∃ ms : List Int, σ' = [some (.ref p), some (.int cell), some (.int (m : Int)), some (.int kd), some (.int (ns.length : Int)), some (.int sg), some (.int (i : Int)), some (.int (j : Int)), some (.ref fo)] ∧ Same H H' ∧ H' fo = some (.lst (ms.map V.int)) ∧ ms.length = ns.length) ?_ ?_
      · walk_at "go"
        refine i_itd (fun c1 => ?_) (fun c1 => ?_)
        · walk_at "go"
          refine i_ixL (SqL.of h5) (get_int ns j hj) ?_
          walk_at "go"
          refine i_ixL (SqL.of h5) (get_int ns i hi) ?_
          walk_at "go"
          refine i_tupk (by show 2 ≤ 100000; decide) fun tp H6 _ s6 h6 => ?_
          refine i_gtup (SqT.of h6) rfl ?_
          walk_at "go"
          refine i_setL (s6 _ _ h5) (ixN_nat (by rw [List.length_map]; exact hi)) ?_
          rw [set_int]
          walk_at "go"
          refine i_setL upd_same (ixN_nat (by rw [List.length_map, List.length_set]; exact hj)) ?_
          rw [set_int]
          walk_at "go"
          exact ⟨_, rfl, Same.mut (Same.mut (s15.trans s6) nf0) nf0, upd_same, by rw [List.length_set, List.length_set]⟩
        · walk_at "go"
          exact ⟨ns, rfl, s15, h5, rfl⟩
      rintro σ' H6 ⟨ms, rfl, s6, h6, l6⟩
      refine i_mid (fun σ' H' => ∃ ms : List Int, σ' = [some (.ref p), some (.int cell), some (.int (m : Int)), some (.int kd), some (.int (ns.length : Int)), some (.int sg), some (.int (i : Int)), some (.int (j : Int)), some (.ref fo)] ∧ Same H H' ∧ H' fo = some (.lst (ms.map V.int)) ∧ ms.length ≤ ns.length ∧ (kd ≠ 1 → ms.length = ns.length)) ?_ ?_
      · walk_at "go"
        refine i_itd (fun c1 => ?_) (fun c1 => ?_)
        · walk_at "go"
          refine ⟨ty_lst h6, ?_⟩
          walk_at "go"
          refine i_popAt h6 rfl (j := i) (y := .int (ms[i]'(by omega))) (by rw [List.getElem?_map, List.getElem?_eq_getElem (by omega)]; rfl) (by rw [List.length_map]; omega) ?_
          walk_at "go"
          refine ⟨ms.eraseIdx i, rfl, Same.mut s6 nf0, ?_, ?_, fun c => absurd c1 c⟩
          · rw [upd_same, erase_mapI]
          · have := len_erase ms i
            omega
        · walk_at "go"
          exact ⟨ms, rfl, s6, h6, by omega, fun _ => l6⟩
      rintro σ' H7 ⟨ms, rfl, s7, h7, l7, k7⟩
      refine i_mid (fun σ' H' => ∃ ms : List Int, σ' = [some (.ref p), some (.int cell), some (.int (m : Int)), some (.int kd), some (.int (ns.length : Int)), some (.int sg), some (.int (i : Int)), some (.int (j : Int)), some (.ref fo)] ∧ Same H H' ∧ H' fo = some (.lst (ms.map V.int)) ∧ ms.length ≤ ns.length + 1 ∧ (kd ≠ 1 → kd ≠ 2 → ms.length = ns.length) ∧ (kd ≠ 2 → ms.length ≤ ns.length)) ?_ ?_
      · walk_at "go"
        refine i_itd (fun c1 => ?_) (fun c1 => ?_)
        · walk_at "go"
          refine ⟨ty_lst h7, ?_⟩
          walk_at "go"
          refine i_ins h7 (by rw [List.length_map]; omega) (i := i) rfl (by omega) ?_
          walk_at "go"
          refine ⟨ms.take i ++ [sg] ++ ms.drop i, rfl, Same.mut s7 nf0, ?_, ?_, fun _ c => absurd c1 c, fun c => absurd c1 c⟩
          · rw [upd_same, List.map_append, List.map_append, List.map_take, List.map_drop]; rfl
          · rw [List.length_append, List.length_append, List.length_take, List.length_drop]; show min i ms.length + 1 + (ms.length - i) ≤ ns.length + 1; omega
        · walk_at "go"
          exact ⟨ms, rfl, s7, h7, by omega, fun c _ => k7 c, fun _ => l7⟩
      rintro σ' H8 ⟨ms, rfl, s8, h8, l8, k8, j8⟩
      refine i_mid (fun σ' H' => ∃ ms : List Int, σ' = [some (.ref p), some (.int cell), some (.int (m : Int)), some (.int kd), some (.int (ns.length : Int)), some (.int sg), some (.int (i : Int)), some (.int (j : Int)), some (.ref fo)] ∧ Same H H' ∧ H' fo = some (.lst (ms.map V.int)) ∧ ms.length ≤ ns.length + 1 ∧ (kd ≠ 2 → ms.length ≤ ns.length)) ?_ ?_
      · walk_at "go"
        refine i_itd (fun c1 => ?_) (fun c1 => ?_)
        · walk_at "go"
          have l9 := k8 (by omega) (by omega)
          refine i_setL h8 (ixN_nat (by rw [List.length_map]; omega)) ?_
          rw [set_int]
          walk_at "go"
          exact ⟨_, rfl, Same.mut s8 nf0, upd_same, by rw [List.length_set]; omega, fun _ => by rw [List.length_set]; omega⟩
        · walk_at "go"
          exact ⟨ms, rfl, s8, h8, l8, j8⟩
      rintro σ' H9 ⟨ms, rfl, s9, h9, l9, j9⟩
      walk_at "go"
      refine i_itd (fun c1 => ?_) (fun c1 => ?_)
      · have l10 := j9 (by omega)
        walk_at "go"
        refine i_lstk (by show 1 ≤ 100000; decide) fun r1 H10 _ s10 h10 => ?_
        refine i_cat (s10 _ _ h9) h10 (by rw [List.length_map]; show ms.length + 1 ≤ 100000; omega) fun r2 H11 _ s11 h11 => ?_
        walk_at "go"
        refine ⟨r2, ms ++ [sg], rfl, SqL.of (by rw [h11, List.map_append]; rfl), by rw [List.length_append]; show ms.length + 1 ≤ 1000; omega, fun p2 c2 n2 => ?_⟩
        refine ⟨p2, _, c2, rfl, upd_same, fun ss p3 o3 m3 n3 => ?_⟩
        have s2 : Same H (upd (upd H11 p2 (SetO w p2 (fun j => decide (j ∈ ms ++ [sg])) c2)) p3 (.lst (ss.map V.int))) := ((s9.trans s10).trans s11).trans ((Same.upd n2).trans (Same.upd n3))
        refine q _ p3 ss s2 upd_same ?_
        have nd : ss.Nodup := o3.imp fun h e => by omega
        have sub : ss ⊆ ms ++ [sg] := fun x hx => of_decide_eq_true ((m3 x).mp hx)
        have := nd_len nd sub
        rw [List.length_append] at this
        have e1 : [sg].length = 1 := rfl
        omega
      · walk_at "go"
        refine i_itd (fun c2 => ?_) (fun c2 => ?_)
        · walk_at "go"
          refine i_revk (SqL.of h9) fun r1 H10 _ s10 h10 => ?_
          refine q H10 r1 ms.reverse (s9.trans s10) (by rw [h10, List.map_reverse]) (by rw [List.length_reverse]; exact l9)
        · walk_at "go"
          exact q H9 fo ms s9 h9 l9
/-- _law_right, of any order, any bar: True -/
def sp_right (K : PySem.W.Frag) : Sp := fun vs H Q _ => ∃ (a o p : Addr) (b l : Int) (ts : List T3) (ns ap : List Int), vs = [.ref a, .ref o, .int b, .ref p, .int l] ∧ Things K H a ts ∧ (∀ t ∈ ts, Nn t) ∧ ts.length ≤ 900 ∧ SqL K H o (ns.map V.int) ∧ SqL K H p (ap.map V.int) ∧ ns.length ≤ 950 ∧ ap.length ≤ 950 ∧ ∀ H', Same H H' → Q (.bl true) H'
theorem ok__law_right (B : Blt mg) (X_S : ClS K cS) (X_W : ClW K cW) (X_N : ClN K cN) (c__law_order : Cal P w K mg base 2 "_law_order" (sp_isord K)) (c__law_worth : Cal P w K mg base 1 "_law_worth" (sp_lworth K)) (c__law_done : Cal P w K mg base 1 "_law_done" (sp_ldone K)) (c__law_says : Cal P w K mg base 1 "_law_says" sp_says) (c_Soonest : MakX P w K mg base 1 "Soonest" cS (sp_initS K cS)) (c_Within : MakX P w K mg base 1 "Within" cW (sp_initW K cW)) (c_Never : MakX P w K mg base 1 "Never" cN (sp_initN K cN)) (c_showsS : MetX P w K mg base 4 cS "shows" (sp_showS K cS)) (c_showsW : MetX P w K mg base 4 cW "shows" (sp_shW K cW cN)) (c_showsN : MetX P w K mg base 4 cN "shows" (sp_shN K cW cN)) (D : Def K mg "_law_right" s__law_right ["_law_things_here", "_law_order_here", "_law_bench", "_law_apart", "_law_length"]) : Cal P w K mg base 5 "_law_right" (sp_right K) := by
  refine D.cal sc__law_right (fun vs H Q E h => ?_) (fun f cdv A outer s H vs Q E hr h => ?_)
  · obtain ⟨a, o, p, b, l, ts, ns, ap, rfl, _⟩ := h
    rfl
  · obtain ⟨a, o, p, b, l, ts, ns, ap, rfl, hT, hN, hz, hO, hA, lo, la, q⟩ := h
    refine ⟨_, pss_cons (ps_set (i := 5) sc__law_right.nd rfl (.inl rfl) (pe_lst (pa_cons (pe_callTy (r := rListB K) cb_list (by rfl) B.list (by decide +kernel) (pa_cons (pv 1) pa_nil)) (pa_cons (pe_callTy (r := rListB K) cb_list (by rfl) B.list (by decide +kernel) (pa_cons (pv 3) pa_nil)) pa_nil))))
    (pss_cons (ps_par (i := 6) (j := 7) rfl sc__law_right.nd rfl rfl (by decide) rfl rfl (pa_cons (pe_mak c_Soonest hr (by decide) (by rfl) (pa_cons (pe_ix (r := rIxL K) ix_list (pv 5) pe_int (fun _ _ => rfl)) (pa_cons (pv 2) (pa_cons (pe_ix (r := rIxL K) ix_list (pv 5) pe_int (fun _ _ => rfl)) (pa_cons (pv 4) pa_nil))))) (pa_cons (pe_mak c_Within hr (by decide) (by rfl) (pa_cons (pe_ix (r := rIxL K) ix_list (pv 5) pe_int (fun _ _ => rfl)) pa_nil)) pa_nil)) (by rfl))
    (pss_cons (ps_set (i := 8) sc__law_right.nd rfl (.inl rfl) (pe_mak c_Never hr (by decide) (by rfl) (pa_cons (pv 2) (pa_cons (pe_ix (r := rIxL K) ix_list (pv 5) pe_int (fun _ _ => rfl)) (pa_cons (pv 4) pa_nil)))))
    (pss_cons (ps_expr (pe_bm PySem.F.plainAttrs_list PySem.F.slot_list_append PySem.F.type_list_append mt_append (pe_ix (r := rIxL K) ix_list (pv 5) pe_int (fun _ _ => rfl)) (pa_cons pe_int pa_nil)))
    (pss_cons (ps_expr (pe_bm PySem.F.plainAttrs_list PySem.F.slot_list_append PySem.F.type_list_append mt_append (pe_ix (r := rIxL K) ix_list (pv 5) pe_int (fun _ _ => rfl)) (pa_cons pe_int pa_nil)))
    (pss_cons (ps_if (PW.pt (pw_or (pt_cmpR (r := rNeD K) (op_neD hr.units) (pe_fld (pv 6) rfl) (pv 1) (nomark _)) (pw_or (pt_cmpR (r := rNeD K) (op_neD hr.units) (pe_fld (pv 6) rfl) (pv 3) (nomark _)) (pw_or (pt_cmpR op_ne (pe_fld (pv 6) rfl) (pv 2) (nomark _)) (pw_or1 (pt_cmpR op_ne (pe_fld (pv 6) rfl) (pv 4) (nomark _)))))))
      (pss_one (ps_ret pe_bl))
      (pss_nil))
    (pss_cons (ps_if (PW.pt (pw_or (pt_cmpR (r := rNeD K) (op_neD hr.units) (pe_fld (pv 7) rfl) (pv 1) (nomark _)) (pw_or (pt_cmpR (r := rNeD K) (op_neD hr.units) (pe_fld (pv 8) rfl) (pv 3) (nomark _)) (pw_or (pt_cmpR op_ne (pe_fld (pv 8) rfl) (pv 2) (nomark _)) (pw_or1 (pt_cmpR op_ne (pe_fld (pv 8) rfl) (pv 4) (nomark _)))))))
      (pss_one (ps_ret pe_bl))
      (pss_nil))
    (pss_cons (ps_par (i := 9) (j := 10) rfl sc__law_right.nd rfl rfl (by decide) rfl rfl (pa_cons (pe_cal c__law_worth hr (by decide) (by rfl) (pa_cons (pv 0) (pa_cons (pv 2) (pa_cons (pv 3) (pa_cons (pv 4) pa_nil))))) (pa_cons (pe_cal c__law_order hr (by decide) (by rfl) (pa_cons (pv 0) (pa_cons (pv 1) pa_nil))) pa_nil)) (by rfl))
    (pss_mid (ps_set (i := 11) sc__law_right.nd rfl (.inl rfl) (pe_ifExp (pt_val (pv 10)) (pe_cal c__law_done hr (by decide) (by rfl) (pa_cons (pv 0) (pa_cons (pv 1) pa_nil))) pe_int))
    (pss_mid (ps_if (pt_not (pt_val (pe_cal c__law_says hr (by decide) (by rfl) (pa_cons (pe_met c_showsS hr (by decide) (pv 6) (pa_cons (pv 0) pa_nil)) (pa_cons (pe_and (pv 10) (pe_one (pe_cmpR op_eq (pv 9) (pv 11) (nomark _)))) pa_nil)))))
      (pss_one (ps_ret pe_bl))
      (pss_nil))
    (pss_cons (ps_for PassesOwn.never rfl (pi_tup (pe_tup (pa_cons pe_int (pa_cons (pe_un un_neg pe_int) (pa_cons pe_int pa_nil))))) (pg_name (i := 12) sc__law_right.nd rfl (.inl rfl))
      (pss_mid (ps_if (pt_not (pt_val (pe_cal c__law_says hr (by decide) (by rfl) (pa_cons (pe_met c_showsW hr (by decide) (pv 7) (pa_cons (pv 0) (pa_cons (pe_op op_add (pv 11) (pv 12)) pa_nil))) (pa_cons (pe_and (pv 10) (pe_one (pe_cmpR op_ge (pv 12) pe_int (nomark _)))) pa_nil)))))
          (pss_one (ps_ret pe_bl))
          (pss_nil))
        (pss_one (ps_if (PW.pt (pw_and (pt_cmpR op_ge (pv 9) pe_int (nomark _)) (pw_and1 (pt_not (pt_val (pe_cal c__law_says hr (by decide) (by rfl) (pa_cons (pe_met c_showsN hr (by decide) (pv 8) (pa_cons (pv 0) (pa_cons (pe_op op_add (pv 9) (pv 12)) pa_nil))) (pa_cons (pe_cmpR op_lt (pv 12) pe_int (nomark _)) pa_nil))))))))
          (pss_one (ps_ret pe_bl))
          (pss_nil)))))
    (pss_one (ps_ret (L2.pe_or (pe_cmpR op_ge (pv 9) pe_int (nomark _)) (pe_one (pe_cal c__law_says hr (by decide) (by rfl) (pa_cons (pe_met c_showsN hr (by decide) (pv 8) (pa_cons (pv 0) (pa_cons (pe_un un_neg pe_int) pa_nil))) (pa_cons pe_bl pa_nil))))))))))))))))), ?_⟩
    walk_at "go"
    refine i_listL hO fun c1 H1 n1 s1 h1 => ?_
    walk_at "go"
    refine i_listL (s1.seq hA) fun c2 H2 n2 s2 h2 => ?_
    walk_at "go"
    refine i_lstk (by show 2 ≤ 100000; decide) fun hd H3 n3 s3 h3 => ?_
    have h1' := s3 _ _ (s2 _ _ h1)
    have h2' := s3 _ _ h2
    have s13 := (s1.trans s2).trans s3
    walk_at "go"
    refine i_ixL (SqL.of h3) (v := .ref c1) (atI_nat (j := 0) rfl) ?_
    walk_at "go"
    refine i_ixL (SqL.of h3) (v := .ref c2) (atI_nat (j := 1) rfl) ?_
    walk_at "go"
    refine i_makS4 (SqL.of h1') (SqL.of h2') fun x1 po1 pa1 H4 s4 _ no1 na1 ne1 hI1 ho1 ha1 => ?_
    walk_at "go"
    refine i_ixL (SqL.of (s4 _ _ h3)) (v := .ref c1) (atI_nat (j := 0) rfl) ?_
    walk_at "go"
    refine i_makW4 (SqL.of (s4 _ _ h1')) fun x2 po2 H5 s5 _ no2 hI2 ho2 => ?_
    walk_at "go"
    have s45 := s4.trans s5
    refine i_ixL (SqL.of (s45 _ _ h3)) (v := .ref c2) (atI_nat (j := 1) rfl) ?_
    walk_at "go"
    refine i_makN4 (SqL.of (s45 _ _ h2')) fun x3 pa3 H6 s6 _ na3 hI3 ha3 => ?_
    walk_at "go"
    have s36 := s45.trans s6
    have h1'' := s36 _ _ h1'
    have h2'' := s36 _ _ h2'
    have h3'' := s36 _ _ h3
    refine i_ixL (SqL.of h3'') (v := .ref c1) (atI_nat (j := 0) rfl) ?_
    refine ⟨ty_lst h1'', ?_⟩
    walk_at "go"
    refine i_app h1'' (by rw [List.length_map]; omega) ?_
    walk_at "go"
    have n10 : H c1 = none := n1
    have n20 : H c2 = none := s1.free n2
    have ne12 : c2 ≠ c1 := fun z => by rw [z, h1] at n2; cases n2
    have nehd1 : hd ≠ c1 := fun z => by rw [z, s2 _ _ h1] at n3; cases n3
    refine i_ixL (SqL.of ((upd_ne nehd1).trans h3'')) (v := .ref c2) (atI_nat (j := 1) rfl) ?_
    have h2x := (upd_ne (o := .lst (ns.map V.int ++ [V.int 0])) ne12).trans h2''
    refine ⟨ty_lst h2x, ?_⟩
    walk_at "go"
    refine i_app h2x (by rw [List.length_map]; omega) ?_
    walk_at "go"
    -- what is known from here on
    have sH : Same H (upd (upd H6 c1 (.lst (ns.map V.int ++ [V.int 0]))) c2 (.lst (ap.map V.int ++ [V.int 0]))) := Same.mut (Same.mut (s13.trans s36) n10) n20
    have up : ∀ (z : Addr) (u : HO), z ≠ c1 → z ≠ c2 → H6 z = some u → upd (upd H6 c1 (.lst (ns.map V.int ++ [V.int 0]))) c2 (.lst (ap.map V.int ++ [V.int 0])) z = some u := fun z u a b e => (upd_ne b).trans ((upd_ne a).trans e)
    have fr : ∀ z, (∃ Hz : Hp, Hz z = none ∧ Hz c1 = some (.lst (ns.map V.int)) ∧ Hz c2 = some (.lst (ap.map V.int))) → z ≠ c1 ∧ z ≠ c2 := fun z ⟨Hz, e1, e2, e3⟩ => ⟨(fun y => by rw [y, e2] at e1; cases e1), (fun y => by rw [y, e3] at e1; cases e1)⟩
    have ins_ne : ∀ (z C dx : Addr) fs, H6 z = some (.ins C dx fs) → z ≠ c1 ∧ z ≠ c2 := fun z C dx fs e => ⟨(fun y => by rw [y, h1''] at e; cases e), (fun y => by rw [y, h2''] at e; cases e)⟩
    obtain ⟨f1, f1'⟩ := fr po1 ⟨H3, no1, h1', h2'⟩
    obtain ⟨f2, f2'⟩ := fr pa1 ⟨H3, na1, h1', h2'⟩
    obtain ⟨f3, f3'⟩ := fr po2 ⟨H4, no2, s4 _ _ h1', s4 _ _ h2'⟩
    obtain ⟨f4, f4'⟩ := fr pa3 ⟨H5, na3, s45 _ _ h1', s45 _ _ h2'⟩
    obtain ⟨d1, i1⟩ := hI1
    obtain ⟨d2, i2⟩ := hI2
    obtain ⟨d3, i3⟩ := hI3
    have i1' := s6 _ _ (s5 _ _ i1)
    have i2' := s6 _ _ i2
    have I1 := up _ _ (ins_ne _ _ _ _ i1').1 (ins_ne _ _ _ _ i1').2 i1'
    have I2 := up _ _ (ins_ne _ _ _ _ i2').1 (ins_ne _ _ _ _ i2').2 i2'
    have I3 := up _ _ (ins_ne _ _ _ _ i3).1 (ins_ne _ _ _ _ i3).2 i3
    have O1 := up _ _ f1 f1' (s6 _ _ (s5 _ _ ho1))
    have A1 := up _ _ f2 f2' (s6 _ _ (s5 _ _ ha1))
    have O2 := up _ _ f3 f3' (s6 _ _ ho2)
    have A3 := up _ _ f4 f4' ha3
    generalize upd (upd H6 c1 (.lst (ns.map V.int ++ [V.int 0]))) c2 (.lst (ap.map V.int ++ [V.int 0])) = G at sH I1 I2 I3 O1 A1 O2 A3 ⊢
    refine i_fldE I1 X_S.own.cls X_S.o rfl ?_
    walk_at "go"
    refine i_neD (d := dI ns) (e := dI ns) (dp_ints (SqL.of O1)) (dp_ints (sH.seq hO)) (shaped_dI _) (shaped_dI _) ?_
    rw [eqv_dI, decide_eq_true rfl]
    walk_at "go"
    refine i_fldE I1 X_S.own.cls X_S.a rfl ?_
    walk_at "go"
    refine i_neD (d := dI ap) (e := dI ap) (dp_ints (SqL.of A1)) (dp_ints (sH.seq hA)) (shaped_dI _) (shaped_dI _) ?_
    rw [eqv_dI, decide_eq_true rfl]
    walk_at "go"
    refine i_fldE I1 X_S.own.cls X_S.b rfl ?_
    walk_at "go"
    rw [decide_eq_true rfl]
    walk_at "go"
    refine i_fldE I1 X_S.own.cls X_S.l rfl ?_
    walk_at "go"
    rw [decide_eq_true rfl]
    walk_at "go"
    refine i_fldE I2 X_W.own.cls X_W.o rfl ?_
    walk_at "go"
    refine i_neD (d := dI ns) (e := dI ns) (dp_ints (SqL.of O2)) (dp_ints (sH.seq hO)) (shaped_dI _) (shaped_dI _) ?_
    rw [eqv_dI, decide_eq_true rfl]
    walk_at "go"
    refine i_fldE I3 X_N.own.cls X_N.a rfl ?_
    walk_at "go"
    refine i_neD (d := dI ap) (e := dI ap) (dp_ints (SqL.of A3)) (dp_ints (sH.seq hA)) (shaped_dI _) (shaped_dI _) ?_
    rw [eqv_dI, decide_eq_true rfl]
    walk_at "go"
    refine i_fldE I3 X_N.own.cls X_N.b rfl ?_
    walk_at "go"
    rw [decide_eq_true rfl]
    walk_at "go"
    refine i_fldE I3 X_N.own.cls X_N.l rfl ?_
    walk_at "go"
    rw [decide_eq_true rfl]
    walk_at "go"
    refine ⟨a, p, ts, b, l, ap, rfl, hT.mono sH, sH.seq hA, by omega, by omega, fun G1 t1 => ?_⟩
    walk_at "go"
    refine ⟨a, o, ts, ns, rfl, hT.mono (sH.trans t1), (sH.trans t1).seq hO, by omega, by omega, fun G2 t2 => ?_⟩
    walk_at "go"
    have t12 := t1.trans t2
    refine i_mid (fun σ' H' => ∃ tm : Int, σ' = [some (.ref a), some (.ref o), some (.int b), some (.ref p), some (.int l), some (.ref hd), some (.ref x1), some (.ref x2), some (.ref x3), some (.int ((wv ts b ap l).getD (-1))), some (.bl (decide (ns.Perm (rg ts.length)))), some (.int tm), none] ∧ Same G H' ∧ (ns.Perm (rg ts.length) → tm = dn (sq ts (nat_ ns)))) ?_ ?_
    · walk_at "go"
      refine i_itd (fun c => ?_) (fun c => ?_)
      · obtain ⟨os, e, hp⟩ := perm_zs c
        walk_at "go"
        refine ⟨a, o, ts, os, rfl, hT.mono (sH.trans t12), (sH.trans t12).seq (by rw [← e]; exact hO), perm_lt hp, by rw [perm_len hp]; omega, fun G3 t3 => ?_⟩
        walk_at "go"
        refine ⟨_, rfl, t12.trans t3, fun _ => ?_⟩
        rw [e, nat_zs, dn_ld (sq_nn hN (perm_lt hp))]
      · walk_at "go"
        exact ⟨_, rfl, t12, fun c' => absurd c' c⟩
    rintro σ' G3 ⟨tm, rfl, t3, htm⟩
    have goodS : (decide (ns.Perm (rg ts.length)) && decide ((wv ts b ap l).getD (-1) = tm)) = shw ts ns b ap l := by
      by_cases c : ns.Perm (rg ts.length)
      · obtain ⟨os, e, hp⟩ := perm_zs c
        rw [decide_eq_true c, Bool.true_and, htm c, e, nat_zs, dn_ld (sq_nn hN (perm_lt hp))]
        exact shw_law hN hp
      · rw [decide_eq_false c, Bool.false_and, shw_no c]
    walk_at "go"
    refine i_mid (fun σ' H' => σ' = [some (.ref a), some (.ref o), some (.int b), some (.ref p), some (.int l), some (.ref hd), some (.ref x1), some (.ref x2), some (.ref x3), some (.int ((wv ts b ap l).getD (-1))), some (.bl (decide (ns.Perm (rg ts.length)))), some (.int tm), none] ∧ Same G H') ?_ ?_
    · walk_at "go"
      refine i_metE (t3 _ _ I1) rfl ?_
      walk_at "go"
      refine ⟨x1, a, po1, pa1, b, l, ts, ns, ap, rfl, ⟨_, t3 _ _ I1⟩, hT.mono (sH.trans t3), SqL.of (t3 _ _ O1), SqL.of (t3 _ _ A1), by omega, by omega, fun G4 t4 => ?_⟩
      walk_at "go"
      refine i_itd (fun c => ?_) (fun c => ?_)
      · rw [decide_eq_true c, Bool.true_and] at goodS
        walk_at "go"
        refine ⟨_, _, rfl, ?_⟩
        walk_at "go"
        rw [goodS, beq_self_eq_true]
        walk_at "go"
        exact ⟨by rw [decide_eq_true c], t3.trans t4⟩
      · rw [decide_eq_false c, Bool.false_and] at goodS
        walk_at "go"
        refine ⟨_, _, rfl, ?_⟩
        rw [← goodS]
        walk_at "go"
        exact ⟨by rw [decide_eq_false c], t3.trans t4⟩
    rintro σ' G4 ⟨rfl, t4⟩
    walk_at "go"
    refine i_tupk (xs := [0, -1, 1].map V.int) (by show 3 ≤ 100000; decide) fun tp G5 _ t5 h5 => ?_
    refine i_itt (SqT.of h5) ?_
    refine for_tup (K := K) (a := tp) (xs := [0, -1, 1].map V.int) (fun i σ' H' => ∃ y12 : Option V, σ' = [some (.ref a), some (.ref o), some (.int b), some (.ref p), some (.int l), some (.ref hd), some (.ref x1), some (.ref x2), some (.ref x3), some (.int ((wv ts b ap l).getD (-1))), some (.bl (decide (ns.Perm (rg ts.length)))), some (.int tm), y12] ∧ Same G5 H') ?_ ?_ ?_ ?_
    · exact ⟨_, rfl, Same.refl _⟩
    · rintro i σ' H' _ ⟨_, _, sm⟩
      exact Same.t sm (SqT.of h5)
    · rintro i x σ' G6 hx ⟨y12, rfl, t6⟩
      rw [List.getElem?_map] at hx
      obtain ⟨m, _, rfl⟩ := Option.map_eq_some_iff.mp hx
      have tG := (t4.trans t5).trans t6
      walk_at "go"
      refine i_mid (fun σ' H' => σ' = [some (.ref a), some (.ref o), some (.int b), some (.ref p), some (.int l), some (.ref hd), some (.ref x1), some (.ref x2), some (.ref x3), some (.int ((wv ts b ap l).getD (-1))), some (.bl (decide (ns.Perm (rg ts.length)))), some (.int tm), some (.int m)] ∧ Same G6 H') ?_ ?_
      · walk_at "go"
        refine i_metE (tG _ _ I2) rfl ?_
        walk_at "go"
        refine ⟨ns, x2, po2, a, tm + m, ts, rfl, ⟨⟨_, tG _ _ I2⟩, tG _ _ O2⟩, hT.mono (sH.trans tG), by omega, Nat.le_trans lo (by decide), fun G7 t7 => ?_⟩
        have eS : An.sho ts (tm + m) (.w ns) = (decide (ns.Perm (rg ts.length)) && decide (dn (sq ts (nat_ ns)) ≤ tm + m)) := rfl
        rw [eS]
        walk_at "go"
        refine i_itd (fun c => ?_) (fun c => ?_)
        · rw [decide_eq_true c, Bool.true_and, htm c]
          walk_at "go"
          refine ⟨_, _, rfl, ?_⟩
          walk_at "go"
          rw [show decide (dn (sq ts (nat_ ns)) ≤ dn (sq ts (nat_ ns)) + m) = decide (0 ≤ m) from decide_eq_decide.mpr (by omega), beq_self_eq_true]
          walk_at "go"
          exact ⟨rfl, t7⟩
        · rw [decide_eq_false c, Bool.false_and]
          walk_at "go"
          refine ⟨_, _, rfl, ?_⟩
          walk_at "go"
          exact ⟨rfl, t7⟩
      · rintro σ' G7 ⟨rfl, t7⟩
        walk_at "go"
        refine i_itd (fun c => ?_) (fun c => ?_)
        · walk_at "go"
          have tG7 := tG.trans t7
          refine i_metE (tG7 _ _ I3) rfl ?_
          walk_at "go"
          refine ⟨b, ap, l, x3, pa3, a, (wv ts b ap l).getD (-1) + m, ts, rfl, ⟨⟨_, tG7 _ _ I3⟩, tG7 _ _ A3⟩, hT.mono (sH.trans tG7), by omega, Nat.le_trans la (by decide), fun G8 t8 => ?_⟩
          have eS : An.sho ts ((wv ts b ap l).getD (-1) + m) (.n b ap l) = decide (m < 0) := by
            show (match wv ts b ap l with | none => false | some w => decide ((wv ts b ap l).getD (-1) + m < w)) = decide (m < 0)
            cases e : wv ts b ap l with
            | none =>
              rw [e] at c
              exact absurd c (by rw [Option.getD_none]; omega)
            | some w =>
              rw [Option.getD_some]
              exact decide_eq_decide.mpr (by omega)
          rw [eS]
          walk_at "go"
          refine ⟨_, _, rfl, ?_⟩
          walk_at "go"
          rw [beq_self_eq_true]
          walk_at "go"
          exact ⟨_, rfl, (t6.trans t7).trans t8⟩
        · walk_at "go"
          exact ⟨_, rfl, t6.trans t7⟩
    · rintro σ' G6 ⟨y12, rfl, t6⟩
      have tG := (t4.trans t5).trans t6
      walk_at "go"
      refine i_itd (fun c => ?_) (fun c => ?_)
      · exact q G6 (sH.trans tG)
      · walk_at "go"
        refine i_metE (tG _ _ I3) rfl ?_
        walk_at "go"
        refine ⟨b, ap, l, x3, pa3, a, -5, ts, rfl, ⟨⟨_, tG _ _ I3⟩, tG _ _ A3⟩, hT.mono (sH.trans tG), by omega, Nat.le_trans la (by decide), fun G8 t8 => ?_⟩
        have eS : An.sho ts (-5) (.n b ap l) = false := by
          show (match wv ts b ap l with | none => false | some w => decide (-5 < w)) = false
          cases e : wv ts b ap l with
          | none => rfl
          | some w =>
            rw [e] at c
            have := wv_nn hN e
            exact absurd this (by rw [Option.getD_some] at c; omega)
        rw [eS]
        walk_at "go"
        refine ⟨_, _, rfl, ?_⟩
        exact q G8 (sH.trans (tG.trans t8))
end
abbrev s_law : Stmt := topS 31
abbrev n_law : List Str := ["_law_script", "_law_things_here", "_law_many", "_law_found", "_law_quick", "_law_k", "_law_cell", "_law_bench", "_law_length", "_law_order_here", "_law_apart", "_law_drawn", "_law_slow", "_law_lists", "_law_spot", "_law_lengths", "_law_turn", "_law_some", "_law_far", "_law_at", "_law_thing"]
theorem sc_law : FnScope n_law ["_law_script"] (defScope s_law) := ⟨rfl, rfl, rfl, by decide +kernel, rfl, by decide +kernel, by decide +kernel⟩
def sp_law (K : PySem.W.Frag) : Sp := fun vs H Q _ => ∃ (a : Addr) (ns : List Int), vs = [.ref a] ∧ SqL K H a (ns.map V.int) ∧ ns.length ≤ 63 ∧ ∀ H', Q (.bl true) H'
def rMin2 : List V → Hp → VK → Prop := fun xs H Q => ∃ i j, xs = [.int i, .int j] ∧ Q (.int (if j < i then j else i)) H
theorem cb_min2 {X : Cx} (hc : X.calm = true) : CallR X (.builtin "min") rMin2 := call_min2 hc
theorem i_min2 {m l : Int} {H : Hp} {Q : VK} (h : Q (.int (if l < m then l else m)) H) : rMin2 [.int m, .int l] H Q := ⟨m, l, rfl, h⟩
/-- an iterator of at most n things, each as Y tells -/
structure Gen (J : It) (n : Nat) (ok : Hp → Prop) (Y : Nat → V → Hp → Prop) : Prop where
  go : ∀ i H, i < n → ok H → J.go i H
  stop : ∀ i H, n ≤ i → ok H → J.stop i H
  yld : ∀ i x H H', i < n → ok H → J.yld i H x H' → Same H H' ∧ Y i x H'
/-- a comprehension of items that P holds of, n of them at most -/
theorem lc_gen {σ : L2.St} {H1 : Hp} {te : TE} {tt : TT} {g : TG} {D : Addr} {vs : List Nat} {n : Nat} {Qd : Hp → Prop} {J : It} {ok : Hp → Prop} {Y : Nat → V → Hp → Prop} (P : V → Prop) (G : Gen J n ok Y) (hs : ∀ H, Same H1 H → ok H) (hz : n < 100000) (hD : H1 D = none)
    (turn : ∀ (i : Nat) (x : V) (H : Hp) (Qc : VK) (Qn : Hp → Prop), i < n → Y i x H → Same H1 H → (∀ y H', P y → Same H H' → Qc y H') → (∀ H', Same H H' → Qn H') → g x (wipe σ vs) H fun σ2 H2 => wipe σ2 vs = wipe σ vs ∧ tt σ2 H2 fun b H3 => if b = true then te σ2 H3 Qc else Qn H3)
    (hd : ∀ ys H, Same H1 H → H D = some (.lst ys) → ys.length ≤ n → (∀ y ∈ ys, P y) → Qd H) :
    ∃ W : Nat → Nat → Hp → Prop, (∃ m, W 0 m (upd H1 D (.lst []))) ∧ ∀ i m H, W i m H →
      (J.stop i H ∧ Qd H) ∨ (J.go i H ∧ ∃ Nx : Hp → Prop, (∀ H', Nx H' → ∃ m', m' < m ∧ W (i + 1) m' H') ∧ ∀ x H', J.yld i H x H' → g x (wipe σ vs) H' fun σ2 H2 => wipe σ2 vs = wipe σ vs ∧ tt σ2 H2 fun b H3 =>
        if b = true then te σ2 H3 fun y H4 => ∃ acc, H4 D = some (.lst acc) ∧ acc.length < sizeLine ∧ Nx (upd H4 D (.lst (acc ++ [y]))) else Nx H3) := by
  let Pv : Nat → Hp → Prop := fun i H => Same H1 H ∧ ∃ ys, H D = some (.lst ys) ∧ ys.length ≤ i ∧ ∀ y ∈ ys, P y
  refine ⟨fun i m H => m = n - i ∧ i ≤ n ∧ Pv i H, ⟨n, rfl, Nat.zero_le _, Same.upd hD, [], upd_same, Nat.le_refl _, (fun y hy => nomatch hy)⟩, ?_⟩
  rintro i m H ⟨rfl, hi, s, ys, hy, hl, hP⟩
  by_cases lt : i < n
  · refine .inr ⟨G.go i H lt (hs H s), Pv (i + 1), fun H' p' => ⟨n - (i + 1), by omega, rfl, lt, p'⟩, fun x H' yl => ?_⟩
    obtain ⟨s2, hY⟩ := G.yld i x H H' lt (hs H s) yl
    refine turn i x H' _ _ lt hY (s.trans s2) (fun y H3 py s3 => ?_) (fun H3 s3 => ?_)
    · have hy3 := s3 _ _ (s2 _ _ hy)
      refine ⟨ys, hy3, sz_lt (by omega), Same.mut ((s.trans s2).trans s3) hD, ys ++ [y], upd_same, by rw [List.length_append]; exact Nat.add_le_add_right hl 1, fun u hu => ?_⟩
      rcases List.mem_append.mp hu with h | h
      · exact hP u h
      · rw [List.mem_singleton.mp h]; exact py
    · exact ⟨(s.trans s2).trans s3, ys, s3 _ _ (s2 _ _ hy), Nat.le_succ_of_le hl, hP⟩
  · exact .inl ⟨G.stop i H (by omega) (hs H s), hd ys H s hy (by omega) hP⟩
theorem gen_r {n : Nat} : Gen (Itr 0 n) n (fun _ => True) (fun i x _ => x = .int (i : Int)) := ⟨fun _ _ h _ => h, fun _ _ h _ => h, fun i x H H' _ _ y => by
  obtain ⟨rfl, rfl⟩ := y
  exact ⟨Same.refl _, by rw [Int.zero_add]⟩⟩
theorem gen_e {K : PySem.W.Frag} {a : Addr} {xs : List V} : Gen (Ite K a) xs.length (fun H => SqL K H a xs) (fun i v H' => ∃ T x, v = .ref T ∧ xs[i]? = some x ∧ H' T = some (.tup [.int (i : Int), x])) :=
  ⟨fun i H h ok => ⟨xs, xs[i], ok, List.getElem?_eq_getElem h⟩, fun i H h ok => ⟨xs, ok, h⟩, fun i x H H' h ok y => by
    obtain ⟨T, u, rfl, nT, rfl, f⟩ := y
    exact ⟨Same.upd nT, T, u, rfl, f xs ok, upd_same⟩⟩
theorem gen_l {K : PySem.W.Frag} {a : Addr} {xs : List V} : Gen (Itl K a) xs.length (fun H => SqL K H a xs) (fun i v _ => xs[i]? = some v) :=
  ⟨fun i H h ok => ⟨xs, xs[i], ok, List.getElem?_eq_getElem h⟩, fun i H h ok => ⟨xs, ok, h⟩, fun i x H H' h ok y => by
    obtain ⟨rfl, f⟩ := y
    exact ⟨Same.refl _, f xs ok⟩⟩
def isI (v : V) : Prop := ∃ m : Int, v = .int m
theorem ints_all : ∀ {ys : List V}, (∀ y ∈ ys, isI y) → ∃ ms : List Int, ys = ms.map V.int ∧ ms.length = ys.length
  | [], _ => ⟨[], rfl, rfl⟩
  | y :: ys, h => by
    obtain ⟨m, rfl⟩ := h y List.mem_cons_self
    obtain ⟨ms, e, l⟩ := ints_all fun u hu => h u (List.mem_cons_of_mem _ hu)
    exact ⟨m :: ms, by rw [e]; rfl, by rw [List.length_cons, List.length_cons, l]⟩
theorem flat_ints (ms : List Int) : (ms.map V.int).all flatV = true := List.all_eq_true.mpr fun x hx => by
  obtain ⟨m, _, rfl⟩ := List.mem_map.mp hx
  rfl
theorem i_notIn {K : PySem.W.Frag} {H : Hp} {Q : VK} {p : Addr} {m : Int} {ms : List Int} (hp : SqL K H p (ms.map V.int)) (h : ∀ b, Q (.bl b) H) : rIn K true (.int m) (.ref p) H Q := ⟨p, _, rfl, .inl hp, rfl, flat_ints ms, h _⟩
theorem i_pick {K : PySem.W.Frag} {H : Hp} {Q : VK} {p : Addr} {xs : List V} {r : Int} (hp : SqT K H p xs) (r0 : 0 ≤ r) (r1 : r < xs.length) (h : ∀ x ∈ xs, Q x H) : rIxT K (.ref p) (.int r) H Q := by
  obtain ⟨j, rfl⟩ : ∃ j : Nat, r = (j : Int) := ⟨r.toNat, by omega⟩
  have e := List.getElem?_eq_getElem (show j < xs.length by omega)
  exact i_ixT hp (atI_nat e) (h _ (List.mem_of_getElem? e))
theorem i_pickL {K : PySem.W.Frag} {H : Hp} {Q : VK} {p : Addr} {xs : List V} {r : Int} (hp : SqL K H p xs) (r0 : 0 ≤ r) (r1 : r < xs.length) (h : ∀ x ∈ xs, Q x H) : rIxL K (.ref p) (.int r) H Q := by
  obtain ⟨j, rfl⟩ : ∃ j : Nat, r = (j : Int) := ⟨r.toNat, by omega⟩
  have e := List.getElem?_eq_getElem (show j < xs.length by omega)
  exact i_ixL hp (atI_nat e) (h _ (List.mem_of_getElem? e))
theorem cut_mem {xs : List V} {lo hi : Option Int} {x : V} (h : x ∈ cutV xs lo hi) : x ∈ xs := by
  unfold cutV at h
  exact List.mem_of_mem_drop (List.mem_of_mem_take h)
theorem ris_len {n : Nat} {ap : List Int} (h : ris n (-1) ap = true) : ap.length ≤ n := by
  obtain ⟨h1, h2⟩ := ris_to h
  have nd : ap.Nodup := h1.imp fun h e => by omega
  have := nd_len (b := rg n) nd fun x hx => by
    have := h2 x hx
    unfold rg
    exact List.mem_map.mpr ⟨x.toNat, List.mem_range.mpr (by omega), by omega⟩
  unfold rg at this
  rw [zs_len, List.length_range] at this
  exact this
section
variable {P : Program} {w : World} {K : PySem.W.Frag} {mg : Str → Option Value} {base : Heap} {cS cW cN : Addr}
theorem ok_law (B : Blt mg) (X_min : mg "min" = none) (X_S : ClS K cS) (c__law_cell_at : Cal P w K mg base 1 "_law_cell_at" (sp_cell K)) (c__law_draw : Cal P w K mg base 1 "_law_draw" sp_draw) (c__law_things : Cal P w K mg base 2 "_law_things" (sp_things K)) (c__law_says : Cal P w K mg base 1 "_law_says" sp_says) (c__law_bent : Cal P w K mg base 2 "_law_bent" (sp_bent K)) (c__law_right : Cal P w K mg base 5 "_law_right" (sp_right K)) (c_soonest : Cal P w K mg base 4 "soonest" (sp_soon K cS)) (c_Soonest : MakX P w K mg base 1 "Soonest" cS (sp_initS K cS)) (c_Never : MakX P w K mg base 1 "Never" cN (sp_initN K cN)) (c_showsS : MetX P w K mg base 4 cS "shows" (sp_showS K cS)) (c_showsN : MetX P w K mg base 4 cN "shows" (sp_shN K cW cN)) {f : Addr} {fd : FuncData} (F : FnP K "law" s_law f fd) : FnOk P w K mg base CX0 6 f fd ["_law_script"] (sp_law K) := by
  refine fn_law F sc_law (fun vs H Q E h => ?_) (fun cdv A outer s H vs Q E hr h => ?_)
  · obtain ⟨a, ns, rfl, _⟩ := h
    rfl
  · obtain ⟨a, ns, rfl, hs, hz, q⟩ := h
    refine ⟨_, pss_cons (ps_set (i := 1) sc_law.nd rfl (.inl rfl) (pe_cal c__law_things hr (by decide) (by rfl) (pa_cons (pv 0) pa_nil)))
    (pss_cons (ps_asg (pe_tup (pa_cons (pe_callB (r := rLenB K) cb_len (by rfl) B.len (by decide +kernel) (pa_cons (pv 1) pa_nil)) (pa_cons (pe_cal c_soonest hr (by decide) (by rfl) (pa_cons (pv 1) pa_nil)) pa_nil))) (pg_tup (n := 2) rfl (pgs_cons (pg_name (i := 2) sc_law.nd rfl (.inr rfl)) (pgs_cons (pg_name (i := 3) sc_law.nd rfl (.inl rfl)) pgs_nil)) : PG _ _ (gTup K 2 (gCons (gName 2) (gCons (gName 3) gNil)))))
    (pss_cons (ps_set (i := 4) sc_law.nd rfl (.inr rfl) (pe_lc (own := [("_law_at", 19), ("_law_thing", 20)]) rfl sc_law.nd (pi_enum (by rfl) B.enumerate (pa_cons (pv 1) pa_nil)) (blkOk_by (N := n_law) (sc := defScope s_law) (by decide +kernel)) (fun _ _ _ _ _ => (pg_tup (n := 2) rfl (pgs_cons (pg_name (i := 19) sc_law.nd rfl (.inl rfl)) (pgs_cons (pg_name (i := 20) sc_law.nd rfl (.inl rfl)) pgs_nil)) : PG _ _ (gTup K 2 (gCons (gName 19) (gCons (gName 20) gNil))))) (fun _ _ _ _ _ => pts_one (pt_cmpR op_le (pe_ix (r := rIxT K) ix_tup (pv 20) pe_int (fun _ _ => rfl)) (pe_ix (r := rIxT K) ix_tup (pv 20) pe_int (fun _ _ => rfl)) (nomark _))) (fun _ _ _ _ _ => (pv 19))))
    (pss_cons (ps_for PassesOwn.never rfl (pi_range1 (by rfl) B.range (pa_cons (pe_ifExp (pt_cmpR op_gt (pv 2) pe_int (nomark _)) pe_int pe_int) pa_nil)) (pg_name (i := 5) sc_law.nd rfl (.inl rfl))
      (pss_cons (ps_set (i := 6) sc_law.nd rfl (.inr rfl) (pe_op op_add (pe_op op_add (pe_cal c__law_cell_at hr (by decide) (by rfl) (pa_cons (pv 0) (pa_cons (pv 5) pa_nil))) (pe_op op_mul pe_int (pv 5))) (pe_op op_mul pe_int (pe_cal c__law_cell_at hr (by decide) (by rfl) (pa_cons (pv 0) (pa_cons (pe_op op_add (pv 5) pe_int) pa_nil))))))
        (pss_cons (ps_set (i := 7) sc_law.nd rfl (.inl rfl) (pe_ix (r := rIxT K) ix_tup (pe_tup (pa_cons (pe_fld (pv 3) rfl) (pa_cons (pe_fld (pv 3) rfl) (pa_cons (pe_op op_sub pe_int (pe_fld (pv 3) rfl)) (pa_cons pe_int (pa_cons pe_int pa_nil)))))) (pe_cal c__law_draw hr (by decide) (by rfl) (pa_cons (pv 6) (pa_cons pe_int (pa_cons pe_int pa_nil)))) (fun _ _ => rfl)))
        (pss_cons (ps_set (i := 8) sc_law.nd rfl (.inl rfl) (pe_op op_add (pe_fld (pv 3) rfl) (pe_ix (r := rIxT K) ix_tup (pe_tup (pa_cons pe_int (pa_cons pe_int (pa_cons pe_int (pa_cons pe_int (pa_cons (pe_un un_neg pe_int) pa_nil)))))) (pe_cal c__law_draw hr (by decide) (by rfl) (pa_cons (pv 6) (pa_cons pe_int (pa_cons pe_int pa_nil)))) (fun _ _ => rfl))))
        (pss_cons (ps_par (i := 9) (j := 10) rfl sc_law.nd rfl rfl (by decide) rfl rfl (pa_cons (pe_cal c__law_bent hr (by decide) (by rfl) (pa_cons (pe_fld (pv 3) rfl) (pa_cons (pv 6) (pa_cons (pv 2) pa_nil)))) (pa_cons (pe_cal c__law_bent hr (by decide) (by rfl) (pa_cons (pe_fld (pv 3) rfl) (pa_cons (pe_op op_fdivW (pv 6) pe_int) (pa_cons (pv 2) pa_nil)))) pa_nil)) (by rfl))
        (pss_cons (ps_if (pt_not (pt_val (pe_cal c__law_right hr (by decide) (by rfl) (pa_cons (pv 1) (pa_cons (pe_fld (pv 3) rfl) (pa_cons (pv 7) (pa_cons (pv 10) (pa_cons (pv 8) pa_nil))))))))
          (pss_one (ps_ret pe_bl))
          (pss_nil))
        (pss_cons (ps_if (pt_not (pt_val (pe_cal c__law_right hr (by decide) (by rfl) (pa_cons (pv 1) (pa_cons (pv 9) (pa_cons (pe_fld (pv 3) rfl) (pa_cons (pe_fld (pv 3) rfl) (pa_cons (pe_fld (pv 3) rfl) pa_nil))))))))
          (pss_one (ps_ret pe_bl))
          (pss_nil))
        (pss_cons (ps_setLc (i := 11) (own := [("_law_at", 19)]) rfl sc_law.nd rfl rfl (sw_true rfl rfl rfl (by decide +kernel)) (pi_range1 (by rfl) B.range (pa_cons (pe_callB (cb_min2 rfl) (by rfl) X_min (by decide +kernel) (pa_cons (pv 2) (pa_cons (pe_cal c__law_draw hr (by decide) (by rfl) (pa_cons (pv 6) (pa_cons pe_int (pa_cons pe_int pa_nil)))) pa_nil))) pa_nil)) (blkOk_by (N := n_law) (sc := defScope s_law) (by decide +kernel)) (fun _ _ _ _ _ => (pg_name (i := 19) sc_law.nd rfl (.inl rfl))) (fun _ _ _ _ _ => pts_nil) (fun _ _ _ _ _ => (pe_cal c__law_draw hr (by decide) (by rfl) (pa_cons (pe_op op_add (pv 6) (pv 19)) (pa_cons pe_int (pa_cons (pe_callB (cb_max2 rfl) (by rfl) B.max (by decide +kernel) (pa_cons pe_int (pa_cons (pv 2) pa_nil))) pa_nil))))))
        (pss_cons (ps_setLc (i := 12) (own := [("_law_at", 19)]) rfl sc_law.nd rfl rfl (sw_true rfl rfl rfl (by decide +kernel)) (pi_range1 (by rfl) B.range (pa_cons (pv 2) pa_nil)) (blkOk_by (N := n_law) (sc := defScope s_law) (by decide +kernel)) (fun _ _ _ _ _ => (pg_name (i := 19) sc_law.nd rfl (.inl rfl))) (fun _ _ _ _ _ => pts_one (pt_cmpR (r := rIn K true) op_notIn_seq (pv 19) (pv 4) (by rfl))) (fun _ _ _ _ _ => (pv 19)))
        (pss_cons (ps_par (i := 13) (j := 14) rfl sc_law.nd rfl rfl (by decide) rfl rfl (pa_cons (pe_tup (pa_cons (pe_callB (r := rSortS w) (cr_sortS rfl) (by rfl) B.sorted (by decide +kernel) (pa_cons (pe_callTy (r := rSetI K w) (cr_setI rfl) (by rfl) B.set (by decide +kernel) (pa_cons (pv 11) pa_nil)) pa_nil)) (pa_cons (pv 4) (pa_cons (pv 12) (pa_cons (pe_lst pa_nil) pa_nil))))) (pa_cons (pe_cal c__law_draw hr (by decide) (by rfl) (pa_cons (pv 6) (pa_cons pe_int (pa_cons (pe_callB (cb_max2 rfl) (by rfl) B.max (by decide +kernel) (pa_cons pe_int (pa_cons (pv 2) pa_nil))) pa_nil)))) pa_nil)) (by rfl))
        (pss_cons (ps_set (i := 15) sc_law.nd rfl (.inl rfl) (pe_op op_cat (pe_lst (pa_cons pe_int (pa_cons (pe_fld (pv 3) rfl) (pa_cons (pe_un un_neg pe_int) pa_nil)))) (pe_lc (own := [("_law_thing", 20)]) rfl sc_law.nd (pi_list (pe_slice (r := rSlL K) sl_list (pv 1) (po_some (pv 14)) (po_some (pe_op op_add (pv 14) pe_int)))) (blkOk_by (N := n_law) (sc := defScope s_law) (by decide +kernel)) (fun _ _ _ _ _ => (pg_name (i := 20) sc_law.nd rfl (.inl rfl))) (fun _ _ _ _ _ => pts_nil) (fun _ _ _ _ _ => (pe_op op_add (pe_ix (r := rIxT K) ix_tup (pv 20) pe_int (fun _ _ => rfl)) (pe_ix (r := rIxT K) ix_tup (pv 20) pe_int (fun _ _ => rfl)))))))
        (pss_one (ps_for PassesOwn.never rfl (pi_range1 (by rfl) B.range (pa_cons pe_int pa_nil)) (pg_name (i := 16) sc_law.nd rfl (.inl rfl))
          (pss_cons (ps_par (i := 17) (j := 18) rfl sc_law.nd rfl rfl (by decide) rfl rfl (pa_cons (pe_ix (r := rIxT K) ix_tup (pv 13) (pe_op op_mod (pe_op op_add (pv 16) (pv 5)) pe_int) (fun _ _ => rfl)) (pa_cons (pe_ix (r := rIxL K) ix_list (pv 15) (pe_op op_mod (pv 16) (pe_callB (r := rLenB K) cb_len (by rfl) B.len (by decide +kernel) (pa_cons (pv 15) pa_nil))) (fun _ _ => rfl)) pa_nil)) (by rfl))
            (pss_one (ps_if (pt_not (pt_val (pe_cal c__law_right hr (by decide) (by rfl) (pa_cons (pv 1) (pa_cons (pe_fld (pv 3) rfl) (pa_cons (pe_op op_add pe_int (pe_cal c__law_draw hr (by decide) (by rfl) (pa_cons (pv 6) (pa_cons (pe_op op_add pe_int (pv 16)) (pa_cons pe_int pa_nil))))) (pa_cons (pv 17) (pa_cons (pv 18) pa_nil))))))))
              (pss_one (ps_ret pe_bl))
              (pss_nil)))))))))))))))))
    (pss_cons (ps_if (pt_not (pt_val (pe_cal c__law_says hr (by decide) (by rfl) (pa_cons (pe_met c_showsS hr (by decide) (pe_mak c_Soonest hr (by decide) (by rfl) (pa_cons (pe_lst (pa_cons pe_int pa_nil)) (pa_cons pe_int (pa_cons (pe_lst pa_nil) (pa_cons pe_int pa_nil))))) (pa_cons (pe_lst (pa_cons (pe_tup (pa_cons pe_int (pa_cons pe_int (pa_cons pe_int pa_nil)))) pa_nil)) pa_nil)) (pa_cons pe_bl pa_nil)))))
      (pss_one (ps_ret pe_bl))
      (pss_nil))
    (pss_cons (ps_if (pt_not (pt_val (pe_cal c__law_says hr (by decide) (by rfl) (pa_cons (pe_met c_showsS hr (by decide) (pe_mak c_Soonest hr (by decide) (by rfl) (pa_cons (pe_lst (pa_cons pe_int pa_nil)) (pa_cons pe_int (pa_cons (pe_lst (pa_cons pe_int pa_nil)) (pa_cons pe_int pa_nil))))) (pa_cons (pe_lst (pa_cons (pe_tup (pa_cons pe_int (pa_cons pe_int (pa_cons pe_int pa_nil)))) pa_nil)) pa_nil)) (pa_cons pe_bl pa_nil)))))
      (pss_one (ps_ret pe_bl))
      (pss_nil))
    (pss_one (ps_ret (pe_cal c__law_says hr (by decide) (by rfl) (pa_cons (pe_met c_showsN hr (by decide) (pe_mak c_Never hr (by decide) (by rfl) (pa_cons pe_int (pa_cons (pe_lst (pa_cons pe_int pa_nil)) (pa_cons pe_int pa_nil)))) (pa_cons (pe_lst (pa_cons (pe_tup (pa_cons pe_int (pa_cons pe_int (pa_cons pe_int pa_nil)))) pa_nil)) (pa_cons pe_int pa_nil))) (pa_cons pe_bl pa_nil)))))))))), ?_⟩
    walk_at "go"
    refine ⟨a, ns, rfl, hs, hz, fun H1 p1 vs' ts s1 np1 h1 hT1 hS hl => ?_⟩
    have hT : Things K H1 p1 ts := ⟨vs', SqL.of h1, hT1⟩
    have hN : ∀ t ∈ ts, Nn t := fun t ht => (hS t ht).1
    walk_at "go"
    refine i_lenThings hT ?_
    walk_at "go"
    refine ⟨p1, ts, rfl, hT, hN, by omega, fun H2 x po pa b l os ap s2 nx no na ne hI ho ha hp hw _ => ?_⟩
    have hla : ap.length ≤ 189 := Nat.le_trans (ris_len (wv_some hw).2.1) hl
    obtain ⟨dx, hx⟩ := hI
    have lz : (zs os).length ≤ 189 := by rw [zs_len, perm_len hp]; exact hl
    walk_at "go"
    refine i_tupk (by show 2 ≤ 100000; decide) fun tp H3 _ s3 h3 => ?_
    refine i_gtup (SqT.of h3) rfl ?_
    walk_at "go"
    have s23 := s2.trans s3
    have v3 : SqL K H3 p1 vs' := s23.seq (SqL.of h1)
    refine i_itn v3 ?_
    refine fun pq nq => lc_gen isI gen_e (fun H' e => e.seq v3) (by rw [hT1.len]; omega) nq (fun i x H' Qc Qn hi hY sm k1 k2 => ?_) (fun ys H4 s4 h4 hl4 hP4 => ?_)
    · obtain ⟨T, u, rfl, hu, hT'⟩ := hY
      obtain ⟨t, ht, hx2⟩ := hT1.at' hu
      obtain ⟨pt, rfl, hpt⟩ := hx2.mono (smT (s23.trans sm))
      refine i_gtup (SqT.of hT') rfl ?_
      walk_at "go"
      refine ⟨rfl, ?_⟩
      walk_at "go"
      refine i_ixT hpt (v := .int t.1) (atI_nat (j := 0) rfl) ?_
      walk_at "go"
      refine i_ixT hpt (v := .int t.2.2) (atI_nat (j := 2) rfl) ?_
      walk_at "go"
      refine i_itd (fun c => ?_) (fun c => ?_)
      · walk_at "go"
        exact k1 _ _ ⟨_, rfl⟩ (Same.refl _)
      · exact k2 _ (Same.refl _)
    obtain ⟨qs, rfl, lq⟩ := ints_all hP4
    have lq2 : qs.length ≤ 189 := by rw [lq]; exact Nat.le_trans hl4 (by rw [hT1.len]; exact hl)
    have s14 : Same H1 H4 := s23.trans s4
    have x4 := s4 _ _ (s3 _ _ hx)
    have o4 := s4 _ _ (s3 _ _ ho)
    have a4 := s4 _ _ (s3 _ _ ha)
    have T4 := hT.mono s14
    walk_at "go"
    refine i_itdC fun v hv => ?_
    obtain ⟨n, rfl, hn⟩ : ∃ n : Nat, v = .int (n : Int) ∧ n ≤ 4 := by
      rcases hv with rfl | rfl
      · exact ⟨2, rfl, by decide⟩
      · exact ⟨4, rfl, by decide⟩
    walk_at "go"
    refine i_itr (m := n) rfl (by omega) ?_
    refine for_rng (fun i σ' H' => ∃ y5 y6 y7 y8 y9 y10 y11 y12 y13 y14 y15 y16 y17 y18 : Option V, σ' = [some (.ref a), some (.ref p1), some (.int (ts.length : Int)), some (.ref x), some (.ref pq), y5, y6, y7, y8, y9, y10, y11, y12, y13, y14, y15, y16, y17, y18, none, none] ∧ Same H4 H') ?_ ?_ ?_
    · exact ⟨_, _, _, _, _, _, _, _, _, _, _, _, _, _, rfl, Same.refl _⟩
    · rintro k σ' H5 hk ⟨y5, y6, y7, y8, y9, y10, y11, y12, y13, y14, y15, y16, y17, y18, rfl, s5⟩
      walk_at "go"
      have hs5 := (s1.trans (s14.trans s5)).seq hs
      refine ⟨a, ns, k, rfl, hs5, ?_⟩
      walk_at "go"
      refine i_I (.inl ⟨by decide, by decide⟩) ?_
      walk_at "go"
      refine ⟨a, ns, k + 1, rfl, hs5, ?_⟩
      walk_at "go"
      refine i_I (.inl ⟨by decide, by decide⟩) ?_
      walk_at "go"
      generalize ns.getD k 0 + 977 * (k : Int) + 7 * ns.getD (k + 1) 0 = cl
      have x5 := s5 _ _ x4
      refine i_fldE x5 X_S.own.cls X_S.b rfl ?_
      walk_at "go"
      refine i_fldE x5 X_S.own.cls X_S.b rfl ?_
      walk_at "go"
      refine i_fldE x5 X_S.own.cls X_S.b rfl ?_
      walk_at "go"
      refine i_tupk (xs := [b, b, 3 - b, 0, 3].map V.int) (by show 5 ≤ 100000; decide) fun t1 H6 _ s6 h6 => ?_
      walk_at "go"
      refine ⟨cl, 5, 5, rfl, by decide, by decide, fun r H7 s7 r0 r1 => ?_⟩
      refine i_pick (SqT.of (s7 _ _ h6)) r0 r1 fun xb hxb => ?_
      obtain ⟨bb, _, rfl⟩ := List.mem_map.mp hxb
      walk_at "go"
      have s57 := (s5.trans s6).trans s7
      refine i_fldE (s57 _ _ x4) X_S.own.cls X_S.l rfl ?_
      walk_at "go"
      refine i_tupk (xs := [0, 0, 0, 1, -1].map V.int) (by show 5 ≤ 100000; decide) fun t2 H8 _ s8 h8 => ?_
      walk_at "go"
      refine ⟨cl, 6, 5, rfl, by decide, by decide, fun r2 H9 s9 r20 r21 => ?_⟩
      refine i_pick (SqT.of (s9 _ _ h8)) r20 r21 fun xl hxl => ?_
      obtain ⟨ll, _, rfl⟩ := List.mem_map.mp hxl
      walk_at "go"
      have s59 := (s57.trans s8).trans s9
      refine i_fldE (s59 _ _ x4) X_S.own.cls X_S.o rfl ?_
      walk_at "go"
      refine ⟨po, cl, ts.length, zs os, rfl, SqL.of (s59 _ _ o4), by omega, fun H10 q1 ms1 s10 h10 l10 => ?_⟩
      walk_at "go"
      have s510 := s59.trans s10
      refine i_fldE (s510 _ _ x4) X_S.own.cls X_S.a rfl ?_
      walk_at "go"
      refine i_I (⟨by decide, by decide⟩ : CDivW _ 3) ?_
      walk_at "go"
      refine ⟨pa, _, ts.length, ap, rfl, SqL.of (s510 _ _ a4), by omega, fun H11 q2 ms2 s11 h11 l11 => ?_⟩
      walk_at "go"
      have s511 := s510.trans s11
      refine i_fldE (s511 _ _ x4) X_S.own.cls X_S.o rfl ?_
      walk_at "go"
      refine ⟨p1, po, q2, bb, l + ll, ts, zs os, ms2, rfl, T4.mono s511, hN, by omega, SqL.of (s511 _ _ o4), SqL.of h11, by omega, by omega, fun H12 s12 => ?_⟩
      walk_at "go"
      have s512 := s511.trans s12
      have x12 := s512 _ _ x4
      refine i_fldE x12 X_S.own.cls X_S.b rfl ?_
      walk_at "go"
      refine i_fldE x12 X_S.own.cls X_S.a rfl ?_
      walk_at "go"
      refine i_fldE x12 X_S.own.cls X_S.l rfl ?_
      walk_at "go"
      refine ⟨p1, q1, pa, b, l, ts, ms1, ap, rfl, T4.mono s512, hN, by omega, SqL.of (s12 _ _ (s11 _ _ h10)), SqL.of (s512 _ _ a4), by omega, by omega, fun H13 s13 => ?_⟩
      walk_at "go"
      have s513 := s512.trans s13
      refine ⟨cl, 8, 6, rfl, by decide, by decide, fun rm H14 s14' rm0 rm1 => ?_⟩
      walk_at "go"
      refine i_min2 ?_
      walk_at "go"
      refine i_itr (m := (if rm < (ts.length : Int) then rm else (ts.length : Int)).toNat) (by split <;> omega) (by split <;> omega) ?_
      have nm : (if rm < (ts.length : Int) then rm else (ts.length : Int)).toNat ≤ 189 := by split <;> omega
      generalize (if rm < (ts.length : Int) then rm else (ts.length : Int)).toNat = nn at nm ⊢
      have g0 : 0 < gr 1 (ts.length : Int) := by unfold gr; split <;> omega
      refine fun pd nd => lc_gen isI gen_r (fun _ _ => trivial) (by omega) nd (fun i x H' Qc Qn hi hY sm k1 k2 => ?_) (fun ds H15 s15 h15 hl15 hP15 => ?_)
      · have hY2 : x = .int (i : Int) := hY
        subst hY2
        walk_at "go"
        refine ⟨rfl, ?_⟩
        walk_at "go"
        exact ⟨_, 7, _, rfl, by decide, g0, fun r H'' sr _ _ => k1 _ _ ⟨_, rfl⟩ sr⟩
      obtain ⟨dm, rfl, ld'⟩ := ints_all hP15
      have s515 := (s513.trans s14').trans s15
      walk_at "go"
      refine i_itr (m := ts.length) rfl (by omega) ?_
      refine fun pw nw => lc_gen isI gen_r (fun _ _ => trivial) (by omega) nw (fun i x H' Qc Qn hi hY sm k1 k2 => ?_) (fun ws H16 s16 h16 hl16 hP16 => ?_)
      · have hY2 : x = .int (i : Int) := hY
        subst hY2
        walk_at "go"
        refine ⟨rfl, ?_⟩
        walk_at "go"
        refine i_notIn (SqL.of (sm _ _ (s515 _ _ h4))) fun bq => ?_
        refine ⟨_, rfl, ?_⟩
        refine i_ite (fun c => ?_) (fun c => ?_)
        · walk_at "go"
          exact k1 _ _ ⟨_, rfl⟩ (Same.refl _)
        · exact k2 _ (Same.refl _)
      obtain ⟨wm, rfl, lw⟩ := ints_all hP16
      walk_at "go"
      refine ⟨pd, dm, rfl, SqL.of (s16 _ _ h15), by omega, fun p2 c2 n2 => ?_⟩
      refine ⟨p2, _, c2, rfl, upd_same, fun ss p3 o3 m3 n3 => ?_⟩
      have s17 : Same H16 (upd (upd H16 p2 (SetO w p2 (fun j => decide (j ∈ dm)) c2)) p3 (.lst (ss.map V.int))) := (Same.upd n2).trans (Same.upd n3)
      have h17 : upd (upd H16 p2 (SetO w p2 (fun j => decide (j ∈ dm)) c2)) p3 (.lst (ss.map V.int)) p3 = some (.lst (ss.map V.int)) := upd_same
      have lss : ss.length ≤ 189 := by
        have := nd_len (b := dm) (o3.imp fun h e => by omega) fun x hx => of_decide_eq_true ((m3 x).mp hx)
        omega
      generalize upd (upd H16 p2 (SetO w p2 (fun j => decide (j ∈ dm)) c2)) p3 (.lst (ss.map V.int)) = H17 at s17 h17 ⊢
      walk_at "go"
      refine i_lstk (Nat.zero_le _) fun pe H18 _ s18 h18 => ?_
      walk_at "go"
      refine i_tupk (by show 4 ≤ 100000; decide) fun tl H19 _ s19 h19 => ?_
      walk_at "go"
      refine ⟨cl, 9, _, rfl, by decide, g0, fun sp H20 s20 sp0 sp1 => ?_⟩
      walk_at "go"
      have s1620 := ((s17.trans s18).trans s19).trans s20
      have s520 := (s515.trans s16).trans s1620
      have four : ∀ z ∈ [V.ref p3, .ref pq, .ref pw, .ref pe], ∃ o ms, z = .ref o ∧ H20 o = some (.lst (List.map V.int ms)) ∧ ms.length ≤ 189 := fun z hz => by
        rcases List.mem_cons.mp hz with rfl | hz
        · exact ⟨p3, ss, rfl, s20 _ _ (s19 _ _ (s18 _ _ h17)), lss⟩
        rcases List.mem_cons.mp hz with rfl | hz
        · exact ⟨pq, qs, rfl, s520 _ _ h4, lq2⟩
        rcases List.mem_cons.mp hz with rfl | hz
        · exact ⟨pw, wm, rfl, s1620 _ _ h16, by omega⟩
        rcases List.mem_cons.mp hz with rfl | hz
        · exact ⟨pe, [], rfl, s20 _ _ (s19 _ _ h18), Nat.zero_le _⟩
        cases hz
      have x20 := s520 _ _ x4
      refine i_fldE x20 X_S.own.cls X_S.l rfl ?_
      walk_at "go"
      refine i_lstk (xs := [0, l, -1].map V.int) (by show 3 ≤ 100000; decide) fun p21 H21 _ s21 h21 => ?_
      walk_at "go"
      have v21 : SqL K H21 p1 vs' := ((s14.trans s520).trans s21).seq (SqL.of h1)
      refine i_slL v21 fun p22 H22 _ s22 h22 => ?_
      refine i_itl (SqL.of h22) ?_
      have lc22 := cutV_length vs' (some sp) (some (sp + 1))
      rw [hT1.len] at lc22
      refine fun p23 n23 => lc_gen isI gen_l (fun H' e => e.seq (SqL.of h22)) (by omega) n23 (fun i x H' Qc Qn hi hY sm k1 k2 => ?_) (fun us H23 s23' h23 hl23 hP23 => ?_)
      · have hY2 : (cutV vs' (some sp) (some (sp + 1)))[i]? = some x := hY
        obtain ⟨jj, hjj⟩ := List.mem_iff_getElem?.mp (cut_mem (List.mem_of_getElem? hY2))
        obtain ⟨t, _, ht⟩ := hT1.at' hjj
        obtain ⟨pt, rfl, hpt⟩ := ht.mono (smT ((((s14.trans s520).trans s21).trans s22).trans sm))
        walk_at "go"
        refine ⟨rfl, ?_⟩
        walk_at "go"
        refine i_ixT hpt (v := .int t.1) (atI_nat (j := 0) rfl) ?_
        walk_at "go"
        refine i_ixT hpt (v := .int t.2.1) (atI_nat (j := 1) rfl) ?_
        walk_at "go"
        exact k1 _ _ ⟨_, rfl⟩ (Same.refl _)
      obtain ⟨um, rfl, lu⟩ := ints_all hP23
      refine i_cat (s23' _ _ (s22 _ _ h21)) h23 (by rw [List.length_map, List.length_map]; show 3 + um.length ≤ 100000; omega) fun p24 H24 _ s24 h24 => ?_
      have e24 : [0, l, -1].map V.int ++ um.map V.int = (0 :: l :: -1 :: um).map V.int := rfl
      rw [e24] at h24
      walk_at "go"
      refine i_itr (m := 4) rfl (by decide) ?_
      have s524 := (((s520.trans s21).trans s22).trans s23').trans s24
      have s2024 := ((s21.trans s22).trans s23').trans s24
      refine for_rng (fun i σ' H' => ∃ y16 y17 y18 : Option V, σ' = [some (.ref a), some (.ref p1), some (.int (ts.length : Int)), some (.ref x), some (.ref pq), some (.int (k : Int)), some (.int cl), some (.int bb), some (.int (l + ll)), some (.ref q1), some (.ref q2), some (.ref pd), some (.ref pw), some (.ref tl), some (.int sp), some (.ref p24), y16, y17, y18, none, none] ∧ Same H24 H') ?_ ?_ ?_
      · exact ⟨_, _, _, rfl, Same.refl _⟩
      · rintro j σ' H25 hj ⟨y16, y17, y18, rfl, s25⟩
        have l24 : (0 :: l :: -1 :: um : List Int).length = um.length + 3 := rfl
        walk_at "go"
        refine i_I (show (0 : Int) < 4 by decide) ?_
        have e0 := Int.emod_nonneg ((j : Int) + (k : Int)) (show (4 : Int) ≠ 0 by decide)
        have e1 := Int.emod_lt_of_pos ((j : Int) + (k : Int)) (show (0 : Int) < 4 by decide)
        refine i_pick (xs := [V.ref p3, .ref pq, .ref pw, .ref pe]) (SqT.of (s25 _ _ (s2024 _ _ (s20 _ _ h19)))) e0 e1 fun z hz => ?_
        obtain ⟨o, ms, rfl, ho', lm⟩ := four z hz
        walk_at "go"
        refine i_lenL (SqL.of (s25 _ _ h24)) ?_
        walk_at "go"
        have lp : (0 : Int) < (((0 :: l :: -1 :: um : List Int).map V.int).length : Int) := by rw [List.length_map, l24]; omega
        refine i_I lp ?_
        refine i_pickL (SqL.of (s25 _ _ h24)) (Int.emod_nonneg _ (by omega)) (Int.emod_lt_of_pos _ lp) fun z2 hz2 => ?_
        obtain ⟨far, _, rfl⟩ := List.mem_map.mp hz2
        walk_at "go"
        have s525 := s524.trans s25
        refine i_fldE (s525 _ _ x4) X_S.own.cls X_S.o rfl ?_
        walk_at "go"
        refine ⟨cl, _, 2, rfl, by omega, by decide, fun rb H26 s26 _ _ => ?_⟩
        walk_at "go"
        have s526 := s525.trans s26
        refine ⟨p1, po, o, 1 + rb, far, ts, zs os, ms, rfl, T4.mono s526, hN, by omega, SqL.of (s526 _ _ o4), SqL.of (s26 _ _ (s25 _ _ (s2024 _ _ ho'))), by omega, by omega, fun H27 s27 => ?_⟩
        walk_at "go"
        exact ⟨_, _, _, rfl, (s25.trans s26).trans s27⟩
      · rintro σ' H25 ⟨y16, y17, y18, rfl, s25⟩
        walk_at "go"
        exact ⟨_, _, _, _, _, _, _, _, _, _, _, _, _, _, rfl, s524.trans s25⟩
    · rintro σ' H5 ⟨y5, y6, y7, y8, y9, y10, y11, y12, y13, y14, y15, y16, y17, y18, rfl, s5⟩
      walk_at "go"
      have one : ∀ (G : Hp) (p q : Addr), G q = some (.tup [.int 2, .int 1, .int 5]) → G p = some (.lst [.ref q]) → Things K G p [(2, 1, 5)] := fun G p q h1 h2 => ⟨_, SqL.of h2, All2.snoc All2.nil ⟨q, rfl, SqT.of h1⟩⟩
      refine i_lstk (xs := [0].map V.int) (by show 1 ≤ 100000; decide) fun c1 H6 _ s6 h6 => ?_
      walk_at "go"
      refine i_lstk (xs := ([] : List Int).map V.int) (Nat.zero_le _) fun c2 H7 _ s7 h7 => ?_
      walk_at "go"
      refine i_makS4 (SqL.of (s7 _ _ h6)) (SqL.of h7) fun x1 po1 pa1 H8 s8 _ _ _ _ hI1 ho1 ha1 => ?_
      obtain ⟨d1, i1⟩ := hI1
      refine i_metE i1 rfl ?_
      walk_at "go"
      refine i_tupk (by show 3 ≤ 100000; decide) fun u1 H9 _ s9 h9 => ?_
      walk_at "go"
      refine i_lstk (by show 1 ≤ 100000; decide) fun v1 H10 _ s10 h10 => ?_
      walk_at "go"
      have s810 := s9.trans s10
      refine ⟨x1, v1, po1, pa1, 1, 3, [(2, 1, 5)], [0], [], rfl, ⟨d1, s810 _ _ i1⟩, one _ _ _ (s10 _ _ h9) h10, SqL.of (s810 _ _ ho1), SqL.of (s810 _ _ ha1), by decide, by decide, fun H11 s11 => ?_⟩
      rw [show shw [(2, 1, 5)] [0] 1 [] 3 = true by decide +kernel]
      walk_at "go"
      refine ⟨_, _, rfl, ?_⟩
      walk_at "go"
      refine i_neg (by rfl) ?_
      walk_at "go"
      refine i_lstk (xs := [0].map V.int) (by show 1 ≤ 100000; decide) fun c1 H12 _ s12 h12 => ?_
      walk_at "go"
      refine i_lstk (xs := [0].map V.int) (by show 1 ≤ 100000; decide) fun c2 H13 _ s13 h13 => ?_
      walk_at "go"
      refine i_makS4 (SqL.of (s13 _ _ h12)) (SqL.of h13) fun x2 po2 pa2 H14 s14 _ _ _ _ hI2 ho2 ha2 => ?_
      obtain ⟨d2, i2⟩ := hI2
      refine i_metE i2 rfl ?_
      walk_at "go"
      refine i_tupk (by show 3 ≤ 100000; decide) fun u2 H15 _ s15 h15 => ?_
      walk_at "go"
      refine i_lstk (by show 1 ≤ 100000; decide) fun v2 H16 _ s16 h16 => ?_
      walk_at "go"
      have s1416 := s15.trans s16
      refine ⟨x2, v2, po2, pa2, 1, 1, [(2, 1, 5)], [0], [0], rfl, ⟨d2, s1416 _ _ i2⟩, one _ _ _ (s16 _ _ h15) h16, SqL.of (s1416 _ _ ho2), SqL.of (s1416 _ _ ha2), by decide, by decide, fun H17 s17 => ?_⟩
      rw [show shw [(2, 1, 5)] [0] 1 [0] 1 = false by decide +kernel]
      walk_at "go"
      refine ⟨_, _, rfl, ?_⟩
      walk_at "go"
      refine i_neg (by rfl) ?_
      walk_at "go"
      refine i_lstk (xs := [0].map V.int) (by show 1 ≤ 100000; decide) fun c3 H18 _ s18 h18 => ?_
      walk_at "go"
      refine i_makN4 (SqL.of h18) fun x3 pa3 H19 s19 _ _ hI3 ha3 => ?_
      obtain ⟨d3, i3⟩ := hI3
      refine i_metE i3 rfl ?_
      walk_at "go"
      refine i_tupk (by show 3 ≤ 100000; decide) fun u3 H20 _ s20 h20 => ?_
      walk_at "go"
      refine i_lstk (by show 1 ≤ 100000; decide) fun v3 H21 _ s21 h21 => ?_
      walk_at "go"
      have s1921 := s20.trans s21
      refine ⟨1, [0], 0, x3, pa3, v3, 1, [(2, 1, 5)], rfl, ⟨⟨d3, s1921 _ _ i3⟩, s1921 _ _ ha3⟩, one _ _ _ (s21 _ _ h20) h21, by decide, by decide, fun H22 s22 => ?_⟩
      rw [show An.sho [(2, 1, 5)] 1 (.n 1 [0] 0) = true by decide +kernel]
      walk_at "go"
      refine ⟨_, _, rfl, ?_⟩
      exact q H22
end
def d_is_whole : He.DefD := ⟨("is_whole", none), "is_whole", "is_whole", defArgs s_is_whole, defBody s_is_whole, defScope s_is_whole, [], []⟩
def d_is_triple : He.DefD := ⟨("is_triple", none), "is_triple", "is_triple", defArgs s_is_triple, defBody s_is_triple, defScope s_is_triple, [], []⟩
def d_check_things : He.DefD := ⟨("check_things", none), "check_things", "check_things", defArgs s_check_things, defBody s_check_things, defScope s_check_things, [], []⟩
def d_is_order : He.DefD := ⟨("is_order", none), "is_order", "is_order", defArgs s_is_order, defBody s_is_order, defScope s_is_order, [], []⟩
def d_run : He.DefD := ⟨("run", none), "run", "run", defArgs s_run, defBody s_run, defScope s_run, [], []⟩
def d__law_cell_at : He.DefD := ⟨("_law_cell_at", none), "_law_cell_at", "_law_cell_at", defArgs s__law_cell_at, defBody s__law_cell_at, defScope s__law_cell_at, [], []⟩
def d__law_draw : He.DefD := ⟨("_law_draw", none), "_law_draw", "_law_draw", defArgs s__law_draw, defBody s__law_draw, defScope s__law_draw, [], []⟩
def d__law_things : He.DefD := ⟨("_law_things", none), "_law_things", "_law_things", defArgs s__law_things, defBody s__law_things, defScope s__law_things, [], []⟩
def d__law_done : He.DefD := ⟨("_law_done", none), "_law_done", "_law_done", defArgs s__law_done, defBody s__law_done, defScope s__law_done, [], []⟩
def d__law_whole : He.DefD := ⟨("_law_whole", none), "_law_whole", "_law_whole", defArgs s__law_whole, defBody s__law_whole, defScope s__law_whole, [], []⟩
def d_is_apart : He.DefD := ⟨("is_apart", none), "is_apart", "is_apart", defArgs s_is_apart, defBody s_is_apart, defScope s_is_apart, [], []⟩
def d_worth_of : He.DefD := ⟨("worth_of", none), "worth_of", "worth_of", defArgs s_worth_of, defBody s_worth_of, defScope s_worth_of, [], []⟩
def d_Soonest___init__ : He.DefD := ⟨("Soonest", some "__init__"), "__init__", "Soonest.__init__", defArgs s_Soonest___init__, defBody s_Soonest___init__, defScope s_Soonest___init__, [], []⟩
def d_Soonest_shows : He.DefD := ⟨("Soonest", some "shows"), "shows", "Soonest.shows", defArgs s_Soonest_shows, defBody s_Soonest_shows, defScope s_Soonest_shows, [], []⟩
def d_best_order : He.DefD := ⟨("best_order", none), "best_order", "best_order", defArgs s_best_order, defBody s_best_order, defScope s_best_order, [], []⟩
def d_bar_of : He.DefD := ⟨("bar_of", none), "bar_of", "bar_of", defArgs s_bar_of, defBody s_bar_of, defScope s_bar_of, [], []⟩
def d_soonest : He.DefD := ⟨("soonest", none), "soonest", "soonest", defArgs s_soonest, defBody s_soonest, defScope s_soonest, [], []⟩
def d__law_order : He.DefD := ⟨("_law_order", none), "_law_order", "_law_order", defArgs s__law_order, defBody s__law_order, defScope s__law_order, [], []⟩
def d__law_worth : He.DefD := ⟨("_law_worth", none), "_law_worth", "_law_worth", defArgs s__law_worth, defBody s__law_worth, defScope s__law_worth, [], []⟩
def d_Within___init__ : He.DefD := ⟨("Within", some "__init__"), "__init__", "Within.__init__", defArgs s_Within___init__, defBody s_Within___init__, defScope s_Within___init__, [], []⟩
def d_Never___init__ : He.DefD := ⟨("Never", some "__init__"), "__init__", "Never.__init__", defArgs s_Never___init__, defBody s_Never___init__, defScope s_Never___init__, [], []⟩
def d_Within_shows : He.DefD := ⟨("Within", some "shows"), "shows", "Within.shows", defArgs s_Within_shows, defBody s_Within_shows, defScope s_Within_shows, [], []⟩
def d_Never_shows : He.DefD := ⟨("Never", some "shows"), "shows", "Never.shows", defArgs s_Never_shows, defBody s_Never_shows, defScope s_Never_shows, [], []⟩
def d__law_says : He.DefD := ⟨("_law_says", none), "_law_says", "_law_says", defArgs s__law_says, defBody s__law_says, defScope s__law_says, [], []⟩
def d__law_bent : He.DefD := ⟨("_law_bent", none), "_law_bent", "_law_bent", defArgs s__law_bent, defBody s__law_bent, defScope s__law_bent, [], []⟩
def d__law_right : He.DefD := ⟨("_law_right", none), "_law_right", "_law_right", defArgs s__law_right, defBody s__law_right, defScope s__law_right, [], []⟩
def d_law : He.DefD := ⟨("law", none), "law", "law", defArgs s_law, defBody s_law, defScope s_law, [], []⟩
def fnL : List He.DefD := [d_is_whole, d_is_triple, d_check_things, d_is_order, d_run, d__law_cell_at, d__law_draw, d__law_things, d__law_done, d__law_whole, d_is_apart, d_worth_of, d_Soonest___init__, d_Soonest_shows, d_best_order, d_bar_of, d_soonest, d__law_order, d__law_worth, d_Within___init__, d_Never___init__, d_Within_shows, d_Never_shows, d__law_says, d__law_bent, d__law_right, d_law]
def faL : List He.Fa := [.glo "is_whole", .glo "is_triple", .glo "check_things", .glo "is_order", .glo "run", .glo "_law_cell_at", .glo "_law_draw", .glo "_law_things", .glo "_law_done", .glo "_law_whole", .glo "is_apart", .glo "worth_of", .glo "best_order", .glo "bar_of", .glo "soonest", .glo "_law_order", .glo "_law_worth", .glo "_law_says", .glo "_law_bent", .glo "_law_right", .glo "law", .free "isinstance", .free "int", .free "bool", .free "list", .free "tuple", .free "str", .free "len", .free "all", .free "any", .free "sum", .free "max", .free "sorted", .free "range", .free "enumerate", .free "zip", .free "set", .free "ValueError", .free "min", .glo "Answer", .glo "Soonest", .glo "Within", .glo "Never", .cls "Soonest", .noat "Soonest" "order", .noat "Soonest" "bench", .noat "Soonest" "apart", .noat "Soonest" "length", .mkr "Soonest", .cls "Within", .noat "Within" "order", .mkr "Within", .cls "Never", .noat "Never" "bench", .noat "Never" "apart", .noat "Never" "length", .mkr "Never", .meth "Soonest" "shows", .meth "Within" "shows", .meth "Never" "shows"]
abbrev exL : PySem.W.Frag → Bool := exB ["Soonest", "Within", "Never"] [("Soonest", "Answer", true), ("Soonest", "Soonest", true), ("Soonest", "Within", false), ("Soonest", "Never", false), ("Within", "Answer", true), ("Within", "Soonest", false), ("Within", "Within", true), ("Within", "Never", false), ("Never", "Answer", true), ("Never", "Soonest", false), ("Never", "Within", false), ("Never", "Never", true)]
abbrev Rw : PySem.W.OpenRow := PySem.W.OpenLaw.row PySem.Challenge.rw_benchpair_k04_answers_by_hand
abbrev hkL : PySem.W.Hook := hookX 5 faL fnL exL
def obL (s : PySem.W.SharedT) : He.AlD × Bool := obsX 5 faL fnL exL (HandSHeadRun.getT s)
theorem obL_eq (s : PySem.W.SharedT) : obL s = hkL.obs s.abs := obsX_eq (HandSHeadRun.getT_eq s)
def looseL : List Str := ["BenchError", "BadThings", "is_whole", "is_triple", "check_things", "is_order", "run", "Answer", "is_apart", "worth_of", "Soonest", "Within", "Never", "best_order", "bar_of", "soonest", "_law_cell_at", "_law_draw", "_law_things", "_law_done", "_law_order", "_law_worth", "_law_whole", "_law_says", "_law_bent", "_law_right"]
theorem runL (w : World) : HandSHeadRun.RunEq Rw (PySem.W.view Rw.prog [31]) hkL obL 4000 looseL w := by
  intro os
  kernel_rfl
theorem factsL {P : Program} {w : World} {K : PySem.W.Frag} {h : Heap} {mg : Str → Option Value} {f : Addr} (X : K.In h) (G : h.Ns mainGlobals mg) (hfa : mg ("law" : Str) = some (.ref f)) (c : SaysX faL fnL exL K) :
    ∃ fd : FuncData, (∀ (s : Shared) (v : Value), BindsTo s fd ⟨[v], []⟩ [("_law_script", v)]) ∧ ∀ base : Heap, K.In base → base.Ns mainGlobals mg → FnOk P w K mg base CX0 6 f fd ["_law_script"] (sp_law K) := by
  obtain ⟨fd_is_whole, F_is_whole⟩ := c.1.def_ 0 (d := d_is_whole) rfl
  obtain ⟨fd_is_triple, F_is_triple⟩ := c.1.def_ 1 (d := d_is_triple) rfl
  obtain ⟨fd_check_things, F_check_things⟩ := c.1.def_ 2 (d := d_check_things) rfl
  obtain ⟨fd_is_order, F_is_order⟩ := c.1.def_ 3 (d := d_is_order) rfl
  obtain ⟨fd_run, F_run⟩ := c.1.def_ 4 (d := d_run) rfl
  obtain ⟨fd__law_cell_at, F__law_cell_at⟩ := c.1.def_ 5 (d := d__law_cell_at) rfl
  obtain ⟨fd__law_draw, F__law_draw⟩ := c.1.def_ 6 (d := d__law_draw) rfl
  obtain ⟨fd__law_things, F__law_things⟩ := c.1.def_ 7 (d := d__law_things) rfl
  obtain ⟨fd__law_done, F__law_done⟩ := c.1.def_ 8 (d := d__law_done) rfl
  obtain ⟨fd__law_whole, F__law_whole⟩ := c.1.def_ 9 (d := d__law_whole) rfl
  obtain ⟨fd_is_apart, F_is_apart⟩ := c.1.def_ 10 (d := d_is_apart) rfl
  obtain ⟨fd_worth_of, F_worth_of⟩ := c.1.def_ 11 (d := d_worth_of) rfl
  obtain ⟨fd_Soonest___init__, F_Soonest___init__⟩ := c.1.def_ 12 (d := d_Soonest___init__) rfl
  obtain ⟨fd_Soonest_shows, F_Soonest_shows⟩ := c.1.def_ 13 (d := d_Soonest_shows) rfl
  obtain ⟨fd_best_order, F_best_order⟩ := c.1.def_ 14 (d := d_best_order) rfl
  obtain ⟨fd_bar_of, F_bar_of⟩ := c.1.def_ 15 (d := d_bar_of) rfl
  obtain ⟨fd_soonest, F_soonest⟩ := c.1.def_ 16 (d := d_soonest) rfl
  obtain ⟨fd__law_order, F__law_order⟩ := c.1.def_ 17 (d := d__law_order) rfl
  obtain ⟨fd__law_worth, F__law_worth⟩ := c.1.def_ 18 (d := d__law_worth) rfl
  obtain ⟨fd_Within___init__, F_Within___init__⟩ := c.1.def_ 19 (d := d_Within___init__) rfl
  obtain ⟨fd_Never___init__, F_Never___init__⟩ := c.1.def_ 20 (d := d_Never___init__) rfl
  obtain ⟨fd_Within_shows, F_Within_shows⟩ := c.1.def_ 21 (d := d_Within_shows) rfl
  obtain ⟨fd_Never_shows, F_Never_shows⟩ := c.1.def_ 22 (d := d_Never_shows) rfl
  obtain ⟨fd__law_says, F__law_says⟩ := c.1.def_ 23 (d := d__law_says) rfl
  obtain ⟨fd__law_bent, F__law_bent⟩ := c.1.def_ 24 (d := d__law_bent) rfl
  obtain ⟨fd__law_right, F__law_right⟩ := c.1.def_ 25 (d := d__law_right) rfl
  obtain ⟨fd_law, F_law⟩ := c.1.def_ 26 (d := d_law) rfl
  have B : Blt mg := ⟨He.free_ok X G (c.1.fact 21 (f := .free "isinstance") rfl), He.free_ok X G (c.1.fact 22 (f := .free "int") rfl), He.free_ok X G (c.1.fact 23 (f := .free "bool") rfl), He.free_ok X G (c.1.fact 24 (f := .free "list") rfl), He.free_ok X G (c.1.fact 25 (f := .free "tuple") rfl), He.free_ok X G (c.1.fact 26 (f := .free "str") rfl), He.free_ok X G (c.1.fact 27 (f := .free "len") rfl), He.free_ok X G (c.1.fact 28 (f := .free "all") rfl), He.free_ok X G (c.1.fact 29 (f := .free "any") rfl), He.free_ok X G (c.1.fact 30 (f := .free "sum") rfl), He.free_ok X G (c.1.fact 31 (f := .free "max") rfl), He.free_ok X G (c.1.fact 32 (f := .free "sorted") rfl), He.free_ok X G (c.1.fact 33 (f := .free "range") rfl), He.free_ok X G (c.1.fact 34 (f := .free "enumerate") rfl), He.free_ok X G (c.1.fact 35 (f := .free "zip") rfl), He.free_ok X G (c.1.fact 36 (f := .free "set") rfl), He.free_ok X G (c.1.fact 37 (f := .free "ValueError") rfl)⟩
  have e := hfa.symm.trans (He.glo_ok X G (c.1.fact 20 (f := .glo "law") rfl))
  cases e
  have b := FunD.bindsA (ps := ["_law_script"]) F_law fun _ _ _ _ _ _ us hl => match us, hl with | [_], _ => rfl
  have X_min := He.free_ok X G (c.1.fact 38 (f := .free "min") rfl)
  have g_Answer := He.glo_ok X G (c.1.fact 39 (f := .glo "Answer") rfl)
  have g_Soonest := He.glo_ok X G (c.1.fact 40 (f := .glo "Soonest") rfl)
  have g_Within := He.glo_ok X G (c.1.fact 41 (f := .glo "Within") rfl)
  have g_Never := He.glo_ok X G (c.1.fact 42 (f := .glo "Never") rfl)
  have O_Soonest : Own K (He.ga K "Soonest") := exB_own c.2 0 rfl (He.cls_ok (c.1.fact 43 (f := .cls "Soonest") rfl))
  have X_S : ClS K (He.ga K "Soonest") := ⟨O_Soonest, He.noat_ok (c.1.fact 44 (f := .noat "Soonest" "order") rfl), He.noat_ok (c.1.fact 45 (f := .noat "Soonest" "bench") rfl), He.noat_ok (c.1.fact 46 (f := .noat "Soonest" "apart") rfl), He.noat_ok (c.1.fact 47 (f := .noat "Soonest" "length") rfl)⟩
  have O_Within : Own K (He.ga K "Within") := exB_own c.2 1 rfl (He.cls_ok (c.1.fact 49 (f := .cls "Within") rfl))
  have X_W : ClW K (He.ga K "Within") := ⟨O_Within, He.noat_ok (c.1.fact 50 (f := .noat "Within" "order") rfl)⟩
  have O_Never : Own K (He.ga K "Never") := exB_own c.2 2 rfl (He.cls_ok (c.1.fact 52 (f := .cls "Never") rfl))
  have X_N : ClN K (He.ga K "Never") := ⟨O_Never, He.noat_ok (c.1.fact 53 (f := .noat "Never" "bench") rfl), He.noat_ok (c.1.fact 54 (f := .noat "Never" "apart") rfl), He.noat_ok (c.1.fact 55 (f := .noat "Never" "length") rfl)⟩
  refine ⟨fd_law, fun s v => b s [v] rfl, fun base _ _ => ?_⟩
  have D_is_whole : Def K mg "is_whole" s_is_whole ["thing"] := ⟨_, fd_is_whole, F_is_whole, He.glo_ok X G (c.1.fact 0 (f := .glo "is_whole") rfl), F_is_whole.bindsN fun _ _ _ _ _ _ us hl => match us, hl with | [_], _ => rfl⟩
  have c_is_whole := ok_is_whole (P := P) (w := w) (base := base) B D_is_whole
  have D_is_triple : Def K mg "is_triple" s_is_triple ["thing"] := ⟨_, fd_is_triple, F_is_triple, He.glo_ok X G (c.1.fact 1 (f := .glo "is_triple") rfl), F_is_triple.bindsN fun _ _ _ _ _ _ us hl => match us, hl with | [_], _ => rfl⟩
  have c_is_triple := ok_is_triple (P := P) (w := w) (base := base) B c_is_whole D_is_triple
  have D_check_things : Def K mg "check_things" s_check_things ["things"] := ⟨_, fd_check_things, F_check_things, He.glo_ok X G (c.1.fact 2 (f := .glo "check_things") rfl), F_check_things.bindsN fun _ _ _ _ _ _ us hl => match us, hl with | [_], _ => rfl⟩
  have c_check_things := ok_check_things (P := P) (w := w) (base := base) B c_is_triple D_check_things
  have D_is_order : Def K mg "is_order" s_is_order ["things", "order"] := ⟨_, fd_is_order, F_is_order, He.glo_ok X G (c.1.fact 3 (f := .glo "is_order") rfl), F_is_order.bindsN fun _ _ _ _ _ _ us hl => match us, hl with | [_, _], _ => rfl⟩
  have c_is_order := ok_is_order (P := P) (w := w) (base := base) B c_is_whole D_is_order
  have D_run : Def K mg "run" s_run ["things", "order"] := ⟨_, fd_run, F_run, He.glo_ok X G (c.1.fact 4 (f := .glo "run") rfl), F_run.bindsN fun _ _ _ _ _ _ us hl => match us, hl with | [_, _], _ => rfl⟩
  have c_run := ok_run (P := P) (w := w) (base := base) B D_run
  have D__law_cell_at : Def K mg "_law_cell_at" s__law_cell_at ["_law_script", "_law_k"] := ⟨_, fd__law_cell_at, F__law_cell_at, He.glo_ok X G (c.1.fact 5 (f := .glo "_law_cell_at") rfl), F__law_cell_at.bindsN fun _ _ _ _ _ _ us hl => match us, hl with | [_, _], _ => rfl⟩
  have c__law_cell_at := ok__law_cell_at (P := P) (w := w) (base := base) B D__law_cell_at
  have D__law_draw : Def K mg "_law_draw" s__law_draw ["_law_cell", "_law_k", "_law_many"] := ⟨_, fd__law_draw, F__law_draw, He.glo_ok X G (c.1.fact 6 (f := .glo "_law_draw") rfl), F__law_draw.bindsN fun _ _ _ _ _ _ us hl => match us, hl with | [_, _, _], _ => rfl⟩
  have c__law_draw := ok__law_draw (P := P) (w := w) (base := base) B D__law_draw
  have D__law_things : Def K mg "_law_things" s__law_things ["_law_script"] := ⟨_, fd__law_things, F__law_things, He.glo_ok X G (c.1.fact 7 (f := .glo "_law_things") rfl), F__law_things.bindsN fun _ _ _ _ _ _ us hl => match us, hl with | [_], _ => rfl⟩
  have c__law_things := ok__law_things (P := P) (w := w) (base := base) B c__law_cell_at c__law_draw D__law_things
  have D__law_done : Def K mg "_law_done" s__law_done ["_law_things_here", "_law_order_here"] := ⟨_, fd__law_done, F__law_done, He.glo_ok X G (c.1.fact 8 (f := .glo "_law_done") rfl), F__law_done.bindsN fun _ _ _ _ _ _ us hl => match us, hl with | [_, _], _ => rfl⟩
  have c__law_done := ok__law_done (P := P) (w := w) (base := base) B D__law_done
  have D__law_whole : Def K mg "_law_whole" s__law_whole ["_law_number"] := ⟨_, fd__law_whole, F__law_whole, He.glo_ok X G (c.1.fact 9 (f := .glo "_law_whole") rfl), F__law_whole.bindsN fun _ _ _ _ _ _ us hl => match us, hl with | [_], _ => rfl⟩
  have c__law_whole := ok__law_whole (P := P) (w := w) (base := base) B D__law_whole
  have D_is_apart : Def K mg "is_apart" s_is_apart ["things", "apart"] := ⟨_, fd_is_apart, F_is_apart, He.glo_ok X G (c.1.fact 10 (f := .glo "is_apart") rfl), F_is_apart.bindsN fun _ _ _ _ _ _ us hl => match us, hl with | [_, _], _ => rfl⟩
  have c_is_apart := ok_is_apart (P := P) (w := w) (base := base) B c_is_whole D_is_apart
  have D_worth_of : Def K mg "worth_of" s_worth_of ["things", "bench", "apart", "length"] := ⟨_, fd_worth_of, F_worth_of, He.glo_ok X G (c.1.fact 11 (f := .glo "worth_of") rfl), F_worth_of.bindsN fun _ _ _ _ _ _ us hl => match us, hl with | [_, _, _, _], _ => rfl⟩
  have c_worth_of := ok_worth_of (P := P) (w := w) (base := base) B c_is_whole c_is_apart D_worth_of
  have D_Soonest___init__ : DefI K mg "Soonest" (He.ga K "Soonest") "Soonest.__init__" s_Soonest___init__ ["self", "order", "bench", "apart", "length"] := ⟨g_Soonest, _, fd_Soonest___init__, F_Soonest___init__, He.mkr_ok (c.1.fact 48 (f := .mkr "Soonest") rfl), F_Soonest___init__.bindsN fun _ _ _ _ _ _ us hl => match us, hl with | [_, _, _, _, _], _ => rfl⟩
  have c_Soonest := ok_Soonest___init__ (P := P) (w := w) (base := base) B X_S D_Soonest___init__
  have D_Soonest_shows : DefM K (He.ga K "Soonest") "shows" "Soonest.shows" s_Soonest_shows ["self", "things"] := ⟨He.cls_ok (c.1.fact 43 (f := .cls "Soonest") rfl), _, fd_Soonest_shows, F_Soonest_shows, He.meth_ok (c.1.fact 57 (f := .meth "Soonest" "shows") rfl), F_Soonest_shows.bindsN fun _ _ _ _ _ _ us hl => match us, hl with | [_, _], _ => rfl⟩
  have c_showsS := ok_Soonest_shows (P := P) (w := w) (base := base) B X_S c_is_order c_worth_of c_run D_Soonest_shows
  have D_best_order : Def K mg "best_order" s_best_order ["things"] := ⟨_, fd_best_order, F_best_order, He.glo_ok X G (c.1.fact 12 (f := .glo "best_order") rfl), F_best_order.bindsN fun _ _ _ _ _ _ us hl => match us, hl with | [_], _ => rfl⟩
  have c_best_order := ok_best_order (P := P) (w := w) (base := base) B D_best_order
  have D_bar_of : Def K mg "bar_of" s_bar_of ["things", "order"] := ⟨_, fd_bar_of, F_bar_of, He.glo_ok X G (c.1.fact 13 (f := .glo "bar_of") rfl), F_bar_of.bindsN fun _ _ _ _ _ _ us hl => match us, hl with | [_, _], _ => rfl⟩
  have c_bar_of := ok_bar_of (P := P) (w := w) (base := base) B D_bar_of
  have D_soonest : Def K mg "soonest" s_soonest ["things"] := ⟨_, fd_soonest, F_soonest, He.glo_ok X G (c.1.fact 14 (f := .glo "soonest") rfl), F_soonest.bindsN fun _ _ _ _ _ _ us hl => match us, hl with | [_], _ => rfl⟩
  have c_soonest := ok_soonest (P := P) (w := w) (base := base) B c_check_things c_best_order c_bar_of c_Soonest D_soonest
  have D__law_order : Def K mg "_law_order" s__law_order ["_law_things_here", "_law_order_here"] := ⟨_, fd__law_order, F__law_order, He.glo_ok X G (c.1.fact 15 (f := .glo "_law_order") rfl), F__law_order.bindsN fun _ _ _ _ _ _ us hl => match us, hl with | [_, _], _ => rfl⟩
  have c__law_order := ok__law_order (P := P) (w := w) (base := base) B c__law_whole D__law_order
  have D__law_worth : Def K mg "_law_worth" s__law_worth ["_law_things_here", "_law_bench", "_law_apart", "_law_length"] := ⟨_, fd__law_worth, F__law_worth, He.glo_ok X G (c.1.fact 16 (f := .glo "_law_worth") rfl), F__law_worth.bindsN fun _ _ _ _ _ _ us hl => match us, hl with | [_, _, _, _], _ => rfl⟩
  have c__law_worth := ok__law_worth (P := P) (w := w) (base := base) B D__law_worth
  have D_Within___init__ : DefI K mg "Within" (He.ga K "Within") "Within.__init__" s_Within___init__ ["self", "order"] := ⟨g_Within, _, fd_Within___init__, F_Within___init__, He.mkr_ok (c.1.fact 51 (f := .mkr "Within") rfl), F_Within___init__.bindsN fun _ _ _ _ _ _ us hl => match us, hl with | [_, _], _ => rfl⟩
  have c_Within := ok_Within___init__ (P := P) (w := w) (base := base) B X_W D_Within___init__
  have D_Never___init__ : DefI K mg "Never" (He.ga K "Never") "Never.__init__" s_Never___init__ ["self", "bench", "apart", "length"] := ⟨g_Never, _, fd_Never___init__, F_Never___init__, He.mkr_ok (c.1.fact 56 (f := .mkr "Never") rfl), F_Never___init__.bindsN fun _ _ _ _ _ _ us hl => match us, hl with | [_, _, _, _], _ => rfl⟩
  have c_Never := ok_Never___init__ (P := P) (w := w) (base := base) B X_N D_Never___init__
  have D_Within_shows : DefM K (He.ga K "Within") "shows" "Within.shows" s_Within_shows ["self", "things", "time"] := ⟨He.cls_ok (c.1.fact 49 (f := .cls "Within") rfl), _, fd_Within_shows, F_Within_shows, He.meth_ok (c.1.fact 58 (f := .meth "Within" "shows") rfl), F_Within_shows.bindsN fun _ _ _ _ _ _ us hl => match us, hl with | [_, _, _], _ => rfl⟩
  have c_showsW := ok_Within_shows (P := P) (w := w) (base := base) (cN := He.ga K "Never") B X_W c_is_order c_run D_Within_shows
  have D_Never_shows : DefM K (He.ga K "Never") "shows" "Never.shows" s_Never_shows ["self", "things", "time"] := ⟨He.cls_ok (c.1.fact 52 (f := .cls "Never") rfl), _, fd_Never_shows, F_Never_shows, He.meth_ok (c.1.fact 59 (f := .meth "Never" "shows") rfl), F_Never_shows.bindsN fun _ _ _ _ _ _ us hl => match us, hl with | [_, _, _], _ => rfl⟩
  have c_showsN := ok_Never_shows (P := P) (w := w) (base := base) (cW := He.ga K "Within") B X_N c_worth_of D_Never_shows
  have D__law_says : Def K mg "_law_says" s__law_says ["_law_said", "_law_due"] := ⟨_, fd__law_says, F__law_says, He.glo_ok X G (c.1.fact 17 (f := .glo "_law_says") rfl), F__law_says.bindsN fun _ _ _ _ _ _ us hl => match us, hl with | [_, _], _ => rfl⟩
  have c__law_says := ok__law_says (P := P) (w := w) (base := base) B D__law_says
  have D__law_bent : Def K mg "_law_bent" s__law_bent ["_law_some", "_law_cell", "_law_many"] := ⟨_, fd__law_bent, F__law_bent, He.glo_ok X G (c.1.fact 18 (f := .glo "_law_bent") rfl), F__law_bent.bindsN fun _ _ _ _ _ _ us hl => match us, hl with | [_, _, _], _ => rfl⟩
  have c__law_bent := ok__law_bent (P := P) (w := w) (base := base) B c__law_draw D__law_bent
  have D__law_right : Def K mg "_law_right" s__law_right ["_law_things_here", "_law_order_here", "_law_bench", "_law_apart", "_law_length"] := ⟨_, fd__law_right, F__law_right, He.glo_ok X G (c.1.fact 19 (f := .glo "_law_right") rfl), F__law_right.bindsN fun _ _ _ _ _ _ us hl => match us, hl with | [_, _, _, _, _], _ => rfl⟩
  have c__law_right := ok__law_right (P := P) (w := w) (base := base) B X_S X_W X_N c__law_order c__law_worth c__law_done c__law_says c_Soonest c_Within c_Never c_showsS c_showsW c_showsN D__law_right
  exact ok_law (P := P) (w := w) (base := base) B X_min X_S c__law_cell_at c__law_draw c__law_things c__law_says c__law_bent c__law_right c_soonest c_Soonest c_Never c_showsS c_showsN F_law
end Bp
open PySem PySem.W PySem.Calls PyProof.Rows
theorem PySem.Challenge.cw_benchpair_k04_answers_by_hand_holds : PySem.Challenge.rw_benchpair_k04_answers_by_hand.Holds := by
  w_on; o_law
  refine HandSHeadRun.head_any (r := OpenLaw.row PySem.Challenge.rw_benchpair_k04_answers_by_hand) (q := view (OpenLaw.row PySem.Challenge.rw_benchpair_k04_answers_by_hand).prog [31]) (H := Bp.hkL) (ob := Bp.obL) (M := 4000) (loose := Bp.looseL) (d := HandSHeadRun.topDef (OpenLaw.row PySem.Challenge.rw_benchpair_k04_answers_by_hand).prog 31) (kwd := []) Bp.obL_eq
    (by kernel_rfl) (fun s => by kernel_rfl) Bp.runL (by kernel_rfl) (by kernel_rfl) (by kernel_rfl) (by rfl) (by first | assumption | decide +kernel) (by decide +kernel) ⟨rfl, rfl, rfl, rfl, rfl, by decide +kernel⟩ ?hw ?hc
  case hw => w_witness2
  case hc =>
    refine L2.walk_ofE (l := PySem.Challenge.rw_benchpair_k04_answers_by_hand) (n := 63) (k := 6) (x := "_law_script") (CX := L2.CX0) rfl (by decide) (by kernel_rfl) ⟨rfl, by decide, by decide⟩ ?F (fun _ _ _ _ z => z)
    intro w mg fa h Y G hmg0
    obtain ⟨K, KX, c⟩ := Y
    have hmg : mg ("law" : PySem.Str) = some (.ref fa) := by
      have e : (HandSHeadRun.topDef (OpenLaw.row PySem.Challenge.rw_benchpair_k04_answers_by_hand).prog 31).name = ("law" : PySem.Str) := by kernel_rfl
      rw [← e]
      exact hmg0
    obtain ⟨fd, hb, hF⟩ := Bp.factsL (P := (PySem.Challenge.rw_benchpair_k04_answers_by_hand).prog) (w := w) KX G hmg c
    exact ⟨K, fd, Bp.sp_law K, KX, hb, fun H a ns hl _ hS => ⟨a, ns, rfl, hS, hl, fun _ => rfl⟩, hF⟩
