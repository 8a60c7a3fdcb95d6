import PyProof.Rows.All
import Wide.All
import OpenK.AllK
import Wide.FinOn
import PyProof.EqAt
import PyProof.EqKinds
import PyProof.TupleCall
import KE.KStateDown
import HandS.ForMost
import HandS.Exc
import HandS.TryOnly
import HandS.ExcOwn
import HandS.WordsExc
import HandS.IsInst
import HandS.Sort
import HandS.SortRule
import HandS.SortInts
import HandS.Conv
import HandS.Style
import HandS.Zip
import HandS.Wide
import HandS.More
import HandS.Defaults
import HandS.Codes
import HandS.Head0
import HandS.Head1
import HandS.Head2
import HandS.HeadEnd
import HandS.HeadHook1
import HandS.HeadHook2
import PySem.Challenge.RW_benchpair_k03_times
set_option Elab.async false
set_option linter.all false
set_option maxRecDepth 100000
set_option maxHeartbeats 8000000
/-! Benchpair: the plain mathematics of an order (no program in sight). -/
namespace Bp
/-- a thing: bench 1, drying, bench 2 -/
abbrev T3 := Int × Int × Int
def Nn (t : T3) : Prop := 0 ≤ t.1 ∧ 0 ≤ t.2.1 ∧ 0 ≤ t.2.2
def sa : List T3 → Int
  | [] => 0
  | t :: r => t.1 + sa r
def sb : List T3 → Int
  | [] => 0
  | t :: r => t.2.2 + sb r
/-- the greater one, as Python's max tells it -/
def gr (i j : Int) : Int := if j > i then j else i
theorem gr_le {i j x : Int} : gr i j ≤ x ↔ i ≤ x ∧ j ≤ x := by
  unfold gr; split <;> omega
theorem le_gr1 (i j : Int) : i ≤ gr i j := by unfold gr; split <;> omega
theorem le_gr2 (i j : Int) : j ≤ gr i j := by unfold gr; split <;> omega
/-- when bench 2 is free at the end, from f and s on -/
def endOf (f s : Int) : List T3 → Int
  | [] => s
  | t :: r => endOf (f + t.1) (gr s (f + t.1 + t.2.1) + t.2.2) r
/-- when each begins on either bench -/
def runP (f s : Int) : List T3 → List (Int × Int)
  | [] => []
  | t :: r => (f, gr s (f + t.1 + t.2.1)) :: runP (f + t.1) (gr s (f + t.1 + t.2.1) + t.2.2) r
/-- the longest way, as it is looked for from the left -/
def mx (f : Int) : List T3 → Int → Int
  | [], m => m
  | t :: r, m => mx (f + t.1) r (gr m (f + t.1 + t.2.1 + (t.2.2 + sb r)))
/-- the way that changes benches at t -/
def pth (p : List T3) (t : T3) (r : List T3) : Int := sa p + t.1 + t.2.1 + (t.2.2 + sb r)
theorem sa_app : ∀ p q : List T3, sa (p ++ q) = sa p + sa q
  | [], q => by simp [sa]
  | t :: p, q => by rw [List.cons_append, sa, sa, sa_app p q]; omega
theorem sb_app : ∀ p q : List T3, sb (p ++ q) = sb p + sb q
  | [], q => by simp [sb]
  | t :: p, q => by rw [List.cons_append, sb, sb, sb_app p q]; omega
theorem sa_nn : ∀ {l : List T3}, (∀ t ∈ l, Nn t) → 0 ≤ sa l
  | [], _ => Int.le_refl 0
  | t :: r, h => by
    have h1 := (h t List.mem_cons_self).1
    have h2 := sa_nn fun u hu => h u (List.mem_cons_of_mem t hu)
    rw [sa]; omega
theorem sb_nn : ∀ {l : List T3}, (∀ t ∈ l, Nn t) → 0 ≤ sb l
  | [], _ => Int.le_refl 0
  | t :: r, h => by
    have h1 := (h t List.mem_cons_self).2.2
    have h2 := sb_nn fun u hu => h u (List.mem_cons_of_mem t hu)
    rw [sb]; omega
theorem runP_len : ∀ (f s : Int) (l : List T3), (runP f s l).length = l.length
  | _, _, [] => rfl
  | f, s, t :: r => by rw [runP, List.length_cons, List.length_cons, runP_len]
theorem endOf_mx : ∀ (l : List T3) (f s : Int), endOf f s l = mx f l (s + sb l)
  | [], f, s => by simp [endOf, mx, sb]
  | t :: r, f, s => by
    rw [endOf, mx, sb, endOf_mx r]
    congr 1
    unfold gr
    split <;> split <;> omega
theorem mx_le : ∀ (l : List T3) (f m x : Int), mx f l m ≤ x ↔ m ≤ x ∧ ∀ p t r, l = p ++ t :: r → f + pth p t r ≤ x
  | [], f, m, x => by
    rw [mx]
    refine ⟨fun h => ⟨h, fun p t r e => ?_⟩, fun h => h.1⟩
    cases p <;> cases e
  | u :: l, f, m, x => by
    rw [mx, mx_le l, gr_le]
    constructor
    · rintro ⟨⟨h1, h2⟩, h3⟩
      refine ⟨h1, fun p t r e => ?_⟩
      cases p with
      | nil =>
        rw [List.nil_append] at e
        injection e with e1 e2
        subst e1 e2
        simp only [pth, sa]
        omega
      | cons v p =>
        rw [List.cons_append] at e
        injection e with e1 e2
        subst e1
        have h4 := h3 p t r e2
        simp only [pth, sa] at h4 ⊢
        omega
    · rintro ⟨h1, h2⟩
      refine ⟨⟨h1, ?_⟩, fun p t r e => ?_⟩
      · have h3 := h2 [] u l rfl
        simp only [pth, sa] at h3
        omega
      · have h3 := h2 (u :: p) t r (by rw [e, List.cons_append])
        simp only [pth, sa] at h3 ⊢
        omega
/-- when all is done -/
def dn (l : List T3) : Int := endOf 0 0 l
/-- the same, by the ways through -/
def ld (l : List T3) : Int := mx 0 l 0
theorem ld_le {l : List T3} {x : Int} : ld l ≤ x ↔ 0 ≤ x ∧ ∀ p t r, l = p ++ t :: r → pth p t r ≤ x := by
  unfold ld
  rw [mx_le]
  constructor
  · rintro ⟨h1, h2⟩
    exact ⟨h1, fun p t r e => by have := h2 p t r e; omega⟩
  · rintro ⟨h1, h2⟩
    exact ⟨h1, fun p t r e => by have := h2 p t r e; omega⟩
theorem dn_le {l : List T3} (h : ∀ t ∈ l, Nn t) {x : Int} : dn l ≤ x ↔ 0 ≤ x ∧ ∀ p t r, l = p ++ t :: r → pth p t r ≤ x := by
  unfold dn
  rw [endOf_mx, mx_le]
  constructor
  · rintro ⟨h1, h2⟩
    have := sb_nn h
    exact ⟨by omega, fun p t r e => by have := h2 p t r e; omega⟩
  · rintro ⟨h1, h2⟩
    refine ⟨?_, fun p t r e => by have := h2 p t r e; omega⟩
    cases l with
    | nil => simp only [sb]; omega
    | cons t r =>
      have h3 := h2 [] t r rfl
      have h4 := h t List.mem_cons_self
      simp only [pth, sa, sb] at h3 ⊢
      have := h4.1
      have := h4.2.1
      omega
theorem le_anti {a b : Int} (h : ∀ x, a ≤ x ↔ b ≤ x) : a = b := by
  have h1 := (h b).mpr (Int.le_refl b)
  have h2 := (h a).mp (Int.le_refl a)
  omega
theorem dn_ld {l : List T3} (h : ∀ t ∈ l, Nn t) : dn l = ld l := le_anti fun _ => (dn_le h).trans ld_le.symm
theorem ld_nn (l : List T3) : 0 ≤ ld l := (ld_le.mp (Int.le_refl (ld l))).1
theorem pth_le_ld {l p r : List T3} {t : T3} (e : l = p ++ t :: r) : pth p t r ≤ ld l := (ld_le.mp (Int.le_refl (ld l))).2 p t r e
/-! ### benches exchanged -/
def tn (t : T3) : T3 := (t.2.2, t.2.1, t.1)
theorem tn_tn (t : T3) : tn (tn t) = t := rfl
theorem tn_nn {t : T3} (h : Nn t) : Nn (tn t) := ⟨h.2.2, h.2.1, h.1⟩
theorem tn_map (l : List T3) : (l.map tn).map tn = l := by
  rw [List.map_map]
  exact List.map_id'' (fun t => tn_tn t) l
theorem sa_tn : ∀ l : List T3, sa (l.map tn) = sb l
  | [] => rfl
  | t :: r => by rw [List.map_cons, sa, sb, sa_tn r]; rfl
theorem sb_tn : ∀ l : List T3, sb (l.map tn) = sa l
  | [] => rfl
  | t :: r => by rw [List.map_cons, sa, sb, sb_tn r]; rfl
theorem sa_rev : ∀ l : List T3, sa l.reverse = sa l
  | [] => rfl
  | t :: r => by rw [List.reverse_cons, sa_app, sa_rev r, sa, sa, sa]; omega
theorem sb_rev : ∀ l : List T3, sb l.reverse = sb l
  | [] => rfl
  | t :: r => by rw [List.reverse_cons, sb_app, sb_rev r, sb, sb, sb]; omega
theorem pth_rev (p : List T3) (t : T3) (r : List T3) : pth (r.map tn).reverse (tn t) (p.map tn).reverse = pth p t r := by
  unfold pth
  rw [sa_rev, sb_rev, sa_tn, sb_tn]
  simp only [tn]
  omega
theorem split_rev {l p r : List T3} {t : T3} (e : l = p ++ t :: r) : (l.map tn).reverse = (r.map tn).reverse ++ tn t :: (p.map tn).reverse := by
  rw [e, List.map_append, List.map_cons, List.reverse_append, List.reverse_cons, List.append_assoc] <;> rfl
theorem ld_rev (l : List T3) : ld (l.map tn).reverse = ld l := by
  refine le_anti fun x => ?_
  rw [ld_le, ld_le]
  constructor
  · rintro ⟨h1, h2⟩
    exact ⟨h1, fun p t r e => by have := h2 _ _ _ (split_rev e); rw [pth_rev] at this; exact this⟩
  · rintro ⟨h1, h2⟩
    refine ⟨h1, fun p t r e => ?_⟩
    have e2 : l = (r.map tn).reverse ++ tn t :: (p.map tn).reverse := by
      have e3 := split_rev e
      rw [List.map_reverse, tn_map, List.reverse_reverse] at e3
      exact e3
    have := h2 _ _ _ e2
    rw [pth_rev] at this
    exact this
theorem nn_turn {l : List T3} (h : ∀ t ∈ l, Nn t) : ∀ t ∈ (l.map tn).reverse, Nn t := fun t ht => by
  rw [List.mem_reverse, List.mem_map] at ht
  obtain ⟨u, hu, rfl⟩ := ht
  exact tn_nn (h u hu)
theorem dn_rev {l : List T3} (h : ∀ t ∈ l, Nn t) : dn (l.map tn).reverse = dn l := by
  rw [dn_ld h, dn_ld (nn_turn h), ld_rev]
/-! ### a thing less -/
theorem sa_sub {p q : List T3} (h : p.Sublist q) (hq : ∀ t ∈ q, Nn t) : sa p ≤ sa q := by
  induction h with
  | slnil => exact Int.le_refl 0
  | cons t _ ih =>
    have := ih fun u hu => hq u (List.mem_cons_of_mem t hu)
    have := (hq t List.mem_cons_self).1
    rw [sa]; omega
  | cons_cons t _ ih =>
    have := ih fun u hu => hq u (List.mem_cons_of_mem t hu)
    rw [sa, sa]; omega
theorem sb_sub {p q : List T3} (h : p.Sublist q) (hq : ∀ t ∈ q, Nn t) : sb p ≤ sb q := by
  induction h with
  | slnil => exact Int.le_refl 0
  | cons t _ ih =>
    have := ih fun u hu => hq u (List.mem_cons_of_mem t hu)
    have := (hq t List.mem_cons_self).2.2
    rw [sb]; omega
  | cons_cons t _ ih =>
    have := ih fun u hu => hq u (List.mem_cons_of_mem t hu)
    rw [sb, sb]; omega
theorem ld_sub {l m : List T3} (h : l.Sublist m) (hm : ∀ t ∈ m, Nn t) : ld l ≤ ld m := by
  rw [ld_le]
  refine ⟨ld_nn m, fun p t r e => ?_⟩
  subst e
  obtain ⟨m1, m2, e1, h1, h2⟩ := List.append_sublist_iff.mp h
  obtain ⟨m3, m4, e2, h3, h4⟩ := List.cons_sublist_iff.mp h2
  obtain ⟨m5, m6, e3⟩ := List.append_of_mem h3
  subst e1 e2 e3
  have q : m1 ++ (m5 ++ t :: m6 ++ m4) = (m1 ++ m5) ++ t :: (m6 ++ m4) := by simp
  have w := pth_le_ld q
  have a1 := sa_sub h1 fun u hu => hm u (List.mem_append_left _ hu)
  have a2 : 0 ≤ sa m5 := sa_nn fun u hu => hm u (by simp [hu])
  have b1 := sb_sub h4 fun u hu => hm u (by simp [hu])
  have b2 : 0 ≤ sb m6 := sb_nn fun u hu => hm u (by simp [hu])
  unfold pth at w ⊢
  rw [sa_app, sb_app] at w
  omega
end Bp
/-! Benchpair: orders as lists of counts. -/
namespace Bp
/-- the things in an order -/
def sq (ts : List T3) (os : List Nat) : List T3 := os.map fun k => ts.getD k (0, 0, 0)
/-- 0, 1, .. as whole numbers -/
def zs (os : List Nat) : List Int := os.map fun k : Nat => (k : Int)
def rg (n : Nat) : List Int := zs (List.range n)
theorem zs_len (os : List Nat) : (zs os).length = os.length := List.length_map ..
theorem sq_len (ts : List T3) (os : List Nat) : (sq ts os).length = os.length := List.length_map ..
theorem sq_app (ts : List T3) (p q : List Nat) : sq ts (p ++ q) = sq ts p ++ sq ts q := List.map_append ..
theorem getD_at {ts : List T3} {k : Nat} (h : k < ts.length) : ts[k]? = some (ts.getD k (0, 0, 0)) := by
  rw [List.getD_eq_getElem?_getD, List.getElem?_eq_getElem h]; rfl
theorem sq_nn {ts : List T3} {os : List Nat} (h : ∀ t ∈ ts, Nn t) (ho : ∀ k ∈ os, k < ts.length) : ∀ t ∈ sq ts os, Nn t := fun t ht => by
  obtain ⟨k, hk, rfl⟩ := List.mem_map.mp ht
  exact h _ (List.mem_of_getElem? (getD_at (ho k hk)))
theorem perm_lt {os : List Nat} {n : Nat} (h : os.Perm (List.range n)) : ∀ k ∈ os, k < n := fun k hk => List.mem_range.mp (h.mem_iff.mp hk)
theorem perm_len {os : List Nat} {n : Nat} (h : os.Perm (List.range n)) : os.length = n := by rw [h.length_eq, List.length_range]
theorem perm_nd {os : List Nat} {n : Nat} (h : os.Perm (List.range n)) : os.Nodup := h.nodup_iff.mpr List.nodup_range
theorem sq_tn (ts : List T3) (os : List Nat) : sq (ts.map tn) os = (sq ts os).map tn := by
  unfold sq
  rw [List.map_map]
  refine List.map_congr_left fun k _ => ?_
  show (ts.map tn).getD k (0, 0, 0) = tn (ts.getD k (0, 0, 0))
  rw [List.getD_eq_getElem?_getD, List.getD_eq_getElem?_getD, List.getElem?_map]
  cases ts[k]? <;> rfl
theorem sq_rev (ts : List T3) (os : List Nat) : sq (ts.map tn) os.reverse = ((sq ts os).map tn).reverse := by
  rw [sq_tn]; unfold sq; rw [List.map_reverse, List.map_reverse]
/-- benches exchanged, the order turned about: done as soon -/
theorem dn_turned {ts : List T3} {os : List Nat} (h : ∀ t ∈ ts, Nn t) (ho : ∀ k ∈ os, k < ts.length) : dn (sq (ts.map tn) os.reverse) = dn (sq ts os) := by
  rw [sq_rev]; exact dn_rev (sq_nn h ho)
/-! ### a thing left out -/
def dropAt (out : Nat) (os : List Nat) : List Nat := (os.filter fun k => decide (k ≠ out)).map fun k => if out < k then k - 1 else k
theorem range_drop {n out : Nat} (h : out < n) : dropAt out (List.range n) = List.range (n - 1) := by
  have e : List.range n = List.range out ++ [out] ++ (List.range (n - out - 1)).map (fun k => out + 1 + k) := by
    have h1 := List.range_add (n := out + 1) (m := n - out - 1)
    rw [show out + 1 + (n - out - 1) = n by omega, List.range_succ] at h1
    exact h1
  have e2 : List.range (n - 1) = List.range out ++ (List.range (n - out - 1)).map (fun k => out + k) := by
    have h1 := List.range_add (n := out) (m := n - out - 1)
    rw [show out + (n - out - 1) = n - 1 by omega] at h1
    exact h1
  unfold dropAt
  rw [e, e2, List.filter_append, List.filter_append, List.map_append, List.map_append]
  have f1 : (List.range out).filter (fun k => decide (k ≠ out)) = List.range out := List.filter_eq_self.mpr fun k hk => by
    have := List.mem_range.mp hk
    exact decide_eq_true (by omega)
  have f2 : [out].filter (fun k => decide (k ≠ out)) = [] := by simp
  have f3 : ((List.range (n - out - 1)).map (fun k => out + 1 + k)).filter (fun k => decide (k ≠ out)) = (List.range (n - out - 1)).map (fun k => out + 1 + k) := List.filter_eq_self.mpr fun k hk => by
    obtain ⟨j, _, rfl⟩ := List.mem_map.mp hk
    exact decide_eq_true (by omega)
  rw [f1, f2, f3, List.map_nil, List.append_nil, List.map_map]
  congr 1
  · refine (List.map_congr_left (g := id) fun k hk => ?_).trans (List.map_id _)
    have := List.mem_range.mp hk
    exact if_neg (by omega)
  · refine List.map_congr_left fun k _ => ?_
    show (if out < out + 1 + k then out + 1 + k - 1 else out + 1 + k) = out + k
    rw [if_pos (by omega)]; omega
theorem dropAt_perm {os : List Nat} {n out : Nat} (h : os.Perm (List.range n)) (ho : out < n) : (dropAt out os).Perm (List.range (n - 1)) := by
  rw [← range_drop ho]
  exact (h.filter _).map _
theorem sq_drop {ts : List T3} {os : List Nat} {out : Nat} (ho : ∀ k ∈ os, k < ts.length) : sq (ts.take out ++ ts.drop (out + 1)) (dropAt out os) = sq ts (os.filter fun k => decide (k ≠ out)) := by
  unfold sq dropAt
  rw [List.map_map]
  refine List.map_congr_left fun k hk => ?_
  obtain ⟨h1, h2⟩ := List.mem_filter.mp hk
  have h3 : k ≠ out := of_decide_eq_true h2
  show (ts.take out ++ ts.drop (out + 1)).getD (if out < k then k - 1 else k) (0, 0, 0) = ts.getD k (0, 0, 0)
  rw [← List.eraseIdx_eq_take_drop_succ, List.getD_eq_getElem?_getD, List.getD_eq_getElem?_getD, List.getElem?_eraseIdx]
  by_cases c : out < k
  · rw [if_pos c, if_neg (by omega), show k - 1 + 1 = k by omega]
  · rw [if_neg c, if_pos (by omega)]
theorem dn_less {ts : List T3} {os : List Nat} {out : Nat} (h : ∀ t ∈ ts, Nn t) (ho : ∀ k ∈ os, k < ts.length) : dn (sq (ts.take out ++ ts.drop (out + 1)) (dropAt out os)) ≤ dn (sq ts os) := by
  have hs : (sq ts (os.filter fun k => decide (k ≠ out))).Sublist (sq ts os) := List.filter_sublist.map _
  rw [sq_drop ho, dn_ld (sq_nn h fun k hk => ho k (List.mem_filter.mp hk).1), dn_ld (sq_nn h ho)]
  exact ld_sub hs (sq_nn h ho)
/-! ### sorted -/
theorem rg_sorted (n : Nat) : (rg n).Pairwise (· ≤ ·) := by
  unfold rg zs
  rw [List.pairwise_map]
  exact List.pairwise_lt_range.imp fun h => by omega
theorem sorted_uniq {a b : List Int} (h : a.Perm b) (ha : a.Pairwise (· ≤ ·)) (hb : b.Pairwise (· ≤ ·)) : a = b :=
  h.eq_of_pairwise (fun _ _ _ _ h1 h2 => by omega) ha hb
/-- what sorted(order) == list(range(n)) tells -/
theorem sorted_rg {ns ms : List Int} {n : Nat} (h : ms.Perm ns) (hs : ms.Pairwise (· ≤ ·)) : ms = rg n ↔ ns.Perm (rg n) := by
  constructor
  · intro e
    rw [← e]
    exact h.symm
  · intro p
    exact sorted_uniq (h.trans p) hs (rg_sorted n)
theorem zs_perm {os : List Nat} {n : Nat} (h : os.Perm (List.range n)) : (zs os).Perm (rg n) := h.map _
/-- a list of whole numbers that is an order is one of counts -/
theorem perm_zs {ns : List Int} {n : Nat} (h : ns.Perm (rg n)) : ∃ os : List Nat, ns = zs os ∧ os.Perm (List.range n) := by
  refine ⟨ns.map Int.toNat, ?_, ?_⟩
  · unfold zs
    rw [List.map_map]
    refine ((List.map_congr_left (g := id) fun z hz => ?_).trans (List.map_id _)).symm
    obtain ⟨k, _, e⟩ := List.mem_map.mp (h.mem_iff.mp hz)
    show ((z.toNat : Nat) : Int) = z
    omega
  · have h2 := h.map Int.toNat
    unfold rg zs at h2
    rw [List.map_map] at h2
    have e : (List.range n).map (Int.toNat ∘ fun k : Nat => (k : Int)) = List.range n := (List.map_congr_left (g := id) fun k _ => by
      show ((k : Int)).toNat = k
      omega).trans (List.map_id _)
    rw [e] at h2
    exact h2
theorem zs_inj {a b : List Nat} (h : zs a = zs b) : a = b := by
  have h2 := congrArg (List.map Int.toNat) h
  unfold zs at h2
  rw [List.map_map, List.map_map] at h2
  have e : ∀ l : List Nat, l.map (Int.toNat ∘ fun k : Nat => (k : Int)) = l := fun l => (List.map_congr_left (g := id) fun k _ => by
    show ((k : Int)).toNat = k
    omega).trans (List.map_id _)
  rw [e, e] at h2
  exact h2
/-! ### lists set by place -/
def setAll {α : Type} : List α → List Nat → List α → List α
  | l, k :: os, x :: xs => setAll (l.set k x) os xs
  | l, _, _ => l
theorem setAll_len {α : Type} : ∀ (os : List Nat) (l xs : List α), (setAll l os xs).length = l.length
  | [], l, xs => by cases xs <;> rfl
  | k :: os, l, [] => rfl
  | k :: os, l, x :: xs => by rw [setAll, setAll_len os, List.length_set]
theorem setAll_take {α : Type} : ∀ (os : List Nat) (l xs : List α) (i k : Nat) (x : α), os[i]? = some k → xs[i]? = some x → setAll l (os.take (i + 1)) (xs.take (i + 1)) = (setAll l (os.take i) (xs.take i)).set k x
  | [], l, xs, i, k, x, h, _ => by simp at h
  | _ :: _, l, [], i, k, x, _, h => by simp at h
  | j :: os, l, y :: xs, 0, k, x, h1, h2 => by
    simp at h1 h2
    subst h1 h2
    rfl
  | j :: os, l, y :: xs, i + 1, k, x, h1, h2 => by
    have ih := setAll_take os (l.set j y) xs i k x (by simpa using h1) (by simpa using h2)
    show setAll (l.set j y) (os.take (i + 1)) (xs.take (i + 1)) = (setAll (l.set j y) (os.take i) (xs.take i)).set k x
    exact ih
/-! ### an order drawn: each thing put in somewhere -/
theorem ins_perm {os : List Nat} {n p : Nat} (h : os.Perm (List.range n)) : (os.take p ++ [n] ++ os.drop p).Perm (List.range (n + 1)) := by
  rw [List.range_succ]
  have h1 : (os.take p ++ [n] ++ os.drop p).Perm (os ++ [n]) := by
    have h2 : (os.take p ++ [n] ++ os.drop p).Perm (os.take p ++ (os.drop p ++ [n])) := by
      rw [List.append_assoc]
      exact List.Perm.append_left _ List.perm_append_comm
    rw [← List.append_assoc, List.take_append_drop] at h2
    exact h2
  exact h1.trans (h.append_right _)
end Bp
/-! Benchpair: short words over the hand layer. -/
namespace Bp
open PySem PySem.Spec PyProof.Rows L2
/-- the built-in names that the text leaves as they are -/
structure Blt (mg : Str → Option Value) : Prop where
  isinstance : mg "isinstance" = none
  int : mg "int" = none
  bool : mg "bool" = none
  list : mg "list" = none
  tuple : mg "tuple" = none
  str : mg "str" = none
  len : mg "len" = none
  all : mg "all" = none
  any : mg "any" = none
  sum : mg "sum" = none
  max : mg "max" = none
  sorted : mg "sorted" = none
  range : mg "range" = none
  enumerate : mg "enumerate" = none
  zip : mg "zip" = none
  set : mg "set" = none
  ValueError : mg "ValueError" = none
abbrev FnP (K : PySem.W.Frag) (x : Str) (st : Stmt) (f : Addr) (fd : FuncData) : Prop := FunD K x x (defArgs st) (defBody st) (defScope st) [] [] f fd
/-- a def of the text, under its own name -/
structure Def (K : PySem.W.Frag) (mg : Str → Option Value) (x : Str) (st : Stmt) (ps : List Str) : Prop where
  ex : ∃ (f : Addr) (fd : FuncData), FnP K x st f fd ∧ mg x = some (.ref f) ∧ Binds K fd ps []
/-- a def that may be called, and what it promises -/
structure CalX (P : Program) (w : World) (K : PySem.W.Frag) (mg : Str → Option Value) (base : Heap) (CX : CXT) (k : Nat) (x : Str) (sp : Sp) : Prop where
  ex : ∃ (f : Addr) (fd : FuncData) (ps : List Str), FnOk P w K mg base CX k f fd ps sp ∧ mg x = some (.ref f) ∧ PySem.W.keepIn K (.ref f) = true ∧ Binds K fd ps []
abbrev Cal (P : Program) (w : World) (K : PySem.W.Frag) (mg : Str → Option Value) (base : Heap) (k : Nat) (x : Str) (sp : Sp) : Prop := CalX P w K mg base CX0 k x sp
section
variable {P : Program} {w : World} {K : PySem.W.Frag} {mg : Str → Option Value} {base : Heap} {x : Str} {st : Stmt} {ps N : List Str} {k : Nat} {sp : Sp}
theorem Def.cal (D : Def K mg x st ps) (S : FnScope N ps (defScope st)) (len : ∀ vs H Q E, sp vs H Q E → vs.length = ps.length)
    (body : ∀ (f : Addr) (cdv : Value) (A : Around) (outer : List Env) (s : Shared) (H : Hp) (vs : List V) (Q : VK) (E : XK), Room k (A.deeper (envOfC x (defScope st) s.heap.objs.size f cdv)) → sp vs H Q E →
      ∃ t, PSs (cxOf CX0 P w K mg base N x (defScope st) f cdv A outer s H E).nox (defBody st) t ∧ t { nx := fun _ H' => Q .non H', rt := Q } (start N vs) H) : Cal P w K mg base (k + 1) x sp := by
  obtain ⟨f, fd, F, g, b⟩ := D.ex
  refine ⟨f, fd, ps, F.ok S len fun cdv A outer s H vs Q E hr h => ?_, g, F.kp, b⟩
  obtain ⟨t, h1, h2⟩ := body f cdv A outer s H vs Q E hr h
  exact ⟨t, h1.nox, h2⟩
/-- the law itself -/
theorem fn_law {f : Addr} {fd : FuncData} (F : FnP K x st f fd) (S : FnScope N ps (defScope st)) (len : ∀ vs H Q E, sp vs H Q E → vs.length = ps.length)
    (body : ∀ (cdv : Value) (A : Around) (outer : List Env) (s : Shared) (H : Hp) (vs : List V) (Q : VK) (E : XK), Room k (A.deeper (envOfC x (defScope st) s.heap.objs.size f cdv)) → sp vs H Q E →
      ∃ t, PSs (cxOf CX0 P w K mg base N x (defScope st) f cdv A outer s H E).nox (defBody st) t ∧ t { nx := fun _ H' => Q .non H', rt := Q } (start N vs) H) : FnOk P w K mg base CX0 (k + 1) f fd ps sp :=
  F.ok S len fun cdv A outer s H vs Q E hr h => let ⟨t, h1, h2⟩ := body cdv A outer s H vs Q E hr h; ⟨t, h1.nox, h2⟩
/-- .. for one that may raise -/
theorem Def.calX (D : Def K mg x st ps) (S : FnScope N ps (defScope st)) (len : ∀ vs H Q E, sp vs H Q E → vs.length = ps.length)
    (body : ∀ (f : Addr) (cdv : Value) (A : Around) (outer : List Env) (s : Shared) (H : Hp) (vs : List V) (Q : VK) (E : XK), Room k (A.deeper (envOfC x (defScope st) s.heap.objs.size f cdv)) → sp vs H Q E →
      ∃ t, PSs (cxOf (L2.CX P w) P w K mg base N x (defScope st) f cdv A outer s H E) (defBody st) t ∧ t { nx := fun _ H' => Q .non H', rt := Q } (start N vs) H) : CalX P w K mg base (L2.CX P w) (k + 1) x sp := by
  obtain ⟨f, fd, F, g, b⟩ := D.ex
  exact ⟨f, fd, ps, F.ok S len fun cdv A outer s H vs Q E hr h => body f cdv A outer s H vs Q E hr h, g, F.kp, b⟩
end
/-- f(e, ..) by its promise -/
def tCal (sp : Sp) (t : TA) : TE := fun σ H Q => t σ H fun vs H1 => sp vs H1 Q E0
theorem tCal_eq (sp : Sp) (t : TA) : tCall sp [] E0 t = tCal sp t := by
  funext σ H Q
  unfold tCall tCal
  simp only [List.append_nil]
section
variable {X : Cx} {k j : Nat} {x : Str} {sp : Sp} {p pos : Pos} {e : Expr} {es : List Expr} {t : TA}
theorem pe_cal (c : Cal X.prog X.w X.K X.mg X.base k x sp) (hr : Room j X.A) (hk : k ≤ j) (hg : Gl X x) (ha : PA X (e :: es) t) (hdb : (x == ("__debug__" : Str)) = false := by decide)
    (h1 : starEach (e :: es) X.env = (false, eval e X.env) :: starEach es X.env := by rfl) (h2 : (backTo pos (starEach es X.env)).any (·.1) = false := by rfl) : PE X (.Call (.Name x p) (e :: es) [] pos) (tCal sp t) := by
  obtain ⟨f, fd, ps, F, hm, kp, b⟩ := c.ex
  rw [← tCal_eq]
  exact pe_call F (hr.mono hk) hg hm kp b .nil pass0 ha hdb h1 h2
theorem pe_cal0 (c : Cal X.prog X.w X.K X.mg X.base k x sp) (hr : Room j X.A) (hk : k ≤ j) (hg : Gl X x) (hdb : (x == ("__debug__" : Str)) = false := by decide) : PE X (.Call (.Name x p) [] [] pos) (tCal sp tNil) := by
  obtain ⟨f, fd, ps, F, hm, kp, b⟩ := c.ex
  rw [← tCal_eq]
  exact pe_call0 F (hr.mono hk) hg hm kp b .nil pass0 hdb
theorem pe_calS {E : L2.St → XK} (c : CalX X.prog X.w X.K X.mg X.base (L2.CX X.prog X.w) k x sp) (hr : Room j X.A) (hk : k ≤ j) (hg : Gl X x) (hx : ∀ σ, PassesAt (L2.CX X.prog X.w) X σ (E σ)) (ha : PA X (e :: es) t) (hdb : (x == ("__debug__" : Str)) = false := by decide)
    (h1 : starEach (e :: es) X.env = (false, eval e X.env) :: starEach es X.env := by rfl) (h2 : (backTo pos (starEach es X.env)).any (·.1) = false := by rfl) : PE X (.Call (.Name x p) (e :: es) [] pos) (tCallS sp E t) := by
  obtain ⟨f, fd, ps, F, hm, kp, b⟩ := c.ex
  exact pe_callS F (hr.mono hk) hg hm kp b hx ha hdb h1 h2
end
/-! ### heaps -/
theorem Same.upd {H : Hp} {p : Addr} {o : HO} (h : H p = none) : Same H (upd H p o) := fun a u e => by
  rw [upd_ne (ne_of_none e h)]
  exact e
/-- what H does not know may change -/
theorem Same.mut {H H' : Hp} {p : Addr} {o : HO} (e : Same H H') (h : H p = none) : Same H (L2.upd H' p o) := fun a u ha => by
  rw [upd_ne (ne_of_none ha h)]
  exact e a u ha
theorem Same.t {K : PySem.W.Frag} {H H' : Hp} {a : Addr} {xs : List V} (e : Same H H') (h : SqT K H a xs) : SqT K H' a xs := by
  rcases h with (h | ⟨o, h⟩) | h
  · exact .inl (.inl (e _ _ h))
  · exact .inl (.inr ⟨o, e _ _ h⟩)
  · exact .inr h
theorem sz_le {n : Nat} (h : n ≤ 100000) : n ≤ sizeLine := Nat.le_trans h (by decide)
theorem sz_lt {n : Nat} (h : n < 100000) : n < sizeLine := Nat.lt_of_lt_of_le h (by decide)
/-! ### readings, one step each -/
section
variable {K : PySem.W.Frag} {σ : L2.St} {H : Hp} {Q : VK} {D : Ends} {t u : TS} {te ta tb tc : TE} {tA tB' : TT} {g : TG} {gs : TGs} {x y z v : V} {i j n : Nat} {a p : Addr} {xs ys : List V} {ts : TA} {r : R2} {sp : Sp} {QT : Bool → Hp → Prop} {QA : List V → Hp → Prop} {QS : L2.St → Hp → Prop}
theorem i_seq (h : t { D with nx := u D } σ H) : tSeq t u D σ H := h
theorem i_next (h : D.nx σ H) : tNext D σ H := h
theorem i_asg (h : te σ H fun x H1 => g x σ H1 D.nx) : tAsg te g D σ H := h
theorem i_ret (h : te σ H D.rt) : tRet te D σ H := h
theorem i_drop (h : te σ H fun _ H1 => D.nx σ H1) : tDrop te D σ H := h
theorem i_ifS (h : tA σ H fun b H1 => if b = true then t D σ H1 else u D σ H1) : tIfS tA t u D σ H := h
theorem i_if (h : tA σ H fun c H1 => if c = true then ta σ H1 Q else tb σ H1 Q) : tIf tA ta tb σ H Q := h
theorem i_par (h : ts σ H fun vs H1 => ∃ v w, vs = [v, w] ∧ D.nx ((σ.set i (some v)).set j (some w)) H1) : tPar i j ts D σ H := h
theorem i_par3 {l : Nat} (h : ts σ H fun vs H1 => ∃ u v w, vs = [u, v, w] ∧ D.nx (((σ.set i (some u)).set j (some v)).set l (some w)) H1) : tPar3 i j l ts D σ H := h
theorem i_par_e {R : V → V → Prop} (h : R x y) : ∃ v w, [x, y] = [v, w] ∧ R v w := ⟨x, y, rfl, h⟩
theorem i_par3_e {R : V → V → V → Prop} (h : R x y z) : ∃ u v w, [x, y, z] = [u, v, w] ∧ R u v w := ⟨x, y, z, rfl, h⟩
theorem i_nm (h : QS (σ.set i (some v)) H) : gName i v σ H QS := h
theorem i_gtup (hq : SqT K H a xs) (hl : xs.length = n) (h : gs xs σ H QS) : gTup K n gs (.ref a) σ H QS := ⟨a, xs, rfl, hq, hl, h⟩
theorem i_gcons (h : g v σ H fun σ' H' => gs xs σ' H' QS) : gCons g gs (v :: xs) σ H QS := ⟨v, xs, rfl, h⟩
theorem i_gnil (h : QS σ H) : gNil [] σ H QS := ⟨rfl, h⟩
theorem i_gsub {s : TSet} (h : ta σ H fun o H1 => tb σ H1 fun i H2 => s o i v H2 fun H3 => QS σ H3) : gSub ta tb s v σ H QS := h
theorem i_var (e : σ[i]? = some (some v)) (h : Q v H) : tVar i σ H Q := ⟨v, e, h⟩
theorem i_var0 (h : ∃ v, σ[i]? = some (some v) ∧ Q v H) : tVar i σ H Q := h
theorem i_c (h : Q v H) : tC v σ H Q := h
theorem i_op (h : ta σ H fun x H1 => tb σ H1 fun y H2 => r x y H2 Q) : tOp r ta tb σ H Q := h
theorem i_un {rr : V → Hp → VK → Prop} (h : ta σ H fun x H1 => rr x H1 Q) : tUn rr ta σ H Q := h
theorem i_I0 {f : Int → Int → V} {m l : Int} (h : Q (f m l) H) : rI0 f (.int m) (.int l) H Q := ⟨m, l, rfl, rfl, h⟩
theorem i_I {C : Int → Int → Prop} {f : Int → Int → V} {m l : Int} (c : C m l) (h : Q (f m l) H) : rI C f (.int m) (.int l) H Q := ⟨m, l, rfl, rfl, c, h⟩
theorem i_U {f : Int → V} {m : Int} (h : Q (f m) H) : rU f (.int m) H Q := ⟨m, rfl, h⟩
theorem i_eq (s : scal x y = true) (h : Q (.bl (decide (x = y))) H) : rEq x y H Q := ⟨s, h⟩
theorem i_ne (s : scal x y = true) (h : Q (.bl (!decide (x = y))) H) : rNe x y H Q := ⟨s, h⟩
theorem i_ipI {f : Int → Int → Int} {m l : Int} (h : Q (.int (f m l)) H) : ipI f (.int m) (.int l) H Q := ⟨m, l, rfl, rfl, h⟩
theorem i_aug {ti : TIp} (e : σ[i]? = some (some x)) (h : te σ H fun y H1 => ti x y H1 fun z H2 => D.nx (σ.set i (some z)) H2) : tAug i te ti D σ H := ⟨x, e, h⟩
theorem i_aug0 {ti : TIp} (h : ∃ x, σ[i]? = some (some x) ∧ te σ H fun y H1 => ti x y H1 fun z H2 => D.nx (σ.set i (some z)) H2) : tAug i te ti D σ H := h
theorem i_cb {rr : List V → Hp → VK → Prop} (h : ts σ H fun vs H1 => rr vs H1 Q) : tCB rr ts σ H Q := h
theorem i_cal (h : ts σ H fun vs H1 => sp vs H1 Q E0) : tCal sp ts σ H Q := h
theorem i_calS {E : L2.St → XK} (h : ts σ H fun vs H1 => sp vs H1 Q (E σ)) : tCallS sp E ts σ H Q := h
theorem i_nil (h : QA [] H) : tNil σ H QA := h
theorem i_cons (h : ta σ H fun x H1 => ts σ H1 fun xs H2 => QA (x :: xs) H2) : tCons ta ts σ H QA := h
theorem i_test (h : te σ H fun x H' => ∃ k, x = .bl k ∧ QT k H') : tTest te σ H QT := h
theorem i_tB (h : te σ H fun x H' => ∃ k, x = .bl k ∧ QT k H') : tB te σ H QT := h
theorem i_bl {b : Bool} {R : Bool → Prop} (h : R b) : ∃ k, V.bl b = .bl k ∧ R k := ⟨b, rfl, h⟩
theorem i_not (h : tA σ H fun c H1 => QT (!c) H1) : tNot tA σ H QT := h
theorem i_and (h : tA σ H fun c H1 => if c = true then tB' σ H1 QT else QT false H1) : tAnd tA tB' σ H QT := h
theorem i_or (h : tA σ H fun c H1 => if c = true then QT true H1 else tB' σ H1 QT) : tOr tA tB' σ H QT := h
theorem i_andV (h : ta σ H fun x H1 => ∃ c, x = .bl c ∧ if c = true then tb σ H1 Q else Q (.bl false) H1) : tAndV ta tb σ H Q := h
theorem i_orV (h : ta σ H fun x H1 => ∃ c, x = .bl c ∧ if c = true then Q (.bl true) H1 else tb σ H1 Q) : tOrV ta tb σ H Q := h
theorem i_notV (h : ta σ H fun x H1 => ∃ c, x = .bl c ∧ Q (.bl (!c)) H1) : tNotV ta σ H Q := h
theorem i_chain {r' : R2} (h : ta σ H fun x H1 => tb σ H1 fun y H2 => r x y H2 fun z H3 => ∃ k, z = .bl k ∧ (if k = true then tc σ H3 fun w' H4 => r' y w' H4 Q else Q (.bl false) H3)) : tChain r r' ta tb tc σ H Q := h
theorem i_ifT {A B : Prop} (h : A) : if true = true then A else B := iteT h
theorem i_ifF {A B : Prop} (h : B) : if false = true then A else B := iteF h
theorem i_ifNT {A B : Prop} (h : B) : if (!true) = true then A else B := iteF h
theorem i_ifNF {A B : Prop} (h : A) : if (!false) = true then A else B := iteT h
theorem i_ite {b : Bool} {A B : Prop} (h1 : b = true → A) (h2 : b = false → B) : if b = true then A else B := by
  cases b with
  | true => exact iteT (h1 rfl)
  | false => exact iteF (h2 rfl)
theorem i_itd {c : Prop} [Decidable c] {A B : Prop} (h1 : c → A) (h2 : ¬ c → B) : if decide c = true then A else B := i_ite (fun e => h1 (of_decide_eq_true e)) (fun e => h2 (of_decide_eq_false e))
theorem i_itdn {c : Prop} [Decidable c] {A B : Prop} (h1 : ¬ c → A) (h2 : c → B) : if (!decide c) = true then A else B := i_ite (fun e => h1 (of_decide_eq_false (by simpa using e))) (fun e => h2 (of_decide_eq_true (by simpa using e)))
theorem i_pos {b : Bool} {A B : Prop} (hb : b = true) (h : A) : if b = true then A else B := by rw [if_pos hb]; exact h
theorem i_neg {b : Bool} {A B : Prop} (hb : b = false) (h : B) : if b = true then A else B := by rw [hb]; exact iteF h
/-- new objects -/
def kTup (Q : VK) : List V → Hp → Prop := fun xs H1 => xs.length ≤ sizeLine ∧ ∀ p, H1 p = none → Q (.ref p) (upd H1 p (.tup xs))
def kLst (Q : VK) : List V → Hp → Prop := fun xs H1 => xs.length ≤ sizeLine ∧ ∀ p, H1 p = none → Q (.ref p) (upd H1 p (.lst xs))
theorem i_tupn (h : ts σ H (kTup Q)) : tTup ts σ H Q := h
theorem i_lstn (h : ts σ H (kLst Q)) : tLst ts σ H Q := h
theorem i_new {o : HO} (h : ∀ p H', H p = none → Same H H' → H' p = some o → Q (.ref p) H') : ∀ p, H p = none → Q (.ref p) (upd H p o) := fun p hp => h p _ hp (Same.upd hp) upd_same
theorem i_tupk (hz : xs.length ≤ 100000) (h : ∀ p H', H p = none → Same H H' → H' p = some (.tup xs) → Q (.ref p) H') : kTup Q xs H := ⟨sz_le hz, i_new h⟩
theorem i_lstk (hz : xs.length ≤ 100000) (h : ∀ p H', H p = none → Same H H' → H' p = some (.lst xs) → Q (.ref p) H') : kLst Q xs H := ⟨sz_le hz, i_new h⟩
/-- reading lists and tuples -/
theorem i_ixL {m : Int} (hs : SqL K H p xs) (e : atI xs m = some v) (h : Q v H) : rIxL K (.ref p) (.int m) H Q := ⟨p, xs, m, v, rfl, rfl, hs, e, h⟩
theorem i_ixT {m : Int} (hs : SqT K H p xs) (e : atI xs m = some v) (h : Q v H) : rIxT K (.ref p) (.int m) H Q := ⟨p, xs, m, v, rfl, rfl, hs, e, h⟩
theorem i_bm {T : String} {rr : V → List V → Hp → VK → Prop} (h : ta σ H fun x H1 => tyV K T x H1 ∧ ts σ H1 fun ys H2 => rr x ys H2 Q) : tBM K T rr ta ts σ H Q := h
theorem i_bm0 {T : String} {rr : V → List V → Hp → VK → Prop} (h : ta σ H fun x H1 => tyV K T x H1 ∧ rr x [] H1 Q) : tBM0 K T rr ta σ H Q := h
theorem ty_lst (h : H p = some (.lst xs)) : tyV K "list" (.ref p) H := .inl ⟨rfl, xs, .inl (.inl h)⟩
theorem i_app (hp : H p = some (.lst xs)) (hz : xs.length < 100000) (h : Q .non (upd H p (.lst (xs ++ [v])))) : rAppend (.ref p) [v] H Q := ⟨p, xs, v, rfl, rfl, hp, sz_lt hz, h⟩
theorem i_setL {m : Int} {jj : Nat} {QH : Hp → Prop} (hp : H p = some (.lst xs)) (hj : ixN xs.length m = some jj) (h : QH (upd H p (.lst (xs.set jj v)))) : rSetL (.ref p) (.int m) v H QH := ⟨p, xs, m, jj, rfl, rfl, hp, hj, h⟩
theorem ixN_nat {m jj : Nat} (hj : jj < m) : ixN m (jj : Int) = some jj := by
  unfold ixN
  rw [if_pos (by omega), if_pos (by omega)]
  simp
theorem i_sl {rs : V → Option Int → Option Int → Hp → VK → Prop} {tl th : L2.St → Hp → (Option Int → Hp → Prop) → Prop} (h : ta σ H fun x H1 => tl σ H1 fun l H2 => th σ H2 fun u H3 => rs x l u H3 Q) : tSl rs ta tl th σ H Q := h
theorem i_noP {QO : Option Int → Hp → Prop} (h : QO none H) : tNoPart σ H QO := h
theorem i_part {QO : Option Int → Hp → Prop} (h : ta σ H fun x H1 => ∃ i, x = .int i ∧ QO (some i) H1) : tPart ta σ H QO := h
theorem i_int {m : Int} {R : Int → Prop} (h : R m) : ∃ i, V.int m = .int i ∧ R i := ⟨m, rfl, h⟩
end
/-! ### loops -/
section
variable {K : PySem.W.Frag} {σ : L2.St} {H : Hp} {D : Ends} {t : TS} {ta : TE} {g : TG} {a b : Addr} {xs ys : List V} {ts : TA} {wi : TI} {R : It → Hp → Prop}
theorem i_for (h : wi σ H fun J H1 => ∃ W : Nat → Nat → L2.St → Hp → Prop, (∃ m, W 0 m σ H1) ∧ ∀ i m σ H, W i m σ H →
  (J.stop i H ∧ D.nx σ H) ∨ (J.go i H ∧ ∃ N : L2.St → Hp → Prop, (∀ σ' H', N σ' H' → ∃ m', m' < m ∧ W (i + 1) m' σ' H') ∧ ∀ x H', J.yld i H x H' → g x σ H' fun σ2 H2 => t { D with nx := N, ct := N, bk := D.nx } σ2 H2)) : tFor wi g t D σ H := h
def kItl (K : PySem.W.Frag) (R : It → Hp → Prop) : V → Hp → Prop := fun x H1 => ∃ a, x = .ref a ∧ (∃ xs, SqL K H1 a xs) ∧ R (Itl K a) H1
def kItt (K : PySem.W.Frag) (R : It → Hp → Prop) : V → Hp → Prop := fun x H1 => ∃ a, x = .ref a ∧ (∃ xs, SqT K H1 a xs) ∧ R (Itt K a) H1
def kItr (R : It → Hp → Prop) : List V → Hp → Prop := fun vs H1 => ∃ j : Int, vs = [.int j] ∧ -(2 ^ 62) ≤ j ∧ j < 2 ^ 62 ∧ R (Itr 0 j.toNat) H1
def kIte (K : PySem.W.Frag) (R : It → Hp → Prop) : List V → Hp → Prop := fun vs H1 => ∃ a xs, vs = [.ref a] ∧ SqL K H1 a xs ∧ R (Ite K a) H1
def kItz (K : PySem.W.Frag) (R : It → Hp → Prop) : List V → Hp → Prop := fun vs H1 => ∃ a b xs ys, vs = [.ref a, .ref b] ∧ SqL K H1 a xs ∧ SqL K H1 b ys ∧ R (Itz K a b) H1
theorem i_iList (h : ta σ H (kItl K R)) : iList K ta σ H R := h
theorem i_itl (hs : SqL K H a xs) (h : R (Itl K a) H) : kItl K R (.ref a) H := ⟨a, rfl, ⟨xs, hs⟩, h⟩
theorem i_iTup (h : ta σ H (kItt K R)) : iTup K ta σ H R := h
theorem i_itt (hs : SqT K H a xs) (h : R (Itt K a) H) : kItt K R (.ref a) H := ⟨a, rfl, ⟨xs, hs⟩, h⟩
theorem i_iRng1 (h : ts σ H (kItr R)) : iRng1 ts σ H R := h
theorem i_itr {m : Nat} {k : Int} (e : k = (m : Int)) (hm : m ≤ 100000) (h : R (Itr 0 m) H) : kItr R [.int k] H := by
  subst e
  exact ⟨(m : Int), rfl, by omega, by omega, h⟩
theorem i_iEnum (h : ts σ H (kIte K R)) : iEnum K ts σ H R := h
theorem i_itn (hs : SqL K H a xs) (h : R (Ite K a) H) : kIte K R [.ref a] H := ⟨a, xs, rfl, hs, h⟩
theorem i_iZip (h : ts σ H (kItz K R)) : iZip K ts σ H R := h
theorem i_itz (hs : SqL K H a xs) (hs' : SqL K H b ys) (h : R (Itz K a b) H) : kItz K R [.ref a, .ref b] H := ⟨a, b, xs, ys, rfl, hs, hs', h⟩
/-- for i, x in enumerate(xs) -/
theorem for_enum (Pv : Nat → L2.St → Hp → Prop) (h0 : Pv 0 σ H) (hl : ∀ i σ H, Pv i σ H → SqL K H a xs)
    (hs : ∀ (i : Nat) (x : V) (T : Addr) (σ : L2.St) (H H' : Hp), xs[i]? = some x → Pv i σ H → H T = none → Same H H' → H' = upd H T (.tup [.int (i : Nat), x]) → g (.ref T) σ H' fun σ2 H2 => t { D with nx := Pv (i + 1), ct := Pv (i + 1), bk := D.nx } σ2 H2)
    (hd : ∀ σ H, Pv xs.length σ H → D.nx σ H) : ∃ W : Nat → Nat → L2.St → Hp → Prop, (∃ m, W 0 m σ H) ∧ ∀ i m σ H, W i m σ H →
      ((Ite K a).stop i H ∧ D.nx σ H) ∨ ((Ite K a).go i H ∧ ∃ N : L2.St → Hp → Prop, (∀ σ' H', N σ' H' → ∃ m', m' < m ∧ W (i + 1) m' σ' H') ∧ ∀ v H', (Ite K a).yld i H v H' → g v σ H' fun σ2 H2 => t { D with nx := N, ct := N, bk := D.nx } σ2 H2) := by
  refine ⟨fun i m σ H => m = xs.length - i ∧ i ≤ xs.length ∧ Pv i σ H, ⟨xs.length, rfl, Nat.zero_le _, h0⟩, ?_⟩
  rintro i m σ H ⟨rfl, hi, p⟩
  have q := hl i σ H p
  by_cases hlt : i < xs.length
  · refine .inr ⟨⟨xs, xs[i], q, List.getElem?_eq_getElem hlt⟩, Pv (i + 1), fun σ' H' p' => ⟨xs.length - (i + 1), by omega, rfl, hlt, p'⟩, fun v H' y => ?_⟩
    obtain ⟨T, x, rfl, nT, rfl, fx⟩ := y
    exact hs i x T σ H _ (fx xs q) p nT (Same.upd nT) rfl
  · have e : i = xs.length := by omega
    subst e
    exact .inl ⟨⟨xs, q, Nat.le_refl _⟩, hd σ H p⟩
end
/-! ### comprehensions -/
section
variable {K : PySem.W.Frag} {σ : L2.St} {H H1 : Hp} {te : TE} {tt : TT} {g : TG} {a D : Addr} {xs : List V} {wi : TI} {vs : List Nat} {Q : VK} {Qd : Hp → Prop}
theorem i_lc (h : wi σ H fun J H1 => ∀ D, H1 D = none → ∃ W : Nat → Nat → Hp → Prop, (∃ m, W 0 m (upd H1 D (.lst []))) ∧ ∀ i m H, W i m H →
  (J.stop i H ∧ Q (.ref D) H) ∨ (J.go i H ∧ ∃ Nx : Hp → Prop, (∀ H', Nx H' → ∃ m', m' < m ∧ W (i + 1) m' H') ∧ ∀ x H', J.yld i H x H' → g x (wipe σ vs) H' fun σ2 H2 => wipe σ2 vs = wipe σ vs ∧ tt σ2 H2 fun b H3 =>
    if b = true then te σ2 H3 fun y H4 => ∃ acc, H4 D = some (.lst acc) ∧ acc.length < sizeLine ∧ Nx (upd H4 D (.lst (acc ++ [y]))) else Nx H3)) : tLc wi g tt te vs σ H Q := h
theorem take_snoc {α : Type} {l : List α} {i : Nat} {x : α} (h : l[i]? = some x) : l.take (i + 1) = l.take i ++ [x] := by
  rw [List.take_add_one, h]; rfl
/-- what is told of tuples stays -/
def SameT (K : PySem.W.Frag) (H H' : Hp) : Prop := ∀ p xs, SqT K H p xs → SqT K H' p xs
theorem smT {K : PySem.W.Frag} {H H' : Hp} (e : Same H H') : SameT K H H' := fun _ _ h => Same.t e h
theorem sameT_lst {K : PySem.W.Frag} {H : Hp} {D : Addr} {ys zs : List V} (h : H D = some (.lst ys)) : SameT K H (upd H D (.lst zs)) := fun p xs q => by
  rcases q with (q | ⟨o, q⟩) | q
  · exact .inl (.inl (by rw [upd_ne (ne_of q h (by intro z; cases z))]; exact q))
  · exact .inl (.inr ⟨o, by rw [upd_ne (ne_of q h (by intro z; cases z))]; exact q⟩)
  · exact .inr q
theorem i_yes {QT : Bool → Hp → Prop} (h : QT true H) : tYes σ H QT := h
/-- an iterator that yields xs, one by one, as long as ok holds -/
structure Sqn (J : It) (xs : List V) (ok : Hp → Prop) : Prop where
  go : ∀ i x H, ok H → xs[i]? = some x → J.go i H
  yld : ∀ i x H H', ok H → J.yld i H x H' → H' = H ∧ xs[i]? = some x
  stop : ∀ i H, ok H → xs.length ≤ i → J.stop i H
theorem sqn_l : Sqn (Itl K a) xs (fun H => SqL K H a xs) := ⟨fun i x H h e => ⟨xs, x, h, e⟩, fun i x H H' h y => ⟨y.1, y.2 xs h⟩, fun i H h l => ⟨xs, h, l⟩⟩
theorem sqn_t : Sqn (Itt K a) xs (fun H => SqT K H a xs) := ⟨fun i x H h e => ⟨xs, x, h, e⟩, fun i x H H' h y => ⟨y.1, y.2 xs h⟩, fun i H h l => ⟨xs, h, l⟩⟩
theorem lc_seq {J : It} {ok : Hp → Prop} (S : Sqn J xs ok) (Pv : Nat → Hp → Prop) (h0 : Pv 0 (upd H1 D (.lst []))) (hl : ∀ i H, Pv i H → ok H)
    (hs : ∀ i x H, xs[i]? = some x → Pv i H → g x (wipe σ vs) H fun σ2 H2 => wipe σ2 vs = wipe σ vs ∧ tt σ2 H2 fun b H3 =>
      if b = true then te σ2 H3 fun y H4 => ∃ acc, H4 D = some (.lst acc) ∧ acc.length < sizeLine ∧ Pv (i + 1) (upd H4 D (.lst (acc ++ [y]))) else Pv (i + 1) H3) (hd : ∀ H, Pv xs.length H → Qd H) :
    ∃ W : Nat → Nat → Hp → Prop, (∃ m, W 0 m (upd H1 D (.lst []))) ∧ ∀ i m H, W i m H →
      (J.stop i H ∧ Qd H) ∨ (J.go i H ∧ ∃ Nx : Hp → Prop, (∀ H', Nx H' → ∃ m', m' < m ∧ W (i + 1) m' H') ∧ ∀ x H', J.yld i H x H' → g x (wipe σ vs) H' fun σ2 H2 => wipe σ2 vs = wipe σ vs ∧ tt σ2 H2 fun b H3 =>
        if b = true then te σ2 H3 fun y H4 => ∃ acc, H4 D = some (.lst acc) ∧ acc.length < sizeLine ∧ Nx (upd H4 D (.lst (acc ++ [y]))) else Nx H3) := by
  refine ⟨fun i m H => m = xs.length - i ∧ i ≤ xs.length ∧ Pv i H, ⟨xs.length, rfl, Nat.zero_le _, h0⟩, ?_⟩
  rintro i m H ⟨rfl, hi, p⟩
  have q := hl i H p
  by_cases hlt : i < xs.length
  · refine .inr ⟨S.go i _ H q (List.getElem?_eq_getElem hlt), Pv (i + 1), fun H' p' => ⟨xs.length - (i + 1), by omega, rfl, hlt, p'⟩, fun x H' y => ?_⟩
    obtain ⟨e, hx⟩ := S.yld i x H H' q y
    rw [e]
    exact hs i x _ hx p
  · have e : i = xs.length := by omega
    subst e
    exact .inl ⟨S.stop _ H q (Nat.le_refl _), hd H p⟩
/-- [e for x in xs]: each item gives one, R tells which -/
theorem lc_map (R : Nat → V → Hp → Prop) (mono : ∀ {i : Nat} {y : V} {H H' : Hp}, SameT K H H' → R i y H → R i y H') {J : It} {ok : Hp → Prop} (S : Sqn J xs ok) (hs : ∀ H, Same H1 H → ok H) (hz : xs.length < 100000) (hD : H1 D = none)
    (turn : ∀ (i : Nat) (x : V) (H : Hp) (Qc : VK) (Qn : Hp → Prop), xs[i]? = some x → Same H1 H → (∀ y H', Same H H' → R i y H' → Qc y H') → g x (wipe σ vs) H fun σ2 H2 => wipe σ2 vs = wipe σ vs ∧ tYes σ2 H2 fun b H3 => if b = true then te σ2 H3 Qc else Qn H3)
    (hd : ∀ ys H, Same H1 H → H D = some (.lst ys) → ys.length = xs.length → (∀ (i : Nat) (y : V), ys[i]? = some y → R i y H) → Qd H) :
    ∃ W : Nat → Nat → Hp → Prop, (∃ m, W 0 m (upd H1 D (.lst []))) ∧ ∀ i m H, W i m H →
      (J.stop i H ∧ Qd H) ∨ (J.go i H ∧ ∃ Nx : Hp → Prop, (∀ H', Nx H' → ∃ m', m' < m ∧ W (i + 1) m' H') ∧ ∀ x H', J.yld i H x H' → g x (wipe σ vs) H' fun σ2 H2 => wipe σ2 vs = wipe σ vs ∧ tYes σ2 H2 fun b H3 =>
        if b = true then te σ2 H3 fun y H4 => ∃ acc, H4 D = some (.lst acc) ∧ acc.length < sizeLine ∧ Nx (upd H4 D (.lst (acc ++ [y]))) else Nx H3) := by
  refine lc_seq S (fun i H => Same H1 H ∧ ∃ ys, H D = some (.lst ys) ∧ ys.length = i ∧ i ≤ xs.length ∧ ∀ (j : Nat) (y : V), ys[j]? = some y → R j y H) ?_ ?_ ?_ ?_
  · exact ⟨Same.upd hD, [], upd_same, rfl, Nat.zero_le _, fun j y h => by simp at h⟩
  · rintro i H ⟨s, _⟩
    exact hs H s
  · rintro i x H hx ⟨s, ys, hy, hl, hi, hR⟩
    refine turn i x H _ _ hx s fun y H' s' r => ?_
    have hi' : i < xs.length := (List.getElem?_eq_some_iff.mp hx).1
    have hy' := s' _ _ hy
    refine ⟨ys, hy', sz_lt (by omega), Same.mut (s.trans s') hD, ys ++ [y], upd_same, by rw [List.length_append, hl]; rfl, hi', fun j u hu => ?_⟩
    have up : SameT K H' (upd H' D (.lst (ys ++ [y]))) := sameT_lst hy'
    by_cases hj : j < ys.length
    · rw [List.getElem?_append_left hj] at hu
      exact mono up (mono (smT s') (hR j u hu))
    · have ej : j = i := by
        have h1 := (List.getElem?_eq_some_iff.mp hu).1
        rw [List.length_append] at h1
        simp at h1
        omega
      subst ej
      rw [List.getElem?_append_right (by omega), hl, Nat.sub_self] at hu
      have e2 : y = u := Option.some.inj hu
      subst e2
      exact mono up r
  · rintro H ⟨s, ys, hy, hl, _, hR⟩
    exact hd ys H s hy hl hR
/-- [f(x) for x in xs if p(x)] -/
theorem lc_fm (p : V → Bool) (f : V → V) {J : It} {ok : Hp → Prop} (S : Sqn J xs ok) (hs : ∀ H, Same H1 H → ok H) (hz : xs.length < 100000) (hD : H1 D = none)
    (turn : ∀ (i : Nat) (x : V) (H : Hp) (Qc : VK) (Qn : Hp → Prop), xs[i]? = some x → Same H1 H → (p x = true → ∀ H', Same H H' → Qc (f x) H') → (p x = false → ∀ H', Same H H' → Qn H') → g x (wipe σ vs) H fun σ2 H2 => wipe σ2 vs = wipe σ vs ∧ tt σ2 H2 fun b H3 => if b = true then te σ2 H3 Qc else Qn H3)
    (hd : ∀ H, Same H1 H → H D = some (.lst ((xs.filter p).map f)) → Qd H) :
    ∃ W : Nat → Nat → Hp → Prop, (∃ m, W 0 m (upd H1 D (.lst []))) ∧ ∀ i m H, W i m H →
      (J.stop i H ∧ Qd H) ∨ (J.go i H ∧ ∃ Nx : Hp → Prop, (∀ H', Nx H' → ∃ m', m' < m ∧ W (i + 1) m' H') ∧ ∀ x H', J.yld i H x H' → g x (wipe σ vs) H' fun σ2 H2 => wipe σ2 vs = wipe σ vs ∧ tt σ2 H2 fun b H3 =>
        if b = true then te σ2 H3 fun y H4 => ∃ acc, H4 D = some (.lst acc) ∧ acc.length < sizeLine ∧ Nx (upd H4 D (.lst (acc ++ [y]))) else Nx H3) := by
  refine lc_seq S (fun i H => Same H1 H ∧ i ≤ xs.length ∧ H D = some (.lst (((xs.take i).filter p).map f))) ?_ ?_ ?_ ?_
  · exact ⟨Same.upd hD, Nat.zero_le _, upd_same⟩
  · rintro i H ⟨s, _⟩
    exact hs H s
  · rintro i x H hx ⟨s, hi, hy⟩
    have hi' : i < xs.length := (List.getElem?_eq_some_iff.mp hx).1
    have hl : (((xs.take i).filter p).map f).length < 100000 := by
      rw [List.length_map]
      have h1 := List.length_filter_le p (xs.take i)
      rw [List.length_take] at h1
      omega
    refine turn i x H _ _ hx s (fun hp H' s' => ⟨_, s' _ _ hy, sz_lt hl, Same.mut (s.trans s') hD, hi', ?_⟩) (fun hp H' s' => ⟨s.trans s', hi', ?_⟩)
    · rw [take_snoc hx, List.filter_append, List.map_append, List.filter_cons_of_pos hp]
      exact upd_same
    · rw [take_snoc hx, List.filter_append, List.map_append, List.filter_cons_of_neg (by rw [hp]; decide)]
      have e := s' _ _ hy
      rw [e]
      simp
  · rintro H ⟨s, _, hy⟩
    rw [List.take_length] at hy
    exact hd H s hy
end
/-- a list of Trues -/
theorem all_true {ys : List V} {n : Nat} (hl : ys.length = n) (h : ∀ (i : Nat) (y : V), ys[i]? = some y → y = .bl true) : ys = (List.replicate n true).map V.bl := by
  rw [List.map_replicate]
  exact List.eq_replicate_iff.mpr ⟨hl, fun y hy => by
    obtain ⟨i, hi, e⟩ := List.getElem_of_mem hy
    exact h i y (by rw [List.getElem?_eq_getElem hi, e])⟩
/-! ### isinstance, things, pairs -/
section
variable {K : PySem.W.Frag} {σ : L2.St} {H H' : Hp} {Q : VK} {x v : V} {a p : Addr} {xs ys : List V} {m l : Int} {c b : Bool}
theorem i_eqI (h : Q (.bl (decide (m = l))) H) : rEq (.int m) (.int l) H Q := ⟨rfl, by
  have e : decide (V.int m = V.int l) = decide (m = l) := by
    by_cases h : m = l
    · subst h; simp
    · rw [decide_eq_false h, decide_eq_false (fun q => h (V.int.inj q))]
  rw [e]; exact h⟩
theorem i_neI (h : Q (.bl (!decide (m = l))) H) : rNe (.int m) (.int l) H Q := ⟨rfl, by
  have e : decide (V.int m = V.int l) = decide (m = l) := by
    by_cases h : m = l
    · subst h; simp
    · rw [decide_eq_false h, decide_eq_false (fun q => h (V.int.inj q))]
  rw [e]; exact h⟩
theorem i_isi {T : String} {y : String} {r : Bool} (ty : TyX K H x (.type T)) (kb : kitB T y = some r) (h : Q (.bl r) H) : rIsi K [x, .ty y] H Q := ⟨x, .ty y, .type T, .type y, r, rfl, .ty y, ty, kit_ty kb, h⟩
theorem ty_int : TyX K H (.int m) (.type "int") := .base (.int m)
theorem ty_list (h : H p = some (.lst xs)) : TyX K H (.ref p) (.type "list") := .base (.lst h)
theorem ty_sqL (h : SqL K H p xs) : TyX K H (.ref p) (.type "list") := by
  rcases h with (h | ⟨o, h⟩) | ⟨o, its, n, h1, h2, _⟩
  · exact .base (.lst h)
  · exact .base (.frz h)
  · exact .kList h1 h2
theorem ty_sqT (h : SqT K H p xs) : TyX K H (.ref p) (.type "tuple") := by
  rcases h with (h | ⟨o, h⟩) | ⟨o, its, n, h1, h2, _⟩
  · exact .base (.tup h)
  · exact .fTuple h
  · exact .kTuple h1 h2
/-- v is a tuple of these three lengths -/
def IsT (K : PySem.W.Frag) (H : Hp) (v : V) (t : T3) : Prop := ∃ p, v = .ref p ∧ SqT K H p [.int t.1, .int t.2.1, .int t.2.2]
/-- v is a pair of whole numbers -/
def IsP (K : PySem.W.Frag) (H : Hp) (v : V) (t : Int × Int) : Prop := ∃ p, v = .ref p ∧ SqT K H p [.int t.1, .int t.2]
theorem IsT.mono {t : T3} (e : SameT K H H') (h : IsT K H v t) : IsT K H' v t := let ⟨p, e1, h1⟩ := h; ⟨p, e1, e _ _ h1⟩
theorem IsP.mono {t : Int × Int} (e : SameT K H H') (h : IsP K H v t) : IsP K H' v t := let ⟨p, e1, h1⟩ := h; ⟨p, e1, e _ _ h1⟩
/-- item by item -/
structure All2 {α β : Type} (R : α → β → Prop) (xs : List α) (ys : List β) : Prop where
  len : xs.length = ys.length
  get : ∀ (i : Nat) (x : α) (y : β), xs[i]? = some x → ys[i]? = some y → R x y
theorem All2.mono {α β : Type} {R R' : α → β → Prop} {xs : List α} {ys : List β} (f : ∀ x y, R x y → R' x y) (h : All2 R xs ys) : All2 R' xs ys := ⟨h.len, fun i x y a b => f x y (h.get i x y a b)⟩
theorem All2.nil {α β : Type} {R : α → β → Prop} : All2 R [] [] := ⟨rfl, fun i x y h => by simp at h⟩
theorem All2.at_ {α β : Type} {R : α → β → Prop} {xs : List α} {ys : List β} (h : All2 R xs ys) {i : Nat} {y : β} (e : ys[i]? = some y) : ∃ x, xs[i]? = some x ∧ R x y := by
  have hi : i < xs.length := by rw [h.len]; exact (List.getElem?_eq_some_iff.mp e).1
  exact ⟨xs[i], List.getElem?_eq_getElem hi, h.get i _ _ (List.getElem?_eq_getElem hi) e⟩
theorem All2.at' {α β : Type} {R : α → β → Prop} {xs : List α} {ys : List β} (h : All2 R xs ys) {i : Nat} {x : α} (e : xs[i]? = some x) : ∃ y, ys[i]? = some y ∧ R x y := by
  have hi : i < ys.length := by rw [← h.len]; exact (List.getElem?_eq_some_iff.mp e).1
  exact ⟨ys[i], List.getElem?_eq_getElem hi, h.get i _ _ e (List.getElem?_eq_getElem hi)⟩
theorem All2.snoc {α β : Type} {R : α → β → Prop} {xs : List α} {ys : List β} {x : α} {y : β} (h : All2 R xs ys) (r : R x y) : All2 R (xs ++ [x]) (ys ++ [y]) := by
  refine ⟨by rw [List.length_append, List.length_append, h.len]; rfl, fun i z u h1 h2 => ?_⟩
  by_cases hi : i < xs.length
  · rw [List.getElem?_append_left hi] at h1
    rw [List.getElem?_append_left (by rw [← h.len]; exact hi)] at h2
    exact h.get i z u h1 h2
  · have k1 := (List.getElem?_eq_some_iff.mp h1).1
    rw [List.length_append, List.length_singleton] at k1
    have e : i = xs.length := by omega
    subst e
    rw [List.getElem?_append_right (Nat.le_refl _), Nat.sub_self] at h1
    rw [List.getElem?_append_right (by rw [h.len]; exact Nat.le_refl _), h.len, Nat.sub_self] at h2
    cases h1
    cases h2
    exact r
theorem All2.set {α β : Type} {R : α → β → Prop} {xs : List α} {ys : List β} {x : α} {y : β} {k : Nat} (h : All2 R xs ys) (r : R x y) : All2 R (xs.set k x) (ys.set k y) := by
  refine ⟨by rw [List.length_set, List.length_set, h.len], fun i z u h1 h2 => ?_⟩
  by_cases hi : k = i
  · subst hi
    rw [List.getElem?_set] at h1 h2
    rw [if_pos rfl] at h1 h2
    split at h1
    · split at h2
      · cases h1; cases h2; exact r
      · cases h2
    · cases h1
  · rw [List.getElem?_set_ne hi] at h1 h2
    exact h.get i z u h1 h2
theorem All2.rep {α β : Type} {R : α → β → Prop} {x : α} {y : β} (n : Nat) (r : R x y) : All2 R (List.replicate n x) (List.replicate n y) := by
  refine ⟨by rw [List.length_replicate, List.length_replicate], fun i z u h1 h2 => ?_⟩
  have hi : i < n := by
    have := (List.getElem?_eq_some_iff.mp h1).1
    rwa [List.length_replicate] at this
  rw [List.getElem?_replicate, if_pos hi] at h1 h2
  cases h1
  cases h2
  exact r
theorem All2.take {α β : Type} {R : α → β → Prop} {xs : List α} {ys : List β} (h : All2 R xs ys) (n : Nat) : All2 R (xs.take n) (ys.take n) := by
  refine ⟨by rw [List.length_take, List.length_take, h.len], fun i x y h1 h2 => ?_⟩
  rw [List.getElem?_take] at h1 h2
  split at h1
  · exact h.get i x y h1 (by rw [if_pos (by assumption)] at h2; exact h2)
  · cases h1
theorem All2.drop {α β : Type} {R : α → β → Prop} {xs : List α} {ys : List β} (h : All2 R xs ys) (n : Nat) : All2 R (xs.drop n) (ys.drop n) := by
  refine ⟨by rw [List.length_drop, List.length_drop, h.len], fun i x y h1 h2 => ?_⟩
  rw [List.getElem?_drop] at h1 h2
  exact h.get _ x y h1 h2
theorem All2.app {α β : Type} {R : α → β → Prop} {xs xs' : List α} {ys ys' : List β} (h : All2 R xs ys) (h' : All2 R xs' ys') : All2 R (xs ++ xs') (ys ++ ys') := by
  refine ⟨by rw [List.length_append, List.length_append, h.len, h'.len], fun i x y h1 h2 => ?_⟩
  by_cases hi : i < xs.length
  · rw [List.getElem?_append_left hi] at h1
    rw [List.getElem?_append_left (by rw [← h.len]; exact hi)] at h2
    exact h.get i x y h1 h2
  · rw [List.getElem?_append_right (by omega)] at h1
    rw [List.getElem?_append_right (by rw [← h.len]; omega), ← h.len] at h2
    exact h'.get _ x y h1 h2
theorem All2.rev {α β : Type} {R : α → β → Prop} {xs : List α} {ys : List β} (h : All2 R xs ys) : All2 R xs.reverse ys.reverse := by
  refine ⟨by rw [List.length_reverse, List.length_reverse, h.len], fun i x y h1 h2 => ?_⟩
  have hi : i < xs.length := by
    have := (List.getElem?_eq_some_iff.mp h1).1
    rwa [List.length_reverse] at this
  rw [List.getElem?_reverse hi] at h1
  rw [List.getElem?_reverse (by rw [← h.len]; exact hi), ← h.len] at h2
  exact h.get _ x y h1 h2
abbrev ThL (K : PySem.W.Frag) (H : Hp) (vs : List V) (ts : List T3) : Prop := All2 (IsT K H) vs ts
abbrev PrL (K : PySem.W.Frag) (H : Hp) (vs : List V) (ps : List (Int × Int)) : Prop := All2 (IsP K H) vs ps
theorem ThL.mono {ts : List T3} (e : SameT K H H') (h : ThL K H xs ts) : ThL K H' xs ts := All2.mono (fun _ _ r => r.mono e) h
theorem PrL.mono {ps : List (Int × Int)} (e : SameT K H H') (h : PrL K H xs ps) : PrL K H' xs ps := All2.mono (fun _ _ r => r.mono e) h
/-- at a stands a list of things -/
def Things (K : PySem.W.Frag) (H : Hp) (a : Addr) (ts : List T3) : Prop := ∃ vs, SqL K H a vs ∧ ThL K H vs ts
theorem Things.mono {ts : List T3} (e : Same H H') (h : Things K H a ts) : Things K H' a ts := let ⟨vs, h1, h2⟩ := h; ⟨vs, e.seq h1, ThL.mono (smT e) h2⟩
theorem Things.at_ {ts : List T3} {k : Nat} {t : T3} (h : Things K H a ts) (e : ts[k]? = some t) : ∃ vs p, SqL K H a vs ∧ atI vs (k : Int) = some (.ref p) ∧ SqT K H p [.int t.1, .int t.2.1, .int t.2.2] := by
  obtain ⟨vs, h1, h2⟩ := h
  obtain ⟨x, ex, p, rfl, hp⟩ := h2.at_ e
  exact ⟨vs, p, h1, atI_nat ex, hp⟩
/-- things[k] -/
theorem i_thing {ts : List T3} {k : Nat} {t : T3} (h : Things K H a ts) (e : ts[k]? = some t) (q : ∀ p, SqT K H p [.int t.1, .int t.2.1, .int t.2.2] → Q (.ref p) H) : rIxL K (.ref a) (.int (k : Int)) H Q := by
  obtain ⟨vs, p, h1, h2, h3⟩ := h.at_ e
  exact i_ixL h1 h2 (q p h3)
theorem zs_at {os : List Nat} {i : Nat} {x : V} (h : ((zs os).map V.int)[i]? = some x) : ∃ k, os[i]? = some k ∧ x = .int (k : Int) := by
  unfold zs at h
  rw [List.map_map, List.getElem?_map] at h
  cases e : os[i]? with
  | none => rw [e] at h; cases h
  | some k => rw [e] at h; exact ⟨k, rfl, (Option.some.inj h).symm⟩
theorem zs_len' (os : List Nat) : ((zs os).map V.int).length = os.length := by rw [List.length_map, zs_len]
end
/-! ### calls of built-ins, their relations by names -/
def rLenB (K : PySem.W.Frag) : List V → Hp → VK → Prop := fun xs H Q => ∃ p ys, xs = [.ref p] ∧ (SqL K H p ys ∨ SqT K H p ys) ∧ Q (.int ys.length) H
def rMax2 : List V → Hp → VK → Prop := fun xs H Q => ∃ i j, xs = [.int i, .int j] ∧ Q (.int (if j > i then j else i)) H
def rListB (K : PySem.W.Frag) : List V → Hp → VK → Prop := fun xs H Q => ∃ p ys, xs = [.ref p] ∧ (SqL K H p ys ∨ SqT K H p ys) ∧ ∀ l, H l = none → Q (.ref l) (upd H l (.lst ys))
def rIns : V → List V → Hp → VK → Prop := fun x vs H Q => ∃ (l : Addr) (xs : List V) (i : Int) (y : V), x = .ref l ∧ vs = [.int i, y] ∧ H l = some (.lst xs) ∧ xs.length < sizeLine ∧ 0 ≤ i ∧ i < 2 ^ 63 ∧ Q .non (upd H l (.lst (xs.take i.toNat ++ [y] ++ xs.drop i.toNat)))
section
variable {X : Cx}
theorem cb_len : CallR X (.builtin "len") (rLenB X.K) := call_len_seq
theorem cb_max2 (hc : X.calm = true) : CallR X (.builtin "max") rMax2 := call_max2 hc
theorem cb_list : CallR X (.type "list") (rListB X.K) := call_list_of
theorem mt_ins : MtR X "list.insert" rIns := mt_insert
end
section
variable {K : PySem.W.Frag} {H : Hp} {Q : VK} {a p : Addr} {xs : List V} {v : V} {m l : Int} {n : Nat}
theorem i_lenL (hs : SqL K H p xs) (h : Q (.int xs.length) H) : rLenB K [.ref p] H Q := ⟨p, xs, rfl, .inl hs, h⟩
theorem i_lenT (hs : SqT K H p xs) (h : Q (.int xs.length) H) : rLenB K [.ref p] H Q := ⟨p, xs, rfl, .inr hs, h⟩
theorem i_lenThings {ts : List T3} (hT : Things K H a ts) (h : Q (.int ts.length) H) : rLenB K [.ref a] H Q := by
  obtain ⟨vs, h1, h2⟩ := hT
  exact ⟨a, vs, rfl, .inl h1, by rw [h2.len]; exact h⟩
theorem i_max2 (h : Q (.int (gr m l)) H) : rMax2 [.int m, .int l] H Q := ⟨m, l, rfl, h⟩
theorem i_listL (hs : SqL K H p xs) (h : ∀ l H', H l = none → Same H H' → H' l = some (.lst xs) → Q (.ref l) H') : rListB K [.ref p] H Q := ⟨p, xs, rfl, .inl hs, i_new h⟩
theorem i_ins {i : Nat} (hp : H p = some (.lst xs)) (hz : xs.length < 100000) (e : m = (i : Int)) (hi : i ≤ 100000) (h : Q .non (upd H p (.lst (xs.take i ++ [v] ++ xs.drop i)))) : rIns (.ref p) [.int m, v] H Q := by
  subst e
  exact ⟨p, xs, _, v, rfl, rfl, hp, sz_lt hz, by omega, by omega, h⟩
theorem i_all {bs : List Bool} (hs : SqL K H a (bs.map V.bl)) (h : Q (.bl (bs.all id)) H) : rAll K [.ref a] H Q := ⟨a, bs, rfl, hs, h⟩
theorem i_any {bs : List Bool} (hs : SqL K H a (bs.map V.bl)) (h : Q (.bl (bs.any id)) H) : rAny K [.ref a] H Q := ⟨a, bs, rfl, hs, h⟩
theorem i_sum {ns : List Int} (hs : SqL K H a (ns.map V.int)) (h : Q (.int ns.sum) H) : rSum K [.ref a] H Q := ⟨a, ns, rfl, hs, h⟩
theorem i_allT {n : Nat} (hs : H a = some (.lst ((List.replicate n true).map V.bl))) (h : Q (.bl true) H) : rAll K [.ref a] H Q := i_all (bs := List.replicate n true) (SqL.of hs) (by
  have e : (List.replicate n true).all id = true := List.all_eq_true.mpr fun b hb => (List.mem_replicate.mp hb).2
  rw [e]; exact h)
/-- sorted of whole numbers -/
theorem i_sortI {ns : List Int} (hs : SqL K H a (ns.map V.int)) (h : ∀ (ns' : List Int) (p : Addr) (H' : Hp), ns'.Perm ns → ns'.Pairwise (· ≤ ·) → H p = none → Same H H' → H' p = some (.lst (ns'.map V.int)) → Q (.ref p) H') : rSortedI K [.ref a] H Q :=
  ⟨a, ns, rfl, hs, fun ns' p h1 h2 np => h ns' p _ h1 h2 np (Same.upd np) upd_same⟩
/-- list(range(n)) -/
def kRg (Q : VK) : VK := fun x H1 => ∃ m, x = .int m ∧ RgOk 0 m ∧ ∀ q, H1 q = none → Q (.ref q) (upd H1 q (.lst (rgV 0 m)))
theorem i_listRg {te : TE} {σ : L2.St} (h : te σ H (kRg Q)) : tLstRg (tRg1 te) σ H Q := h
theorem i_rg (e : m = (n : Int)) (hn : n ≤ 100000) (h : ∀ q H', H q = none → Same H H' → H' q = some (.lst ((rg n).map V.int)) → Q (.ref q) H') : kRg Q (.int m) H := by
  subst e
  refine ⟨(n : Int), rfl, RgOk.of_le (by omega) (by omega) (by omega) (by omega), fun q hq => h q _ hq (Same.upd hq) ?_⟩
  have e : rgV 0 (n : Int) = (rg n).map V.int := by
    unfold rgV rg zs
    rw [List.map_map]
    have e1 : ((n : Int) - 0).toNat = n := by omega
    rw [e1]
    refine List.map_congr_left fun k _ => ?_
    show V.int (0 + (k : Int)) = V.int (k : Int)
    rw [Int.zero_add]
  rw [e]
  exact upd_same
/-- == and != of data -/
theorem i_eqD {x y : V} {d e : PyData} (h1 : Dp K H x d) (h2 : Dp K H y e) (s1 : SeqAt.shaped d = true) (s2 : SeqAt.shaped e = true) (h : Q (.bl (PyData.eqv d e)) H) : rEqD K x y H Q := ⟨d, e, h1, h2, s1, s2, h⟩
theorem i_neD {x y : V} {d e : PyData} (h1 : Dp K H x d) (h2 : Dp K H y e) (s1 : SeqAt.shaped d = true) (s2 : SeqAt.shaped e = true) (h : Q (.bl (!PyData.eqv d e)) H) : rNeD K x y H Q := ⟨d, e, h1, h2, s1, s2, h⟩
end
/-! ### data: lists of whole numbers, lists of tuples of such -/
def sOk (n : Nat) (d : PyData) : Prop := d.canLay0 = true ∧ d.depth ≤ n
theorem sok_all {n : Nat} : ∀ {ds : List PyData}, (∀ x ∈ ds, sOk n x) → PyData.canLayAll0 ds = true ∧ PyData.depthAll ds ≤ n
  | [], _ => ⟨by simp [PyData.canLayAll0], by simp [PyData.depthAll]⟩
  | d :: ds, h => by
    have h1 := h d List.mem_cons_self
    have h2 := sok_all fun x hx => h x (List.mem_cons_of_mem d hx)
    refine ⟨?_, ?_⟩
    · rw [PyData.canLayAll0, h1.1, h2.1]; rfl
    · rw [PyData.depthAll]
      exact Nat.max_le.mpr ⟨h1.2, h2.2⟩
theorem sok_list {n : Nat} {ds : List PyData} (h : ∀ x ∈ ds, sOk n x) : sOk (n + 1) (.list ds) := by
  have h2 := sok_all h
  exact ⟨by rw [PyData.canLay0]; exact h2.1, by rw [PyData.depth]; exact Nat.succ_le_succ h2.2⟩
theorem sok_tup {n : Nat} {ds : List PyData} (h : ∀ x ∈ ds, sOk n x) : sOk (n + 1) (.tuple ds) := by
  have h2 := sok_all h
  exact ⟨by rw [PyData.canLay0]; exact h2.1, by rw [PyData.depth]; exact Nat.succ_le_succ h2.2⟩
theorem sok_int (n : Nat) (i : Int) : sOk n (.int i) := ⟨rfl, Nat.zero_le _⟩
theorem sok_shaped {n : Nat} {d : PyData} (h : sOk n d) (hn : n ≤ 64) : SeqAt.shaped d = true := by
  unfold SeqAt.shaped
  rw [h.1, Bool.true_and, decide_eq_true_eq]
  exact Nat.le_trans h.2 hn
theorem eqv_map {α : Type} [DecidableEq α] (f : α → PyData) (hf : ∀ x y, PyData.eqv (f x) (f y) = decide (x = y)) : ∀ a b : List α, PyData.eqvAll (a.map f) (b.map f) = decide (a = b)
  | [], [] => by simp [PyData.eqvAll]
  | [], _ :: _ => by simp [PyData.eqvAll]
  | _ :: _, [] => by simp [PyData.eqvAll]
  | x :: a, y :: b => by
    rw [List.map_cons, List.map_cons, PyData.eqvAll, hf, eqv_map f hf a b]
    by_cases h : x = y
    · subst h
      simp
    · simp [h]
theorem eqv_int (x y : Int) : PyData.eqv (.int x) (.int y) = decide (x = y) := by
  rw [PyData.eqv]
  exact Bool.beq_eq_decide_eq x y
theorem eqv_list (a b : List PyData) : PyData.eqv (.list a) (.list b) = PyData.eqvAll a b := by rw [PyData.eqv]
theorem eqv_tuple (a b : List PyData) : PyData.eqv (.tuple a) (.tuple b) = PyData.eqvAll a b := by rw [PyData.eqv]
def dI (ns : List Int) : PyData := .list (ns.map PyData.int)
theorem eqv_dI (a b : List Int) : PyData.eqv (dI a) (dI b) = decide (a = b) := by
  unfold dI
  rw [eqv_list, eqv_map _ eqv_int]
theorem sok_dI (ns : List Int) : sOk 1 (dI ns) := sok_list fun x hx => by
  obtain ⟨n, _, rfl⟩ := List.mem_map.mp hx
  exact sok_int 0 n
theorem shaped_dI (ns : List Int) : SeqAt.shaped (dI ns) = true := sok_shaped (sok_dI ns) (by decide)
/-- a triple, a pair as data -/
def d3 (t : T3) : PyData := .tuple [.int t.1, .int t.2.1, .int t.2.2]
def d2 (t : Int × Int) : PyData := .tuple [.int t.1, .int t.2]
theorem eqv_d3 (x y : T3) : PyData.eqv (d3 x) (d3 y) = decide (x = y) := by
  obtain ⟨a, b, c⟩ := x
  obtain ⟨d, e, f⟩ := y
  have h := eqv_map PyData.int eqv_int [a, b, c] [d, e, f]
  show PyData.eqv (.tuple [.int a, .int b, .int c]) (.tuple [.int d, .int e, .int f]) = _
  rw [eqv_tuple]
  refine h.trans ?_
  simp [Prod.mk.injEq]
theorem eqv_d2 (x y : Int × Int) : PyData.eqv (d2 x) (d2 y) = decide (x = y) := by
  obtain ⟨a, b⟩ := x
  obtain ⟨d, e⟩ := y
  have h := eqv_map PyData.int eqv_int [a, b] [d, e]
  show PyData.eqv (.tuple [.int a, .int b]) (.tuple [.int d, .int e]) = _
  rw [eqv_tuple]
  refine h.trans ?_
  simp [Prod.mk.injEq]
def dT (ts : List T3) : PyData := .list (ts.map d3)
def dP (ps : List (Int × Int)) : PyData := .list (ps.map d2)
theorem eqv_dT (a b : List T3) : PyData.eqv (dT a) (dT b) = decide (a = b) := by
  unfold dT
  rw [eqv_list, eqv_map _ eqv_d3]
theorem eqv_dP (a b : List (Int × Int)) : PyData.eqv (dP a) (dP b) = decide (a = b) := by
  unfold dP
  rw [eqv_list, eqv_map _ eqv_d2]
theorem sok_dT (ts : List T3) : sOk 2 (dT ts) := sok_list fun x hx => by
  obtain ⟨t, _, rfl⟩ := List.mem_map.mp hx
  exact sok_tup fun y hy => by
    rcases List.mem_cons.mp hy with rfl | hy
    · exact sok_int 0 _
    · rcases List.mem_cons.mp hy with rfl | hy
      · exact sok_int 0 _
      · rcases List.mem_cons.mp hy with rfl | hy
        · exact sok_int 0 _
        · cases hy
theorem sok_dP (ts : List (Int × Int)) : sOk 2 (dP ts) := sok_list fun x hx => by
  obtain ⟨t, _, rfl⟩ := List.mem_map.mp hx
  exact sok_tup fun y hy => by
    rcases List.mem_cons.mp hy with rfl | hy
    · exact sok_int 0 _
    · rcases List.mem_cons.mp hy with rfl | hy
      · exact sok_int 0 _
      · cases hy
theorem shaped_dT (ts : List T3) : SeqAt.shaped (dT ts) = true := sok_shaped (sok_dT ts) (by decide)
theorem shaped_dP (ts : List (Int × Int)) : SeqAt.shaped (dP ts) = true := sok_shaped (sok_dP ts) (by decide)
section
variable {K : PySem.W.Frag} {H : Hp} {p : Addr} {v : V}
theorem dpAll_ints : ∀ ns : List Int, DpAll K H (ns.map V.int) (ns.map PyData.int)
  | [] => .nil
  | n :: ns => .cons (.int n) (dpAll_ints ns)
theorem dp_ints {ns : List Int} (h : SqL K H p (ns.map V.int)) : Dp K H (.ref p) (dI ns) := .lst h (dpAll_ints ns)
theorem dpAll_of {α : Type} {R : V → α → Prop} {f : α → PyData} (hf : ∀ v x, R v x → Dp K H v (f x)) : ∀ {vs : List V} {xs : List α}, All2 R vs xs → DpAll K H vs (xs.map f)
  | [], [], _ => .nil
  | [], _ :: _, h => absurd h.len (by simp)
  | _ :: _, [], h => absurd h.len (by simp)
  | v :: vs, x :: xs, h => .cons (hf v x (h.get 0 v x rfl rfl)) (dpAll_of hf ⟨by have := h.len; simpa using this, fun i y z h1 h2 => h.get (i + 1) y z (by simpa using h1) (by simpa using h2)⟩)
theorem dp_d3 {t : T3} (h : IsT K H v t) : Dp K H v (d3 t) := by
  obtain ⟨p, rfl, hp⟩ := h
  exact .tup hp (.cons (.int _) (.cons (.int _) (.cons (.int _) .nil)))
theorem dp_d2 {t : Int × Int} (h : IsP K H v t) : Dp K H v (d2 t) := by
  obtain ⟨p, rfl, hp⟩ := h
  exact .tup hp (.cons (.int _) (.cons (.int _) .nil))
theorem dp_things {ts : List T3} (h : Things K H p ts) : Dp K H (.ref p) (dT ts) := by
  obtain ⟨vs, h1, h2⟩ := h
  exact .lst h1 (dpAll_of (f := d3) (fun _ _ => dp_d3) h2)
theorem dp_pairs {vs : List V} {ps : List (Int × Int)} (h1 : SqL K H p vs) (h2 : PrL K H vs ps) : Dp K H (.ref p) (dP ps) := .lst h1 (dpAll_of (f := d2) (fun _ _ => dp_d2) h2)
end
/-! ### more steps -/
def kItc (R : It → Hp → Prop) : List V → Hp → Prop := fun vs H1 => ∃ (i j c : Int) (n : Nat), vs = [.int i, .int j, .int c] ∧ RgC i j c n ∧ R (Itc i c n) H1
def kRev (K : PySem.W.Frag) (Q : VK) : VK := fun x H1 => ∃ a xs, x = .ref a ∧ SqL K H1 a xs ∧ ∀ p, H1 p = none → Q (.ref p) (upd H1 p (.lst xs.reverse))
/-- a statement, then the rest, with a word between them -/
def tMid (t u : TS) : TS := fun D σ H => ∃ M : L2.St → Hp → Prop, t { D with nx := M } σ H ∧ ∀ σ' H', M σ' H' → u D σ' H'
section
variable {X : Cx}
theorem pss_mid {st : Stmt} {rest : List Stmt} {t u : TS} (h1 : PS X st t) (h2 : PSs X rest u) : PSs X (st :: rest) (tMid t u) := by
  refine ⟨fun pins s σ H D I h => ?_⟩
  obtain ⟨M, hm, hu⟩ := h
  refine wpAny_execs_cons (thn (h1.run pins s σ H { D with nx := M } I hm) fun f s1 q => ?_)
  cases f with
  | next =>
    obtain ⟨σ', H', I', q⟩ := q
    exact h2.run pins s1 σ' H' D I' (hu σ' H' q)
  | ret v => exact q
  | brk => exact q
  | cont => exact q
end
section
variable {K : PySem.W.Frag} {σ : L2.St} {H : Hp} {Q : VK} {D : Ends} {te : TE} {ts : TA} {a p q : Addr} {xs ys : List V} {R : It → Hp → Prop} {lo hi : Option Int}
theorem i_iRng3 (h : ts σ H (kItc R)) : iRng3 ts σ H R := h
theorem i_itc {i j c : Int} {n : Nat} (r : RgC i j c n) (h : R (Itc i c n) H) : kItc R [.int i, .int j, .int c] H := ⟨i, j, c, n, rfl, r, h⟩
theorem rg3 {m : Nat} (hm : m ≤ 63) : RgC 0 (m : Int) 3 ((m + 2) / 3) := by
  have k : ∀ m : Fin 64, Builtin.Range.small 0 (m.val : Int) 3 = true ∧ Builtin.Range.rangeSize 0 (m.val : Int) 3 = (((m.val + 2) / 3 : Nat) : Int) := by decide +kernel
  have z := k ⟨m, by omega⟩
  exact ⟨by decide, by decide, z.1, z.2⟩
theorem i_revL (h : te σ H (kRev K Q)) : tRevL K te σ H Q := h
theorem i_revk (hs : SqL K H a xs) (h : ∀ p H', H p = none → Same H H' → H' p = some (.lst xs.reverse) → Q (.ref p) H') : kRev K Q (.ref a) H := ⟨a, xs, rfl, hs, i_new h⟩
theorem i_slL (hs : SqL K H a xs) (h : ∀ p H', H p = none → Same H H' → H' p = some (.lst (cutV xs lo hi)) → Q (.ref p) H') : rSlL K (.ref a) lo hi H Q := ⟨a, xs, rfl, hs, i_new h⟩
theorem i_cat (h1 : H p = some (.lst xs)) (h2 : H q = some (.lst ys)) (hz : xs.length + ys.length ≤ 100000) (h : ∀ r H', H r = none → Same H H' → H' r = some (.lst (xs ++ ys)) → Q (.ref r) H') : rCat (.ref p) (.ref q) H Q := ⟨p, q, xs, ys, rfl, rfl, h1, h2, sz_le hz, i_new h⟩
theorem i_rep {v : V} {n : Nat} {m : Int} (h1 : H p = some (.lst [v])) (e : m = (n : Int)) (hz : n ≤ 100000) (h : ∀ r H', H r = none → Same H H' → H' r = some (.lst (List.replicate n v)) → Q (.ref r) H') : rRep (.ref p) (.int m) H Q := by
  subst e
  refine ⟨p, _, [v], rfl, rfl, h1, by omega, by omega, by rw [List.length_singleton, Int.toNat_natCast, Nat.one_mul]; exact sz_le hz, i_new fun r H' h1 h2 h3 => h r H' h1 h2 ?_⟩
  rw [h3, Int.toNat_natCast, List.flatten_replicate_singleton]
theorem i_mid {t u : TS} (M : L2.St → Hp → Prop) (h1 : t { D with nx := M } σ H) (h2 : ∀ σ' H', M σ' H' → u D σ' H') : tMid t u D σ H := ⟨M, h1, h2⟩
theorem cut_to (xs : List V) (k : Nat) : cutV xs none (some (k : Int)) = xs.take k := by
  unfold cutV
  rw [HT.sIx_none, HT.sIx_nat, List.drop_zero, Nat.sub_zero]
  by_cases h : k ≤ xs.length
  · rw [Nat.min_eq_left h]
  · rw [Nat.min_eq_right (by omega), List.take_length, List.take_of_length_le (by omega)]
theorem cut_from (xs : List V) (k : Nat) : cutV xs (some (k : Int)) none = xs.drop k := by
  unfold cutV
  rw [HT.sIx_none, HT.sIx_nat]
  by_cases h : k ≤ xs.length
  · rw [Nat.min_eq_left h, List.take_of_length_le (by rw [List.length_drop]; exact Nat.le_refl _)]
  · rw [Nat.min_eq_right (by omega), Nat.sub_self, List.take_zero, List.drop_of_length_le (by omega)]
theorem cut_mid (xs : List V) (i j : Nat) (h : i + j ≤ xs.length) : cutV xs (some (i : Int)) (some ((i + j : Nat) : Int)) = (xs.drop i).take j := by
  unfold cutV
  rw [HT.sIx_nat, HT.sIx_nat, Nat.min_eq_left (show i ≤ xs.length by omega), Nat.min_eq_left h, Nat.add_sub_cancel_left]
end
section
variable {σ : L2.St} {H : Hp} {Q : VK} {D : Ends} {t : TS} {g : TG}
theorem i_itdC {c : Prop} [Decidable c] {v1 v2 : V} (h : ∀ v, (v = v1 ∨ v = v2) → Q v H) : if decide c = true then tC v1 σ H Q else tC v2 σ H Q := i_itd (fun _ => h v1 (.inl rfl)) (fun _ => h v2 (.inr rfl))
/-- for k in range(n) -/
theorem for_rng {n : Nat} (Pv : Nat → L2.St → Hp → Prop) (h0 : Pv 0 σ H) (hs : ∀ (i : Nat) σ H, i < n → Pv i σ H → g (.int (i : Int)) σ H fun σ2 H2 => t { D with nx := Pv (i + 1), ct := Pv (i + 1), bk := D.nx } σ2 H2) (hd : ∀ σ H, Pv n σ H → D.nx σ H) :
    ∃ W : Nat → Nat → L2.St → Hp → Prop, (∃ m, W 0 m σ H) ∧ ∀ i m σ H, W i m σ H →
      ((Itr 0 n).stop i H ∧ D.nx σ H) ∨ ((Itr 0 n).go i H ∧ ∃ N : L2.St → Hp → Prop, (∀ σ' H', N σ' H' → ∃ m', m' < m ∧ W (i + 1) m' σ' H') ∧ ∀ x H', (Itr 0 n).yld i H x H' → g x σ H' fun σ2 H2 => t { D with nx := N, ct := N, bk := D.nx } σ2 H2) :=
  for_range (lo := 0) Pv h0 (fun i σ H hi p => by
    have e : (0 : Int) + (i : Int) = (i : Int) := Int.zero_add _
    rw [e]
    exact hs i σ H hi p) hd
theorem log_small {n : Nat} (h : n < 2 ^ 200) : n.log2 < 9000 := by
  by_cases h0 : n = 0
  · subst h0; decide
  · exact Nat.lt_trans ((Nat.log2_lt h0).mpr h) (by decide)
end
end Bp
namespace Bp
open PySem PySem.Spec PyProof.Rows L2
def topS (i : Nat) : Stmt := PySem.Challenge.pw_benchpair_k03_times.main.body.getD i (.Pass ⟨0, 0, 0, 0⟩)
local macro_rules | `(tactic| walk_at "st") => `(tactic| first
  | with_reducible refine i_seq ?_ | with_reducible refine i_asg ?_ | with_reducible refine i_op ?_ | ((with_reducible refine i_var0 ?_); refine ⟨_, rfl, ?_⟩) | with_reducible refine i_c ?_
  | with_reducible refine i_nm ?_ | with_reducible refine i_I0 ?_ | with_reducible refine i_cons ?_ | with_reducible refine i_nil ?_ | with_reducible refine i_cb ?_ | with_reducible refine i_cal ?_ | with_reducible refine i_calS ?_
  | with_reducible refine i_ifS ?_ | with_reducible refine i_if ?_ | with_reducible refine i_test ?_ | with_reducible refine i_tB ?_ | with_reducible refine i_bl ?_ | with_reducible refine i_int ?_
  | with_reducible refine i_eqI ?_ | with_reducible refine i_neI ?_ | with_reducible refine i_not ?_ | with_reducible refine i_and ?_ | with_reducible refine i_or ?_ | with_reducible refine i_andV ?_ | with_reducible refine i_orV ?_ | with_reducible refine i_notV ?_
  | with_reducible refine i_un ?_ | with_reducible refine i_U ?_ | with_reducible refine i_ipI ?_ | ((with_reducible refine i_aug0 ?_); refine ⟨_, rfl, ?_⟩) | with_reducible refine i_ret ?_ | with_reducible refine i_drop ?_ | with_reducible refine i_next ?_
  | with_reducible refine i_chain ?_ | with_reducible refine i_ifT ?_ | with_reducible refine i_ifF ?_ | with_reducible refine i_ifNT ?_ | with_reducible refine i_ifNF ?_ | with_reducible refine i_par ?_ | with_reducible refine i_par3 ?_ | with_reducible refine i_par_e ?_ | with_reducible refine i_par3_e ?_
  | with_reducible refine i_gcons ?_ | with_reducible refine i_gnil ?_ | with_reducible refine i_gsub ?_ | with_reducible refine i_tupn ?_ | with_reducible refine i_lstn ?_ | with_reducible refine i_bm ?_ | with_reducible refine i_bm0 ?_
  | with_reducible refine i_sl ?_ | with_reducible refine i_noP ?_ | with_reducible refine i_part ?_ | with_reducible refine i_for ?_ | with_reducible refine i_lc ?_ | with_reducible refine i_iList ?_ | with_reducible refine i_iTup ?_ | with_reducible refine i_iRng1 ?_
  | with_reducible refine i_iEnum ?_ | with_reducible refine i_iRng3 ?_ | with_reducible refine i_revL ?_ | with_reducible refine i_iZip ?_ | with_reducible refine i_yes ?_ | with_reducible refine i_listRg ?_ | with_reducible refine i_max2 ?_)
local macro_rules | `(tactic| walk_at "go") => `(tactic| repeat walk_at "st")
abbrev s_is_whole : Stmt := topS 5
abbrev n_is_whole : List Str := ["thing"]
theorem sc_is_whole : FnScope n_is_whole ["thing"] (defScope s_is_whole) := ⟨rfl, rfl, rfl, by decide +kernel, rfl, by decide +kernel, by decide +kernel⟩
abbrev s_is_triple : Stmt := topS 6
abbrev n_is_triple : List Str := ["thing", "length"]
theorem sc_is_triple : FnScope n_is_triple ["thing"] (defScope s_is_triple) := ⟨rfl, rfl, rfl, by decide +kernel, rfl, by decide +kernel, by decide +kernel⟩
abbrev s_check_things : Stmt := topS 7
abbrev n_check_things : List Str := ["things", "thing"]
theorem sc_check_things : FnScope n_check_things ["things"] (defScope s_check_things) := ⟨rfl, rfl, rfl, by decide +kernel, rfl, by decide +kernel, by decide +kernel⟩
abbrev s_is_order : Stmt := topS 8
abbrev n_is_order : List Str := ["things", "order", "at"]
theorem sc_is_order : FnScope n_is_order ["things", "order"] (defScope s_is_order) := ⟨rfl, rfl, rfl, by decide +kernel, rfl, by decide +kernel, by decide +kernel⟩
abbrev s_check_order : Stmt := topS 9
abbrev n_check_order : List Str := ["things", "order"]
theorem sc_check_order : FnScope n_check_order ["things", "order"] (defScope s_check_order) := ⟨rfl, rfl, rfl, by decide +kernel, rfl, by decide +kernel, by decide +kernel⟩
abbrev s_run : Stmt := topS 10
abbrev n_run : List Str := ["things", "order", "found", "first", "second", "at", "one", "dry", "other", "begin"]
theorem sc_run : FnScope n_run ["things", "order"] (defScope s_run) := ⟨rfl, rfl, rfl, by decide +kernel, rfl, by decide +kernel, by decide +kernel⟩
abbrev s_done : Stmt := topS 11
abbrev n_done : List Str := ["things", "order"]
theorem sc_done : FnScope n_done ["things", "order"] (defScope s_done) := ⟨rfl, rfl, rfl, by decide +kernel, rfl, by decide +kernel, by decide +kernel⟩
abbrev s_starts : Stmt := topS 12
abbrev n_starts : List Str := ["things", "order", "begun", "found", "place", "at", "thing"]
theorem sc_starts : FnScope n_starts ["things", "order"] (defScope s_starts) := ⟨rfl, rfl, rfl, by decide +kernel, rfl, by decide +kernel, by decide +kernel⟩
/-- is_whole, of a whole number -/
def sp_whole : Sp := fun vs H Q _ => ∃ m : Int, vs = [.int m] ∧ Q (.bl true) H
/-- is_triple, of a triple -/
def sp_triple (K : PySem.W.Frag) : Sp := fun vs H Q _ => ∃ (v : V) (t : T3), vs = [v] ∧ IsT K H v t ∧ Nn t ∧ ∀ H', Same H H' → Q (.bl true) H'
/-- check_things, of things -/
def sp_check (K : PySem.W.Frag) : Sp := fun vs H Q _ => ∃ (a : Addr) (ts : List T3), vs = [.ref a] ∧ Things K H a ts ∧ (∀ t ∈ ts, Nn t) ∧ ts.length ≤ 1000 ∧ ∀ H', Same H H' → Q .non H'
section
variable {P : Program} {w : World} {K : PySem.W.Frag} {mg : Str → Option Value} {base : Heap}
theorem ok_is_whole (B : Blt mg) (D : Def K mg "is_whole" s_is_whole ["thing"]) : Cal P w K mg base 1 "is_whole" sp_whole := by
  refine D.cal sc_is_whole (fun vs H Q E h => ?_) (fun f cdv A outer s H vs Q E hr h => ?_)
  · obtain ⟨m, rfl, _⟩ := h
    rfl
  · obtain ⟨m, rfl, q⟩ := h
    refine ⟨_, pss_one (ps_ret (pe_and (pe_callB (r := rIsi K) call_isi (by rfl) B.isinstance (by decide +kernel) (pa_cons (pv 0) (pa_cons (pe_bltn (v := .ty "int") (u := .type "int") (by rfl) B.int (by decide +kernel) rfl) pa_nil))) (pe_one (pe_not (pe_callB (r := rIsi K) call_isi (by rfl) B.isinstance (by decide +kernel) (pa_cons (pv 0) (pa_cons (pe_bltn (v := .ty "bool") (u := .type "bool") (by rfl) B.bool (by decide +kernel) rfl) pa_nil))))))), ?_⟩
    walk_at "go"
    refine i_isi (r := true) ty_int (by decide +kernel) ?_
    walk_at "go"
    refine i_isi (r := false) ty_int (by decide +kernel) ?_
    walk_at "go"
    exact q
theorem ok_is_triple (B : Blt mg) (c_is_whole : Cal P w K mg base 1 "is_whole" sp_whole) (D : Def K mg "is_triple" s_is_triple ["thing"]) : Cal P w K mg base 2 "is_triple" (sp_triple K) := by
  refine D.cal sc_is_triple (fun vs H Q E h => ?_) (fun f cdv A outer s H vs Q E hr h => ?_)
  · obtain ⟨v, t, rfl, _⟩ := h
    rfl
  · obtain ⟨v, t, rfl, ⟨p, rfl, hp⟩, ⟨n1, n2, n3⟩, q⟩ := h
    refine ⟨_, pss_cons (ps_if (PW.pt (pw_or (pt_not (pt_val (pe_callB (r := rIsi K) call_isi (by rfl) B.isinstance (by decide +kernel) (pa_cons (pv 0) (pa_cons (pe_bltn (v := .ty "tuple") (u := .type "tuple") (by rfl) B.tuple (by decide +kernel) rfl) pa_nil))))) (pw_or1 (pt_cmpR op_ne (pe_callB (r := rLenB K) cb_len (by rfl) B.len (by decide +kernel) (pa_cons (pv 0) pa_nil)) pe_int (nomark _)))))
      (pss_one (ps_ret pe_bl))
      (pss_nil))
    (pss_one (ps_ret (pe_callB (r := rAll K) (cr_all rfl) (by rfl) B.all (by decide +kernel) (pa_cons (pe_lc (own := [("length", 1)]) rfl sc_is_triple.nd (pi_tup (pv 0)) (blkOk_by (N := n_is_triple) (sc := defScope s_is_triple) (by decide +kernel)) (fun _ _ _ _ _ => (pg_name (i := 1) sc_is_triple.nd rfl (.inl rfl))) (fun _ _ _ _ _ => pts_nil) (fun _ _ _ _ _ => (pe_and (pe_cal c_is_whole hr (by decide) (by rfl) (pa_cons (pv 1) pa_nil)) (pe_one (pe_cmpR op_ge (pv 1) pe_int (nomark _)))))) pa_nil)))), ?_⟩
    walk_at "go"
    refine i_isi (r := true) (ty_sqT hp) (by decide +kernel) ?_
    walk_at "go"
    refine i_lenT hp ?_
    walk_at "go"
    refine iteF ?_
    walk_at "go"
    refine i_itt hp ?_
    refine fun p0 hp0 => lc_map (K := K) (R := fun _ y _ => y = .bl true) (fun _ h => h) sqn_t (fun H e => Same.t e hp) (by show 3 < 100000; decide) hp0 (fun i x H' Qc Qn hx sm k => ?_) (fun ys H' sm hy hl hr => ?_)
    · walk_at "go"
      refine ⟨rfl, ?_⟩
      have hm : ∃ m : Int, x = .int m ∧ 0 ≤ m := by
        rcases i with _ | _ | _ | i
        · exact ⟨_, (Option.some.inj hx).symm, n1⟩
        · exact ⟨_, (Option.some.inj hx).symm, n2⟩
        · exact ⟨_, (Option.some.inj hx).symm, n3⟩
        · cases hx
      obtain ⟨m, rfl, h0⟩ := hm
      walk_at "go"
      refine ⟨m, rfl, ?_⟩
      walk_at "go"
      exact k _ _ (Same.refl _) (by rw [decide_eq_true h0])
    · walk_at "go"
      have e := all_true hl hr
      rw [e] at hy
      exact i_allT hy (q H' sm)
theorem ok_check_things (B : Blt mg) (c_is_triple : Cal P w K mg base 2 "is_triple" (sp_triple K)) (D : Def K mg "check_things" s_check_things ["things"]) : Cal P w K mg base 3 "check_things" (sp_check K) := by
  refine D.cal sc_check_things (fun vs H Q E h => ?_) (fun f cdv A outer s H vs Q E hr h => ?_)
  · obtain ⟨a, ts, rfl, _⟩ := h
    rfl
  · obtain ⟨a, ts, rfl, ⟨vs, hs, hT⟩, hn, hz, q⟩ := h
    refine ⟨_, pss_one (ps_if (PW.pt (pw_or (pt_not (pt_val (pe_callB (r := rIsi K) call_isi (by rfl) B.isinstance (by decide +kernel) (pa_cons (pv 0) (pa_cons (pe_bltn (v := .ty "list") (u := .type "list") (by rfl) B.list (by decide +kernel) rfl) pa_nil))))) (pw_or1 (pt_not (pt_val (pe_callB (r := rAll K) (cr_all rfl) (by rfl) B.all (by decide +kernel) (pa_cons (pe_lc (own := [("thing", 1)]) rfl sc_check_things.nd (pi_list (pv 0)) (blkOk_by (N := n_check_things) (sc := defScope s_check_things) (by decide +kernel)) (fun _ _ _ _ _ => (pg_name (i := 1) sc_check_things.nd rfl (.inl rfl))) (fun _ _ _ _ _ => pts_nil) (fun _ _ _ _ _ => (pe_cal c_is_triple hr (by decide) (by rfl) (pa_cons (pv 1) pa_nil)))) pa_nil)))))))
      (pss_one (ps_never))
      (pss_nil)), ?_⟩
    walk_at "go"
    refine i_isi (r := true) (ty_sqL hs) (by decide +kernel) ?_
    walk_at "go"
    refine i_itl hs ?_
    refine fun p0 hp0 => lc_map (K := K) (R := fun _ y _ => y = .bl true) (fun _ h => h) sqn_l (fun H' e => e.seq hs) (by rw [hT.len]; omega) hp0 (fun i x H' Qc Qn hx sm k => ?_) (fun ys H' sm hy hl hr => ?_)
    · obtain ⟨t, ht, hx'⟩ := hT.at' hx
      walk_at "go"
      refine ⟨rfl, ?_⟩
      walk_at "go"
      exact ⟨_, t, rfl, hx'.mono (smT sm), hn t (List.mem_of_getElem? ht), fun H'' s' => k _ _ s' rfl⟩
    · have e := all_true hl hr
      rw [e] at hy
      walk_at "go"
      refine i_allT hy ?_
      walk_at "go"
      exact q H' sm
/-- is_order, of any whole numbers -/
def sp_isord (K : PySem.W.Frag) : Sp := fun vs H Q _ => ∃ (a b : Addr) (ts : List T3) (ns : List Int), vs = [.ref a, .ref b] ∧ Things K H a ts ∧ SqL K H b (ns.map V.int) ∧ ts.length ≤ 1000 ∧ ns.length ≤ 10000 ∧ ∀ H', Same H H' → Q (.bl (decide (ns.Perm (rg ts.length)))) H'
/-- check_order, of an order -/
def sp_chord (K : PySem.W.Frag) : Sp := fun vs H Q _ => ∃ (a b : Addr) (ts : List T3) (os : List Nat), vs = [.ref a, .ref b] ∧ Things K H a ts ∧ SqL K H b ((zs os).map V.int) ∧ ts.length ≤ 1000 ∧ os.Perm (List.range ts.length) ∧ ∀ H', Same H H' → Q .non H'
/-- run, of an order -/
def sp_run (K : PySem.W.Frag) : Sp := fun vs H Q _ => ∃ (a b : Addr) (ts : List T3) (os : List Nat), vs = [.ref a, .ref b] ∧ Things K H a ts ∧ SqL K H b ((zs os).map V.int) ∧ (∀ k ∈ os, k < ts.length) ∧ os.length ≤ 1000 ∧
  ∀ H' p l vs', Same H H' → H' p = some (.tup [.ref l, .int (dn (sq ts os))]) → SqL K H' l vs' → PrL K H' vs' (runP 0 0 (sq ts os)) → Q (.ref p) H'
theorem ok_is_order (B : Blt mg) (c_is_whole : Cal P w K mg base 1 "is_whole" sp_whole) (D : Def K mg "is_order" s_is_order ["things", "order"]) : Cal P w K mg base 2 "is_order" (sp_isord K) := by
  refine D.cal sc_is_order (fun vs H Q E h => ?_) (fun f cdv A outer s H vs Q E hr h => ?_)
  · obtain ⟨a, b, ts, ns, rfl, _⟩ := h
    rfl
  · obtain ⟨a, b, ts, ns, rfl, hT, hO, hz, hn, q⟩ := h
    refine ⟨_, pss_cons (ps_if (PW.pt (pw_or (pt_not (pt_val (pe_callB (r := rIsi K) call_isi (by rfl) B.isinstance (by decide +kernel) (pa_cons (pv 1) (pa_cons (pe_bltn (v := .ty "list") (u := .type "list") (by rfl) B.list (by decide +kernel) rfl) pa_nil))))) (pw_or (pt_cmpR op_ne (pe_callB (r := rLenB K) cb_len (by rfl) B.len (by decide +kernel) (pa_cons (pv 1) pa_nil)) (pe_callB (r := rLenB K) cb_len (by rfl) B.len (by decide +kernel) (pa_cons (pv 0) pa_nil)) (nomark _)) (pw_or1 (pt_not (pt_val (pe_callB (r := rAll K) (cr_all rfl) (by rfl) B.all (by decide +kernel) (pa_cons (pe_lc (own := [("at", 2)]) rfl sc_is_order.nd (pi_list (pv 1)) (blkOk_by (N := n_is_order) (sc := defScope s_is_order) (by decide +kernel)) (fun _ _ _ _ _ => (pg_name (i := 2) sc_is_order.nd rfl (.inl rfl))) (fun _ _ _ _ _ => pts_nil) (fun _ _ _ _ _ => (pe_cal c_is_whole hr (by decide) (by rfl) (pa_cons (pv 2) pa_nil)))) pa_nil))))))))
      (pss_one (ps_ret pe_bl))
      (pss_nil))
    (pss_one (ps_ret (pe_cmpR (r := rEqD K) (op_eqD hr.units) (pe_callB (r := rSortedI K) cr_sortedI (by rfl) B.sorted (by decide +kernel) (pa_cons (pv 1) pa_nil)) (pe_listRg rfl (by rfl) B.list (prg_1 (by rfl) B.range (pe_callB (r := rLenB K) cb_len (by rfl) B.len (by decide +kernel) (pa_cons (pv 0) pa_nil)))) (nomark _)))), ?_⟩
    walk_at "go"
    refine i_isi (r := true) (ty_sqL hO) (by decide +kernel) ?_
    walk_at "go"
    refine i_lenL hO ?_
    walk_at "go"
    refine i_lenThings hT ?_
    walk_at "go"
    rw [List.length_map]
    have no : ns.length ≠ ts.length → ¬ ns.Perm (rg ts.length) := fun e p => e (by rw [p.length_eq]; unfold rg; rw [zs_len, List.length_range])
    refine i_itdn (fun e => ?_) (fun e => ?_)
    · walk_at "go"
      have e2 : decide (ns.Perm (rg ts.length)) = false := decide_eq_false (no (by omega))
      have z := q H (Same.refl _)
      rw [e2] at z
      exact z
    · walk_at "go"
      refine i_itl hO ?_
      refine fun p0 hp0 => lc_map (K := K) (R := fun _ y _ => y = .bl true) (fun _ h => h) sqn_l (fun H' e => e.seq hO) (by rw [List.length_map]; omega) hp0 (fun i x H' Qc Qn hx sm k => ?_) (fun ys H' sm hy hl hr => ?_)
      · rw [List.getElem?_map] at hx
        obtain ⟨m, _, rfl⟩ := Option.map_eq_some_iff.mp hx
        walk_at "go"
        refine ⟨rfl, ?_⟩
        walk_at "go"
        refine ⟨m, rfl, ?_⟩
        exact k _ _ (Same.refl _) rfl
      · have e := all_true hl hr
        rw [e] at hy
        walk_at "go"
        refine i_allT hy ?_
        walk_at "go"
        refine i_sortI (sm.seq hO) fun ns' p1 H1 hP hS np1 s1 h1 => ?_
        walk_at "go"
        refine i_lenThings ((hT.mono sm).mono s1) ?_
        refine i_rg (n := ts.length) rfl (by omega) fun p2 H2 np2 s2 h2 => ?_
        refine i_eqD (d := dI ns') (e := dI (rg ts.length)) (dp_ints (SqL.of (s2 _ _ h1))) (dp_ints (SqL.of h2)) (shaped_dI _) (shaped_dI _) ?_
        rw [eqv_dI]
        have e3 : decide (ns' = rg ts.length) = decide (ns.Perm (rg ts.length)) := by
          rw [decide_eq_decide]
          exact sorted_rg hP hS
        rw [e3]
        exact q _ ((sm.trans s1).trans s2)
theorem ok_check_order (B : Blt mg) (c_is_order : Cal P w K mg base 2 "is_order" (sp_isord K)) (D : Def K mg "check_order" s_check_order ["things", "order"]) : Cal P w K mg base 3 "check_order" (sp_chord K) := by
  refine D.cal sc_check_order (fun vs H Q E h => ?_) (fun f cdv A outer s H vs Q E hr h => ?_)
  · obtain ⟨a, b, ts, os, rfl, _⟩ := h
    rfl
  · obtain ⟨a, b, ts, os, rfl, hT, hO, hz, hp, q⟩ := h
    refine ⟨_, pss_one (ps_if (pt_not (pt_val (pe_cal c_is_order hr (by decide) (by rfl) (pa_cons (pv 0) (pa_cons (pv 1) pa_nil)))))
      (pss_one (ps_never))
      (pss_nil)), ?_⟩
    walk_at "go"
    refine ⟨a, b, ts, zs os, rfl, hT, hO, hz, by rw [zs_len, perm_len hp]; omega, fun H' sm => ?_⟩
    walk_at "go"
    rw [decide_eq_true (zs_perm hp)]
    walk_at "go"
    exact q H' sm
theorem runP_at : ∀ (l : List T3) (f s : Int) (i : Nat) (t : T3), l[i]? = some t → (runP f s l)[i]? = some (f + sa (l.take i), gr (endOf f s (l.take i)) (f + sa (l.take i) + t.1 + t.2.1))
  | [], f, s, i, t, h => by simp at h
  | u :: l, f, s, 0, t, h => by
    have e : u = t := by simpa using h
    subst e
    simp [runP, sa, endOf]
  | u :: l, f, s, i + 1, t, h => by
    have ih := runP_at l (f + u.1) (gr s (f + u.1 + u.2.1) + u.2.2) i t (by simpa using h)
    rw [runP, List.getElem?_cons_succ, ih, List.take_succ_cons, sa, endOf]
    congr 2
    · omega
    · congr 1
      omega
theorem endOf_snoc : ∀ (l : List T3) (f s : Int) (t : T3), endOf f s (l ++ [t]) = gr (endOf f s l) (f + sa l + t.1 + t.2.1) + t.2.2
  | [], f, s, t => by simp [endOf, sa]
  | u :: l, f, s, t => by
    rw [List.cons_append, endOf, endOf_snoc l, endOf, sa]
    congr 2
    omega
theorem runP_snoc : ∀ (l : List T3) (f s : Int) (t : T3), runP f s (l ++ [t]) = runP f s l ++ [(f + sa l, gr (endOf f s l) (f + sa l + t.1 + t.2.1))]
  | [], f, s, t => by simp [runP, sa, endOf]
  | u :: l, f, s, t => by
    rw [List.cons_append, runP, runP_snoc l, runP, endOf, sa, List.cons_append]
    rw [show f + u.1 + sa l = f + (u.1 + sa l) by omega]
theorem sa_snoc (l : List T3) (t : T3) : sa (l ++ [t]) = sa l + t.1 := by
  rw [sa_app, sa, sa]; omega
theorem sq_at {ts : List T3} {os : List Nat} {i k : Nat} (h : os[i]? = some k) : (sq ts os)[i]? = some (ts.getD k (0, 0, 0)) := by
  unfold sq
  rw [List.getElem?_map, h]; rfl
theorem sq_take {ts : List T3} {os : List Nat} (i : Nat) : sq ts (os.take i) = (sq ts os).take i := by
  unfold sq
  rw [List.map_take]
theorem ok_run (B : Blt mg) (D : Def K mg "run" s_run ["things", "order"]) : Cal P w K mg base 1 "run" (sp_run K) := by
  refine D.cal sc_run (fun vs H Q E h => ?_) (fun f cdv A outer s H vs Q E hr h => ?_)
  · obtain ⟨a, b, ts, os, rfl, _⟩ := h
    rfl
  · obtain ⟨a, b, ts, os, rfl, hT, hO, hk, hz, q⟩ := h
    refine ⟨_, pss_cons (ps_set (i := 2) sc_run.nd rfl (.inl rfl) (pe_lst pa_nil))
    (pss_cons (ps_set (i := 3) sc_run.nd rfl (.inl rfl) pe_int)
    (pss_cons (ps_set (i := 4) sc_run.nd rfl (.inl rfl) pe_int)
    (pss_cons (ps_for PassesOwn.never rfl (pi_list (pv 1)) (pg_name (i := 5) sc_run.nd rfl (.inl rfl))
      (pss_cons (ps_asg (pe_ix (r := rIxL K) ix_list (pv 0) (pv 5) (fun _ _ => rfl)) (pg_tup (n := 3) rfl (pgs_cons (pg_name (i := 6) sc_run.nd rfl (.inl rfl)) (pgs_cons (pg_name (i := 7) sc_run.nd rfl (.inl rfl)) (pgs_cons (pg_name (i := 8) sc_run.nd rfl (.inl rfl)) pgs_nil))) : PG _ _ (gTup K 3 (gCons (gName 6) (gCons (gName 7) (gCons (gName 8) gNil))))))
        (pss_cons (ps_set (i := 9) sc_run.nd rfl (.inl rfl) (pv 3))
        (pss_cons (ps_aug (i := 3) sc_run.nd rfl (.inl rfl) (pv 6) ip_add)
        (pss_cons (ps_set (i := 4) sc_run.nd rfl (.inl rfl) (pe_callB (cb_max2 rfl) (by rfl) B.max (by decide +kernel) (pa_cons (pv 4) (pa_cons (pe_op op_add (pv 3) (pv 7)) pa_nil))))
        (pss_cons (ps_expr (pe_bm PySem.F.plainAttrs_list PySem.F.slot_list_append PySem.F.type_list_append mt_append (pv 2) (pa_cons (pe_tup (pa_cons (pv 9) (pa_cons (pv 4) pa_nil))) pa_nil)))
        (pss_one (ps_aug (i := 4) sc_run.nd rfl (.inl rfl) (pv 8) ip_add))))))))
    (pss_one (ps_ret (pe_tup (pa_cons (pv 2) (pa_cons (pe_ifExp (pt_cmpR op_gt (pe_callB (r := rLenB K) cb_len (by rfl) B.len (by decide +kernel) (pa_cons (pv 1) pa_nil)) pe_int (nomark _)) (pv 4) pe_int) pa_nil)))))))), ?_⟩
    walk_at "go"
    refine i_lstk (Nat.zero_le _) fun l H1 nl s1 h1 => ?_
    walk_at "go"
    refine i_itl (s1.seq hO) ?_
    refine for_list (K := K) (a := b) (xs := (zs os).map V.int) (fun i σ' H' => ∃ y5 y6 y7 y8 y9 ys, σ' = [some (.ref a), some (.ref b), some (.ref l), some (.int (sa (sq ts (os.take i)))), some (.int (endOf 0 0 (sq ts (os.take i)))), y5, y6, y7, y8, y9] ∧ Same H H' ∧ H' l = some (.lst ys) ∧ PrL K H' ys (runP 0 0 (sq ts (os.take i)))) ?_ ?_ ?_ ?_
    · exact ⟨_, _, _, _, _, [], rfl, s1, h1, All2.nil⟩
    · rintro i σ' H' _ ⟨_, _, _, _, _, _, _, sm, _⟩
      exact sm.seq hO
    · rintro i x σ' H' hx ⟨y5, y6, y7, y8, y9, ys, rfl, sm, hl, hP⟩
      obtain ⟨k, hk1, rfl⟩ := zs_at hx
      have hk2 : k < ts.length := hk k (List.mem_of_getElem? hk1)
      walk_at "go"
      refine i_thing (hT.mono sm) (getD_at hk2) fun p hp => ?_
      refine i_gtup hp rfl ?_
      walk_at "go"
      refine ⟨ty_lst hl, ?_⟩
      walk_at "go"
      refine i_tupk (by show 2 ≤ 100000; decide) fun p1 H2 np1 s2 h2 => ?_
      walk_at "go"
      have hlen : ys.length = i := by
        rw [hP.len, runP_len, sq_take, List.length_take, sq_len]
        have := (List.getElem?_eq_some_iff.mp hk1).1
        omega
      refine i_app (s2 _ _ hl) (by
        have := (List.getElem?_eq_some_iff.mp hk1).1
        omega) ?_
      walk_at "go"
      have e1 : sq ts (os.take (i + 1)) = sq ts (os.take i) ++ [ts.getD k (0, 0, 0)] := by
        rw [take_snoc hk1, sq_app]; rfl
      have hp1 : IsP K H2 (.ref p1) (sa (sq ts (os.take i)), gr (endOf 0 0 (sq ts (os.take i))) (sa (sq ts (os.take i)) + (ts.getD k (0, 0, 0)).1 + (ts.getD k (0, 0, 0)).2.1)) := ⟨p1, rfl, SqT.of h2⟩
      rw [e1, sa_snoc, endOf_snoc, runP_snoc]
      simp only [Int.zero_add]
      exact ⟨_, _, _, _, _, ys ++ [.ref p1], rfl, Same.mut (sm.trans s2) nl, upd_same, PrL.mono (sameT_lst (s2 _ _ hl)) (All2.snoc (PrL.mono (smT s2) hP) hp1)⟩
    · rintro σ' H' ⟨y5, y6, y7, y8, y9, ys, rfl, sm, hl, hP⟩
      rw [zs_len', List.take_length] at hP ⊢
      walk_at "go"
      refine i_lenL (sm.seq hO) ?_
      walk_at "go"
      rw [zs_len']
      have fin : kTup Q [.ref l, .int (dn (sq ts os))] H' := i_tupk (by show 2 ≤ 100000; decide) fun p H2 np s2 h2 => q H2 p l ys (sm.trans s2) h2 (SqL.of (s2 _ _ hl)) (PrL.mono (smT s2) hP)
      refine i_itd (fun c => ?_) (fun c => ?_)
      · walk_at "go"
        exact fin
      · walk_at "go"
        have e : os = [] := List.length_eq_zero_iff.mp (by omega)
        subst e
        exact fin
/-- check_things and check_order, then run -/
def sp_done (K : PySem.W.Frag) : Sp := fun vs H Q _ => ∃ (a b : Addr) (ts : List T3) (os : List Nat), vs = [.ref a, .ref b] ∧ Things K H a ts ∧ SqL K H b ((zs os).map V.int) ∧ (∀ t ∈ ts, Nn t) ∧ ts.length ≤ 1000 ∧ os.Perm (List.range ts.length) ∧
  ∀ H', Same H H' → Q (.int (dn (sq ts os))) H'
theorem ok_done (B : Blt mg) (c_check_things : Cal P w K mg base 3 "check_things" (sp_check K)) (c_check_order : Cal P w K mg base 3 "check_order" (sp_chord K)) (c_run : Cal P w K mg base 1 "run" (sp_run K)) (D : Def K mg "done" s_done ["things", "order"]) : Cal P w K mg base 4 "done" (sp_done K) := by
  refine D.cal sc_done (fun vs H Q E h => ?_) (fun f cdv A outer s H vs Q E hr h => ?_)
  · obtain ⟨a, b, ts, os, rfl, _⟩ := h
    rfl
  · obtain ⟨a, b, ts, os, rfl, hT, hO, hn, hz, hp, q⟩ := h
    refine ⟨_, pss_cons (ps_expr (pe_cal c_check_things hr (by decide) (by rfl) (pa_cons (pv 0) pa_nil)))
    (pss_cons (ps_expr (pe_cal c_check_order hr (by decide) (by rfl) (pa_cons (pv 0) (pa_cons (pv 1) pa_nil))))
    (pss_one (ps_ret (pe_ix (r := rIxT K) ix_tup (pe_cal c_run hr (by decide) (by rfl) (pa_cons (pv 0) (pa_cons (pv 1) pa_nil))) pe_int (fun _ _ => rfl))))), ?_⟩
    walk_at "go"
    refine ⟨a, ts, rfl, hT, hn, hz, fun H1 s1 => ?_⟩
    walk_at "go"
    refine ⟨a, b, ts, os, rfl, hT.mono s1, s1.seq hO, hz, hp, fun H2 s2 => ?_⟩
    walk_at "go"
    refine ⟨a, b, ts, os, rfl, (hT.mono s1).mono s2, s2.seq (s1.seq hO), perm_lt hp, by rw [perm_len hp]; exact hz, fun H3 p l vs' s3 hp3 hl3 hP => ?_⟩
    walk_at "go"
    refine i_ixT (SqT.of hp3) (v := .int (dn (sq ts os))) (atI_nat (j := 1) rfl) ?_
    walk_at "go"
    exact q _ ((s1.trans s2).trans s3)
/-- check_things and check_order, then run, by count -/
def sp_starts (K : PySem.W.Frag) : Sp := fun vs H Q _ => ∃ (a b : Addr) (ts : List T3) (os : List Nat), vs = [.ref a, .ref b] ∧ Things K H a ts ∧ SqL K H b ((zs os).map V.int) ∧ (∀ t ∈ ts, Nn t) ∧ ts.length ≤ 1000 ∧ os.Perm (List.range ts.length) ∧
  ∀ H' p ys, Same H H' → H p = none → H' p = some (.lst ys) → PrL K H' ys (setAll (List.replicate ts.length (0, 0)) os (runP 0 0 (sq ts os))) → Q (.ref p) H'
theorem ok_starts (B : Blt mg) (c_check_things : Cal P w K mg base 3 "check_things" (sp_check K)) (c_check_order : Cal P w K mg base 3 "check_order" (sp_chord K)) (c_run : Cal P w K mg base 1 "run" (sp_run K)) (D : Def K mg "starts" s_starts ["things", "order"]) : Cal P w K mg base 4 "starts" (sp_starts K) := by
  refine D.cal sc_starts (fun vs H Q E h => ?_) (fun f cdv A outer s H vs Q E hr h => ?_)
  · obtain ⟨a, b, ts, os, rfl, _⟩ := h
    rfl
  · obtain ⟨a, b, ts, os, rfl, hT, hO, hn, hz, hp, q⟩ := h
    refine ⟨_, pss_cons (ps_expr (pe_cal c_check_things hr (by decide) (by rfl) (pa_cons (pv 0) pa_nil)))
    (pss_cons (ps_expr (pe_cal c_check_order hr (by decide) (by rfl) (pa_cons (pv 0) (pa_cons (pv 1) pa_nil))))
    (pss_cons (ps_set (i := 2) sc_starts.nd rfl (.inl rfl) (pe_ix (r := rIxT K) ix_tup (pe_cal c_run hr (by decide) (by rfl) (pa_cons (pv 0) (pa_cons (pv 1) pa_nil))) pe_int (fun _ _ => rfl)))
    (pss_cons (ps_setLc (i := 3) (own := [("thing", 6)]) rfl sc_starts.nd rfl rfl (sw_true rfl rfl rfl (by decide +kernel)) (pi_list (pv 0)) (blkOk_by (N := n_starts) (sc := defScope s_starts) (by decide +kernel)) (fun _ _ _ _ _ => (pg_name (i := 6) sc_starts.nd rfl (.inl rfl))) (fun _ _ _ _ _ => pts_nil) (fun _ _ _ _ _ => (pe_tup (pa_cons pe_int (pa_cons pe_int pa_nil)))))
    (pss_cons (ps_for PassesOwn.never rfl (pi_enum (by rfl) B.enumerate (pa_cons (pv 1) pa_nil)) (pg_tup (n := 2) rfl (pgs_cons (pg_name (i := 4) sc_starts.nd rfl (.inl rfl)) (pgs_cons (pg_name (i := 5) sc_starts.nd rfl (.inl rfl)) pgs_nil)) : PG _ _ (gTup K 2 (gCons (gName 4) (gCons (gName 5) gNil))))
      (pss_one (ps_asg (pe_ix (r := rIxL K) ix_list (pv 2) (pv 4) (fun _ _ => rfl)) (pg_sub (pv 3) (pv 5) set_list))))
    (pss_one (ps_ret (pv 3))))))), ?_⟩
    walk_at "go"
    refine ⟨a, ts, rfl, hT, hn, hz, fun H1 s1 => ?_⟩
    walk_at "go"
    refine ⟨a, b, ts, os, rfl, hT.mono s1, s1.seq hO, hz, hp, fun H2 s2 => ?_⟩
    walk_at "go"
    refine ⟨a, b, ts, os, rfl, (hT.mono s1).mono s2, s2.seq (s1.seq hO), perm_lt hp, by rw [perm_len hp]; exact hz, fun H3 p l vs' s3 hp3 hl3 hP => ?_⟩
    walk_at "go"
    refine i_ixT (SqT.of hp3) (v := .ref l) (atI_nat (j := 0) rfl) ?_
    have s4 : Same H H3 := (s1.trans s2).trans s3
    obtain ⟨vs, hs, hT3⟩ := hT.mono s4
    walk_at "go"
    refine i_itl hs ?_
    refine fun p0 hp0 => lc_map (K := K) (R := fun _ y H => IsP K H y (0, 0)) (fun e h => h.mono e) sqn_l (fun H' e => e.seq hs) (by rw [hT3.len]; omega) hp0 (fun i x H' Qc Qn hx sm k => ?_) (fun ys H' sm hy hl hr => ?_)
    · walk_at "go"
      refine ⟨rfl, ?_⟩
      walk_at "go"
      refine i_tupk (by show 2 ≤ 100000; decide) fun p1 H2 np1 s2 h2 => ?_
      exact k _ _ s2 ⟨p1, rfl, SqT.of h2⟩
    · walk_at "go"
      have hl' : ys.length = ts.length := by rw [hl, hT3.len]
      have np0 : H p0 = none := s4.free hp0
      have h0 : PrL K H' ys (List.replicate ts.length (0, 0)) := ⟨by rw [List.length_replicate]; exact hl', fun i x y h1 h2 => by
        have e : y = (0, 0) := by
          have := List.mem_of_getElem? h2
          exact (List.mem_replicate.mp this).2
        rw [e]
        exact hr i x h1⟩
      refine i_itn ((s4.trans sm).seq hO) ?_
      have Lr : (runP 0 0 (sq ts os)).length = os.length := by rw [runP_len, sq_len]
      refine for_enum (K := K) (xs := (zs os).map V.int) (fun i σ' H' => ∃ y6 y7 ys, σ' = [some (.ref a), some (.ref b), some (.ref l), some (.ref p0), y6, y7, none] ∧ Same H3 H' ∧ H' p0 = some (.lst ys) ∧ PrL K H' ys (setAll (List.replicate ts.length (0, 0)) (os.take i) ((runP 0 0 (sq ts os)).take i))) ?_ ?_ ?_ ?_
      · exact ⟨_, _, ys, rfl, sm, hy, h0⟩
      · rintro i σ' H' ⟨_, _, _, _, sm', _⟩
        exact (s4.trans sm').seq hO
      · rintro i x T σ' H4 H5 hx ⟨y6, y7, zs', rfl, sm', hy', hP'⟩ nT s5 e5
        obtain ⟨k, hk1, rfl⟩ := zs_at hx
        have hT5 : H5 T = some (.tup [.int (i : Nat), .int (k : Int)]) := by rw [e5]; exact upd_same
        refine i_gtup (SqT.of hT5) rfl ?_
        walk_at "go"
        have hi : i < (runP 0 0 (sq ts os)).length := by
          rw [Lr]
          exact (List.getElem?_eq_some_iff.mp hk1).1
        obtain ⟨v, hv, hv2⟩ := hP.at_ (List.getElem?_eq_getElem hi)
        have sm5 : Same H3 H5 := sm'.trans s5
        refine i_ixL (sm5.seq hl3) (v := v) (atI_nat hv) ?_
        walk_at "go"
        have hk2 : k < zs'.length := by
          rw [hP'.len, setAll_len, List.length_replicate]
          exact perm_lt hp k (List.mem_of_getElem? hk1)
        refine i_setL (s5 _ _ hy') (ixN_nat hk2) ?_
        refine ⟨_, _, zs'.set k v, rfl, Same.mut sm5 hp0, upd_same, ?_⟩
        rw [setAll_take os _ _ i k _ hk1 (List.getElem?_eq_getElem hi)]
        exact PrL.mono (sameT_lst (s5 _ _ hy')) (All2.set (PrL.mono (smT s5) hP') (hv2.mono (smT sm5)))
      · rintro σ' H4 ⟨y6, y7, zs', rfl, sm', hy', hP'⟩
        walk_at "go"
        rw [zs_len', List.take_length, ← Lr, List.take_length] at hP'
        exact q H4 p0 zs' (s4.trans sm') np0 hy' hP'
end
abbrev s__law_cell_at : Stmt := topS 14
abbrev n__law_cell_at : List Str := ["_law_script", "_law_k"]
theorem sc__law_cell_at : FnScope n__law_cell_at ["_law_script", "_law_k"] (defScope s__law_cell_at) := ⟨rfl, rfl, rfl, by decide +kernel, rfl, by decide +kernel, by decide +kernel⟩
abbrev s__law_draw : Stmt := topS 15
abbrev n__law_draw : List Str := ["_law_cell", "_law_k", "_law_many", "_law_primes"]
theorem sc__law_draw : FnScope n__law_draw ["_law_cell", "_law_k", "_law_many"] (defScope s__law_draw) := ⟨rfl, rfl, rfl, by decide +kernel, rfl, by decide +kernel, by decide +kernel⟩
abbrev s__law_things : Stmt := topS 16
abbrev n__law_things : List Str := ["_law_script", "_law_kind", "_law_found", "_law_k", "_law_three", "_law_most", "_law_cell", "_law_one", "_law_rest", "_law_dry", "_law_other"]
theorem sc__law_things : FnScope n__law_things ["_law_script"] (defScope s__law_things) := ⟨rfl, rfl, rfl, by decide +kernel, rfl, by decide +kernel, by decide +kernel⟩
abbrev s__law_done : Stmt := topS 17
abbrev n__law_done : List Str := ["_law_things_here", "_law_order_here", "_law_ahead", "_law_behind", "_law_found", "_law_at"]
theorem sc__law_done : FnScope n__law_done ["_law_things_here", "_law_order_here"] (defScope s__law_done) := ⟨rfl, rfl, rfl, by decide +kernel, rfl, by decide +kernel, by decide +kernel⟩
abbrev s__law_whole : Stmt := topS 20
abbrev n__law_whole : List Str := ["_law_number"]
theorem sc__law_whole : FnScope n__law_whole ["_law_number"] (defScope s__law_whole) := ⟨rfl, rfl, rfl, by decide +kernel, rfl, by decide +kernel, by decide +kernel⟩
abbrev s__law_drawn : Stmt := topS 21
abbrev n__law_drawn : List Str := ["_law_script", "_law_many", "_law_found", "_law_at", "_law_spot"]
theorem sc__law_drawn : FnScope n__law_drawn ["_law_script", "_law_many"] (defScope s__law_drawn) := ⟨rfl, rfl, rfl, by decide +kernel, rfl, by decide +kernel, by decide +kernel⟩
/-- _law_cell_at -/
def sp_cell (K : PySem.W.Frag) : Sp := fun vs H Q _ => ∃ (a : Addr) (ns : List Int) (k : Nat), vs = [.ref a, .int (k : Int)] ∧ SqL K H a (ns.map V.int) ∧ Q (.int (ns.getD k 0)) H
/-- _law_draw: some number below many -/
def sp_draw : Sp := fun vs H Q _ => ∃ (c k m : Int), vs = [.int c, .int k, .int m] ∧ 0 ≤ k ∧ 0 < m ∧ ∀ r H', Same H H' → 0 ≤ r → r < m → Q (.int r) H'
section
variable {P : Program} {w : World} {K : PySem.W.Frag} {mg : Str → Option Value} {base : Heap}
theorem ok__law_cell_at (B : Blt mg) (D : Def K mg "_law_cell_at" s__law_cell_at ["_law_script", "_law_k"]) : Cal P w K mg base 1 "_law_cell_at" (sp_cell K) := by
  refine D.cal sc__law_cell_at (fun vs H Q E h => ?_) (fun f cdv A outer s H vs Q E hr h => ?_)
  · obtain ⟨a, ns, k, rfl, _⟩ := h
    rfl
  · obtain ⟨a, ns, k, rfl, hs, q⟩ := h
    refine ⟨_, pss_cons (ps_if (pt_cmpR op_lt (pv 1) (pe_callB (r := rLenB K) cb_len (by rfl) B.len (by decide +kernel) (pa_cons (pv 0) pa_nil)) (nomark _))
      (pss_one (ps_ret (pe_ix (r := rIxL K) ix_list (pv 0) (pv 1) (fun _ _ => rfl))))
      (pss_nil))
    (pss_one (ps_ret pe_int)), ?_⟩
    walk_at "go"
    refine i_lenL hs ?_
    walk_at "go"
    rw [List.length_map]
    refine i_itd (fun c => ?_) (fun c => ?_)
    · walk_at "go"
      have hk : k < ns.length := by omega
      refine i_ixL hs (v := .int (ns.getD k 0)) (atI_nat ?_) ?_
      · rw [List.getElem?_map, List.getD_eq_getElem?_getD, List.getElem?_eq_getElem hk]; rfl
      · exact q
    · walk_at "go"
      have e : ns.getD k 0 = 0 := by
        rw [List.getD_eq_getElem?_getD, List.getElem?_eq_none (by omega)]; rfl
      rw [e] at q
      exact q
def primes : List Int := [1000003, 1000033, 1000037, 1000039, 1000081, 1000099, 1000117, 1000121, 1000133, 1000151, 1000159, 1000171, 1000183, 1000187, 1000193, 1000199]
theorem ok__law_draw (B : Blt mg) (D : Def K mg "_law_draw" s__law_draw ["_law_cell", "_law_k", "_law_many"]) : Cal P w K mg base 1 "_law_draw" sp_draw := by
  refine D.cal sc__law_draw (fun vs H Q E h => ?_) (fun f cdv A outer s H vs Q E hr h => ?_)
  · obtain ⟨c, k, m, rfl, _⟩ := h
    rfl
  · obtain ⟨c, k, m, rfl, hk, hm, q⟩ := h
    refine ⟨_, pss_cons (ps_set (i := 3) sc__law_draw.nd rfl (.inl rfl) (pe_tup (pa_cons pe_int (pa_cons pe_int (pa_cons pe_int (pa_cons pe_int (pa_cons pe_int (pa_cons pe_int (pa_cons pe_int (pa_cons pe_int (pa_cons pe_int (pa_cons pe_int (pa_cons pe_int (pa_cons pe_int (pa_cons pe_int (pa_cons pe_int (pa_cons pe_int (pa_cons pe_int pa_nil))))))))))))))))))
    (pss_one (ps_ret (pe_op op_mod (pe_op op_mod (pe_op op_add (pe_op op_mul (pv 0) pe_int) (pe_op op_mul (pv 1) pe_int)) (pe_ix (r := rIxT K) ix_tup (pv 3) (pe_op op_mod (pv 1) pe_int) (fun _ _ => rfl))) (pv 2)))), ?_⟩
    walk_at "go"
    refine i_tupk (xs := primes.map V.int) (by show 16 ≤ 100000; decide) fun p H1 np s1 h1 => ?_
    walk_at "go"
    refine i_I (.inr ⟨by decide, by decide⟩) ?_
    walk_at "go"
    refine i_I (.inr ⟨by decide, by decide⟩) ?_
    walk_at "go"
    refine i_I (by show (0 : Int) < 16; decide) ?_
    walk_at "go"
    have hj : (k % 16).toNat < primes.length := by show (k % 16).toNat < 16; omega
    have ej : k % 16 = (((k % 16).toNat : Nat) : Int) := by omega
    have hpos : ∀ x ∈ primes, 0 < x := by decide
    obtain ⟨pr, hpr⟩ : ∃ pr, primes[(k % 16).toNat]? = some pr := ⟨_, List.getElem?_eq_getElem hj⟩
    refine i_ixT (SqT.of h1) (v := .int pr) (by rw [ej]; exact atI_nat (by rw [List.getElem?_map, hpr]; rfl)) ?_
    refine i_I (hpos pr (List.mem_of_getElem? hpr)) ?_
    walk_at "go"
    refine i_I hm ?_
    exact q _ _ s1 (Int.emod_nonneg _ (by omega)) (Int.emod_lt_of_pos _ hm)
/-- lengths of at most sixty figures -/
def Sm (t : T3) : Prop := Nn t ∧ t.1 < 10 ^ 60 ∧ t.2.1 < 10 ^ 60 ∧ t.2.2 < 10 ^ 60
def sp_things (K : PySem.W.Frag) : Sp := fun vs H Q _ => ∃ (a : Addr) (ns : List Int), vs = [.ref a] ∧ SqL K H a (ns.map V.int) ∧ ns.length ≤ 63 ∧
  ∀ H' p vs' ts, Same H H' → H p = none → H' p = some (.lst vs') → ThL K H' vs' ts → (∀ t ∈ ts, Sm t) → ts.length ≤ 189 → Q (.ref p) H'
theorem p60_59 {r : Int} (h : r < (10 : Int) ^ (59 : Int).toNat) : r < 10 ^ 60 := Int.lt_trans h (by decide)
theorem p60_20 {r m : Int} (h : r < m) (hm : m ≤ 10 ^ 20) : r < 10 ^ 60 := Int.lt_trans (Int.lt_of_lt_of_le h hm) (by decide)
theorem dr_bound {r m : Int} (h0 : 0 ≤ r) (h1 : r < 200) (hm : 0 < m) (hm1 : m ≤ 10 ^ 20) : 0 ≤ r * m / 9 ∧ r * m / 9 < 10 ^ 60 := by
  have a := Int.mul_nonneg h0 (Int.le_of_lt hm)
  have b : r * m ≤ 200 * 10 ^ 20 := Int.mul_le_mul (Int.le_of_lt h1) hm1 (Int.le_of_lt hm) (by decide)
  have c : (200 : Int) * 10 ^ 20 < 10 ^ 60 := by decide
  generalize r * m = z at *
  omega
def mosts : List Int := [3, 10, (10 : Int) ^ (20 : Int).toNat]
def drys : List Int := [1, 30, 200]
theorem ok__law_things (B : Blt mg) (c__law_cell_at : Cal P w K mg base 1 "_law_cell_at" (sp_cell K)) (c__law_draw : Cal P w K mg base 1 "_law_draw" sp_draw) (D : Def K mg "_law_things" s__law_things ["_law_script"]) : Cal P w K mg base 2 "_law_things" (sp_things K) := by
  refine D.cal sc__law_things (fun vs H Q E h => ?_) (fun f cdv A outer s H vs Q E hr h => ?_)
  · obtain ⟨a, ns, rfl, _⟩ := h
    rfl
  · obtain ⟨a, ns, rfl, hs, hz, q⟩ := h
    refine ⟨_, pss_cons (ps_set (i := 0) sc__law_things.nd rfl (.inl rfl) (pe_slice (r := rSlL K) sl_list (pv 0) po_none (po_some pe_int)))
    (pss_cons (ps_par (i := 1) (j := 2) rfl sc__law_things.nd rfl rfl (by decide) rfl rfl (pa_cons (pe_cal c__law_draw hr (by decide) (by rfl) (pa_cons (pe_cal c__law_cell_at hr (by decide) (by rfl) (pa_cons (pv 0) (pa_cons pe_int pa_nil))) (pa_cons pe_int (pa_cons pe_int pa_nil)))) (pa_cons (pe_lst pa_nil) pa_nil)) (by rfl))
    (pss_cons (ps_if (pt_cmpR op_eq (pe_op op_mod (pe_callB (r := rLenB K) cb_len (by rfl) B.len (by decide +kernel) (pa_cons (pv 0) pa_nil)) pe_int) pe_int (nomark _))
      (pss_cons (ps_for PassesOwn.never rfl (pi_range3 (by rfl) B.range (pa_cons pe_int (pa_cons (pe_callB (r := rLenB K) cb_len (by rfl) B.len (by decide +kernel) (pa_cons (pv 0) pa_nil)) (pa_cons pe_int pa_nil)))) (pg_name (i := 3) sc__law_things.nd rfl (.inl rfl))
          (pss_cons (ps_setLc (i := 4) (own := [("_law_cell", 6)]) rfl sc__law_things.nd rfl rfl (sw_true rfl rfl rfl (by decide +kernel)) (pi_list (pe_slice (r := rSlL K) sl_list (pv 0) (po_some (pv 3)) (po_some (pe_op op_add (pv 3) pe_int)))) (blkOk_by (N := n__law_things) (sc := defScope s__law_things) (by decide +kernel)) (fun _ _ _ _ _ => (pg_name (i := 6) sc__law_things.nd rfl (.inl rfl))) (fun _ _ _ _ _ => pts_nil) (fun _ _ _ _ _ => (pe_op op_mod (pv 6) (pe_op op_pow pe_int pe_int))))
            (pss_one (ps_expr (pe_bm PySem.F.plainAttrs_list PySem.F.slot_list_append PySem.F.type_list_append mt_append (pv 2) (pa_cons (pe_tup (pa_cons (pe_ix (r := rIxL K) ix_list (pv 4) pe_int (fun _ _ => rfl)) (pa_cons (pe_ix (r := rIxL K) ix_list (pv 4) pe_int (fun _ _ => rfl)) (pa_cons (pe_ix (r := rIxL K) ix_list (pv 4) pe_int (fun _ _ => rfl)) pa_nil)))) pa_nil))))))
        (pss_one (ps_ret (pv 2))))
      (pss_nil))
    (pss_cons (ps_set (i := 5) sc__law_things.nd rfl (.inl rfl) (pe_ix (r := rIxT K) ix_tup (pe_tup (pa_cons pe_int (pa_cons pe_int (pa_cons (pe_op op_pow pe_int pe_int) pa_nil)))) (pe_cal c__law_draw hr (by decide) (by rfl) (pa_cons (pe_cal c__law_cell_at hr (by decide) (by rfl) (pa_cons (pv 0) (pa_cons pe_int pa_nil))) (pa_cons pe_int (pa_cons pe_int pa_nil)))) (fun _ _ => rfl)))
    (pss_cons (ps_for PassesOwn.never rfl (pi_range1 (by rfl) B.range (pa_cons (pe_op op_mul (pe_callB (r := rLenB K) cb_len (by rfl) B.len (by decide +kernel) (pa_cons (pv 0) pa_nil)) (pe_ifExp (pt_cmpR op_eq (pv 1) pe_int (nomark _)) pe_int pe_int)) pa_nil)) (pg_name (i := 3) sc__law_things.nd rfl (.inl rfl))
      (pss_cons (ps_set (i := 6) sc__law_things.nd rfl (.inl rfl) (pe_op op_add (pe_ix (r := rIxL K) ix_list (pv 0) (pe_op op_mod (pv 3) (pe_callB (r := rLenB K) cb_len (by rfl) B.len (by decide +kernel) (pa_cons (pv 0) pa_nil))) (fun _ _ => rfl)) (pe_op op_mul pe_int (pe_op op_fdivW (pv 3) (pe_callB (r := rLenB K) cb_len (by rfl) B.len (by decide +kernel) (pa_cons (pv 0) pa_nil))))))
        (pss_cons (ps_par (i := 7) (j := 8) rfl sc__law_things.nd rfl rfl (by decide) rfl rfl (pa_cons (pe_op op_mod (pv 6) (pv 5)) (pa_cons (pe_op op_fdivW (pv 6) (pv 5)) pa_nil)) (by rfl))
        (pss_cons (ps_par (i := 9) (j := 10) rfl sc__law_things.nd rfl rfl (by decide) rfl rfl (pa_cons (pe_op op_mod (pv 8) (pv 5)) (pa_cons (pe_op op_mod (pe_op op_fdivW (pv 8) (pv 5)) (pv 5)) pa_nil)) (by rfl))
        (pss_mid (ps_if (pt_cmpR op_gt (pv 1) pe_int (nomark _))
          (pss_cons (ps_set (i := 7) sc__law_things.nd rfl (.inl rfl) (pe_op op_fdivW (pe_op op_mul (pe_cal c__law_draw hr (by decide) (by rfl) (pa_cons (pv 6) (pa_cons (pe_op op_add (pe_op op_mod (pv 3) pe_int) pe_int) (pa_cons pe_int pa_nil)))) (pv 5)) pe_int))
            (pss_cons (ps_set (i := 9) sc__law_things.nd rfl (.inl rfl) (pe_op op_fdivW (pe_op op_mul (pe_cal c__law_draw hr (by decide) (by rfl) (pa_cons (pe_op op_add (pe_op op_mul (pv 6) pe_int) (pv 3)) (pa_cons (pe_op op_add (pe_op op_mod (pv 3) pe_int) pe_int) (pa_cons (pe_ix (r := rIxT K) ix_tup (pe_tup (pa_cons pe_int (pa_cons pe_int (pa_cons pe_int pa_nil)))) (pe_cal c__law_draw hr (by decide) (by rfl) (pa_cons (pv 6) (pa_cons pe_int (pa_cons pe_int pa_nil)))) (fun _ _ => rfl)) pa_nil)))) (pv 5)) pe_int))
            (pss_one (ps_set (i := 10) sc__law_things.nd rfl (.inl rfl) (pe_op op_fdivW (pe_op op_mul (pe_cal c__law_draw hr (by decide) (by rfl) (pa_cons (pe_op op_add (pe_op op_mul (pv 6) pe_int) pe_int) (pa_cons (pe_op op_add (pe_op op_mod (pv 3) pe_int) pe_int) (pa_cons pe_int pa_nil)))) (pv 5)) pe_int)))))
          (pss_nil))
        (pss_mid (ps_if (pt_cmpR op_eq (pv 1) pe_int (nomark _))
          (pss_one (ps_set (i := 9) sc__law_things.nd rfl (.inl rfl) pe_int))
          (pss_nil))
        (pss_mid (ps_if (PW.pt (pw_and (pt_cmpR op_eq (pv 1) pe_int (nomark _)) (pw_and1 (pt_cmpR op_lt (pv 7) (pv 10) (nomark _)))))
          (pss_one (ps_par (i := 7) (j := 10) rfl sc__law_things.nd rfl rfl (by decide) rfl rfl (pa_cons (pv 10) (pa_cons (pv 7) pa_nil)) (by rfl)))
          (pss_nil))
        (pss_one (ps_expr (pe_bm PySem.F.plainAttrs_list PySem.F.slot_list_append PySem.F.type_list_append mt_append (pv 2) (pa_cons (pe_tup (pa_cons (pv 7) (pa_cons (pv 9) (pa_cons (pv 10) pa_nil)))) pa_nil)))))))))))
    (pss_one (ps_ret (pv 2))))))), ?_⟩
    walk_at "go"
    refine i_slL hs fun p1 H1 np1 s1 h1 => ?_
    rw [show (63 : Int) = ((63 : Nat) : Int) from rfl, cut_to, List.take_of_length_le (by rw [List.length_map]; exact hz)] at h1
    walk_at "go"
    refine ⟨p1, ns, 0, rfl, SqL.of h1, ?_⟩
    walk_at "go"
    refine ⟨_, 6, 6, rfl, by decide, by decide, fun kind H2 s2 hk0 hk1 => ?_⟩
    walk_at "go"
    refine i_lstk (Nat.zero_le _) fun pf H3 npf s3 h3 => ?_
    have sl : ∀ {H'}, Same H2 H' → SqL K H' p1 (ns.map V.int) := fun e => e.seq (s2.seq (SqL.of h1))
    have nf : H pf = none := (s1.trans s2).free npf
    walk_at "go"
    refine i_lenL (sl s3) ?_
    walk_at "go"
    refine i_I (by show (0 : Int) < 3; decide) ?_
    walk_at "go"
    rw [List.length_map]
    refine i_itd (fun c3 => ?_) (fun c3 => ?_)
    · walk_at "go"
      refine i_lenL (sl s3) ?_
      walk_at "go"
      rw [List.length_map]
      refine i_itc (rg3 hz) ?_
      refine for_rangeC (fun i σ' H' => ∃ y3 y4 vs' ts, σ' = [some (.ref p1), some (.int kind), some (.ref pf), y3, y4, none, none, none, none, none, none] ∧ Same H2 H' ∧ H' pf = some (.lst vs') ∧ ThL K H' vs' ts ∧ (∀ t ∈ ts, Sm t) ∧ ts.length = i) ?_ ?_ ?_
      · exact ⟨_, _, [], [], rfl, s3, h3, All2.nil, (fun t h => by cases h), rfl⟩
      · rintro i σ' H' hi ⟨y3, y4, vs', ts, rfl, sm, hf, hT, hS, hl⟩
        walk_at "go"
        refine i_slL (sl sm) fun p4 H4 np4 s4 h4 => ?_
        have hi3 : i * 3 + 3 ≤ ns.length := by omega
        rw [show (0 : Int) + (i : Nat) * 3 = ((i * 3 : Nat) : Int) by omega, show ((i * 3 : Nat) : Int) + 3 = ((i * 3 + 3 : Nat) : Int) by omega, cut_mid _ _ _ (by rw [List.length_map]; exact hi3)] at h4
        walk_at "go"
        refine i_itl (SqL.of h4) ?_
        have l3 : (((ns.map V.int).drop (i * 3)).take 3).length = 3 := by rw [List.length_take, List.length_drop, List.length_map]; omega
        refine fun p5 np5 => lc_map (K := K) (R := fun _ y _ => ∃ r : Int, y = .int r ∧ 0 ≤ r ∧ r < (10 : Int) ^ (59 : Int).toNat) (fun _ h => h) sqn_l (fun H' e => e.seq (SqL.of h4)) (by rw [l3]; decide) np5 (fun j x H' Qc Qn hx sm k => ?_) (fun ys H5 s5 hy hl5 hr5 => ?_)
        · obtain ⟨m, rfl⟩ : ∃ m : Int, x = .int m := by
            have hm := List.mem_of_mem_drop (List.mem_of_mem_take (List.mem_of_getElem? hx))
            obtain ⟨m, _, e⟩ := List.mem_map.mp hm
            exact ⟨m, e.symm⟩
          walk_at "go"
          refine ⟨rfl, ?_⟩
          walk_at "go"
          refine i_I (⟨by decide, by decide, by decide⟩ : CPow 10 59) ?_
          have pp : (0 : Int) < (10 : Int) ^ (59 : Int).toNat := by decide
          refine i_I pp ?_
          exact k _ _ (Same.refl _) ⟨_, rfl, Int.emod_nonneg _ (by omega), Int.emod_lt_of_pos _ pp⟩
        · rw [l3] at hl5
          obtain ⟨r0, e0, b0, c0⟩ := hr5 0 ys[0] (List.getElem?_eq_getElem (by omega))
          obtain ⟨r1, e1, b1, c1⟩ := hr5 1 ys[1] (List.getElem?_eq_getElem (by omega))
          obtain ⟨r2, e2, b2, c2⟩ := hr5 2 ys[2] (List.getElem?_eq_getElem (by omega))
          have nf5 : H5 pf = some (.lst vs') := s5 _ _ (s4 _ _ hf)
          walk_at "go"
          refine ⟨ty_lst nf5, ?_⟩
          walk_at "go"
          refine i_ixL (SqL.of hy) (v := .int r0) (atI_nat (j := 0) (by rw [← e0]; exact List.getElem?_eq_getElem (by omega))) ?_
          walk_at "go"
          refine i_ixL (SqL.of hy) (v := .int r1) (atI_nat (j := 1) (by rw [← e1]; exact List.getElem?_eq_getElem (by omega))) ?_
          walk_at "go"
          refine i_ixL (SqL.of hy) (v := .int r2) (atI_nat (j := 2) (by rw [← e2]; exact List.getElem?_eq_getElem (by omega))) ?_
          walk_at "go"
          refine i_tupk (by show 3 ≤ 100000; decide) fun p6 H6 np6 s6 h6 => ?_
          walk_at "go"
          refine i_app (s6 _ _ nf5) (by rw [hT.len, hl]; omega) ?_
          walk_at "go"
          refine ⟨_, _, vs' ++ [.ref p6], ts ++ [(r0, r1, r2)], rfl, Same.mut (((sm.trans s4).trans s5).trans s6) npf, upd_same, ThL.mono (sameT_lst (s6 _ _ nf5)) (All2.snoc (ThL.mono (smT ((s4.trans s5).trans s6)) hT) ⟨p6, rfl, SqT.of h6⟩), fun t ht => ?_, by rw [List.length_append, hl]; rfl⟩
          rcases List.mem_append.mp ht with ht | ht
          · exact hS t ht
          · rw [List.mem_singleton.mp ht]
            exact ⟨⟨b0, b1, b2⟩, p60_59 c0, p60_59 c1, p60_59 c2⟩
      · rintro σ' H' ⟨y3, y4, vs', ts, rfl, sm, hf, hT, hS, hl⟩
        walk_at "go"
        exact q H' pf vs' ts ((s1.trans s2).trans sm) nf hf hT hS (by omega)
    · walk_at "go"
      refine i_I (⟨by decide, by decide, by decide⟩ : CPow 10 20) ?_
      walk_at "go"
      refine i_tupk (xs := mosts.map V.int) (by show 3 ≤ 100000; decide) fun pt H4 npt s4 h4 => ?_
      walk_at "go"
      refine ⟨p1, ns, 1, rfl, sl (s3.trans s4), ?_⟩
      walk_at "go"
      refine ⟨_, 7, 3, rfl, by decide, by decide, fun r H5 s5 r0 r1 => ?_⟩
      have er : r = ((r.toNat : Nat) : Int) := by omega
      obtain ⟨most, hmost⟩ : ∃ m, mosts[r.toNat]? = some m := ⟨_, List.getElem?_eq_getElem (by show r.toNat < 3; omega)⟩
      have hm : 0 < most ∧ most ≤ 10 ^ 20 := (by decide : ∀ x ∈ mosts, 0 < x ∧ x ≤ 10 ^ 20) most (List.mem_of_getElem? hmost)
      have hml : most.natAbs.log2 < 9000 := log_small (by
        have h1 := hm.2
        have h2 : (10 : Int) ^ 20 < 2 ^ 200 := by decide
        have h3 : ((most.natAbs : Nat) : Int) < ((2 ^ 200 : Nat) : Int) := by
          rw [show ((2 ^ 200 : Nat) : Int) = (2 : Int) ^ 200 by decide]
          omega
        exact Int.ofNat_lt.mp h3)
      refine i_ixT (SqT.of (s5 _ _ h4)) (v := .int most) (by rw [er]; exact atI_nat (by rw [List.getElem?_map, hmost]; rfl)) ?_
      walk_at "go"
      have sq5 : Same H2 H5 := (s3.trans s4).trans s5
      refine i_lenL (sl sq5) ?_
      walk_at "go"
      rw [List.length_map]
      refine i_itdC fun v hv => ?_
      obtain ⟨c, rfl, hc⟩ : ∃ c : Nat, v = .int (c : Int) ∧ c ≤ 3 := by
        rcases hv with rfl | rfl
        · exact ⟨3, rfl, by decide⟩
        · exact ⟨1, rfl, by decide⟩
      refine i_I (.inl ⟨by omega, by omega⟩) ?_
      walk_at "go"
      have hmul : ns.length * c ≤ 189 := Nat.mul_le_mul hz hc
      refine i_itr (m := ns.length * c) (by rw [Int.natCast_mul]) (by omega) ?_
      refine for_rng (fun i σ' H' => ∃ y3 y6 y7 y8 y9 y10 vs' ts, σ' = [some (.ref p1), some (.int kind), some (.ref pf), y3, none, some (.int most), y6, y7, y8, y9, y10] ∧ Same H2 H' ∧ H' pf = some (.lst vs') ∧ ThL K H' vs' ts ∧ (∀ t ∈ ts, Sm t) ∧ ts.length = i) ?_ ?_ ?_
      · exact ⟨_, _, _, _, _, _, [], [], rfl, sq5, s5 _ _ (s4 _ _ h3), All2.nil, (fun t h => by cases h), rfl⟩
      · rintro i σ' H' hi ⟨y3, y6, y7, y8, y9, y10, vs', ts, rfl, sm, hf, hT, hS, hl⟩
        have hpos : 0 < ns.length := by
          rcases Nat.eq_zero_or_pos ns.length with e | e
          · rw [e, Nat.zero_mul] at hi; omega
          · exact e
        walk_at "go"
        refine i_lenL (sl sm) ?_
        rw [List.length_map]
        refine i_I (by omega) ?_
        have hix : ((i : Int) % (ns.length : Int)) = ((i % ns.length : Nat) : Int) := by omega
        obtain ⟨n0, hn0⟩ : ∃ m, ns[i % ns.length]? = some m := ⟨_, List.getElem?_eq_getElem (Nat.mod_lt _ hpos)⟩
        refine i_ixL (sl sm) (v := .int n0) (by rw [hix]; exact atI_nat (by rw [List.getElem?_map, hn0]; rfl)) ?_
        walk_at "go"
        refine i_lenL (sl sm) ?_
        rw [List.length_map]
        refine i_I (⟨by omega, log_small (by rw [Int.natAbs_natCast]; exact Nat.lt_of_le_of_lt hz (by decide))⟩ : CDivW _ _) ?_
        refine i_I (.inl ⟨by decide, by decide⟩) ?_
        walk_at "go"
        generalize n0 + 977 * ((i : Int) / (ns.length : Int)) = cell
        refine i_I hm.1 ?_
        walk_at "go"
        refine i_I (⟨hm.1, hml⟩ : CDivW _ _) ?_
        walk_at "go"
        refine i_I hm.1 ?_
        walk_at "go"
        refine i_I (⟨hm.1, hml⟩ : CDivW _ _) ?_
        walk_at "go"
        refine i_I hm.1 ?_
        walk_at "go"
        have md : ∀ x : Int, 0 ≤ x % most ∧ x % most < 10 ^ 60 := fun x => ⟨Int.emod_nonneg _ (by omega), p60_20 (Int.emod_lt_of_pos _ hm.1) hm.2⟩
        have b1 := md cell
        have b2 := md (cell / most)
        have b3 := md (cell / most / most)
        generalize cell % most = one0 at b1
        generalize cell / most % most = dry0 at b2
        generalize cell / most / most % most = oth0 at b3
        generalize cell / most = rest0
        let W : L2.St → Hp → Prop := fun σ'' H'' => ∃ one dry oth : Int, σ'' = [some (.ref p1), some (.int kind), some (.ref pf), some (.int (i : Int)), none, some (.int most), some (.int cell), some (.int one), some (.int rest0), some (.int dry), some (.int oth)] ∧ Same H' H'' ∧ (0 ≤ one ∧ one < 10 ^ 60) ∧ (0 ≤ dry ∧ dry < 10 ^ 60) ∧ (0 ≤ oth ∧ oth < 10 ^ 60)
        refine i_mid W ?_ ?_
        · walk_at "go"
          refine i_itd (fun c2 => ?_) (fun c2 => ?_)
          · walk_at "go"
            refine i_I (by show (0 : Int) < 5; decide) ?_
            walk_at "go"
            refine ⟨_, _, 30, rfl, by omega, by decide, fun d1 H6 s6 d10 d11 => ?_⟩
            walk_at "go"
            refine i_I (.inl ⟨by omega, by omega⟩) ?_
            walk_at "go"
            refine i_I (⟨by decide, by decide⟩ : CDivW _ 9) ?_
            walk_at "go"
            refine i_I (.inr ⟨by decide, by decide⟩) ?_
            walk_at "go"
            refine i_I (by show (0 : Int) < 7; decide) ?_
            walk_at "go"
            refine i_tupk (xs := drys.map V.int) (by show 3 ≤ 100000; decide) fun pd H7 npd s7 h7 => ?_
            walk_at "go"
            refine ⟨_, 3, 3, rfl, by decide, by decide, fun r2 H8 s8 r20 r21 => ?_⟩
            have er2 : r2 = ((r2.toNat : Nat) : Int) := by omega
            obtain ⟨dm, hdm⟩ : ∃ m, drys[r2.toNat]? = some m := ⟨_, List.getElem?_eq_getElem (by show r2.toNat < 3; omega)⟩
            have hd : 0 < dm ∧ dm ≤ 200 := (by decide : ∀ x ∈ drys, 0 < x ∧ x ≤ 200) dm (List.mem_of_getElem? hdm)
            refine i_ixT (SqT.of (s8 _ _ h7)) (v := .int dm) (by rw [er2]; exact atI_nat (by rw [List.getElem?_map, hdm]; rfl)) ?_
            walk_at "go"
            refine ⟨_, _, dm, rfl, by omega, hd.1, fun d2 H9 s9 d20 d21 => ?_⟩
            walk_at "go"
            refine i_I (.inl ⟨by omega, by omega⟩) ?_
            walk_at "go"
            refine i_I (⟨by decide, by decide⟩ : CDivW _ 9) ?_
            walk_at "go"
            refine i_I (.inr ⟨by decide, by decide⟩) ?_
            walk_at "go"
            refine i_I (by show (0 : Int) < 3; decide) ?_
            walk_at "go"
            refine ⟨_, _, 30, rfl, by omega, by decide, fun d3 H10 s10 d30 d31 => ?_⟩
            walk_at "go"
            refine i_I (.inl ⟨by omega, by omega⟩) ?_
            walk_at "go"
            refine i_I (⟨by decide, by decide⟩ : CDivW _ 9) ?_
            walk_at "go"
            exact ⟨_, _, _, rfl, (((s6.trans s7).trans s8).trans s9).trans s10, dr_bound d10 (by omega) hm.1 hm.2, dr_bound d20 (by omega) hm.1 hm.2, dr_bound d30 (by omega) hm.1 hm.2⟩
          · walk_at "go"
            exact ⟨one0, dry0, oth0, rfl, Same.refl _, b1, b2, b3⟩
        · rintro σ2 H6 ⟨one, dry, oth, rfl, s6, c1, c2, c3'⟩
          refine i_mid W ?_ ?_
          · walk_at "go"
            refine i_itd (fun c2 => ?_) (fun c2 => ?_)
            · walk_at "go"
              exact ⟨one, 0, oth, rfl, s6, c1, ⟨by decide, by decide⟩, c3'⟩
            · walk_at "go"
              exact ⟨one, dry, oth, rfl, s6, c1, by assumption, c3'⟩
          · rintro σ3 H7 ⟨one, dry, oth, rfl, s7, c1, c2, c3'⟩
            refine i_mid W ?_ ?_
            · walk_at "go"
              refine i_itd (fun k4 => ?_) (fun k4 => ?_)
              · walk_at "go"
                refine i_itd (fun k5 => ?_) (fun k5 => ?_)
                · walk_at "go"
                  exact ⟨oth, dry, one, rfl, s7, c3', c2, c1⟩
                · walk_at "go"
                  exact ⟨one, dry, oth, rfl, s7, c1, c2, c3'⟩
              · walk_at "go"
                exact ⟨one, dry, oth, rfl, s7, c1, c2, c3'⟩
            · rintro σ4 H8 ⟨one, dry, oth, rfl, s8, c1, c2, c3'⟩
              have hf8 := s8 _ _ hf
              walk_at "go"
              refine ⟨ty_lst hf8, ?_⟩
              walk_at "go"
              refine i_tupk (by show 3 ≤ 100000; decide) fun p6 H9 np6 s9 h9 => ?_
              walk_at "go"
              refine i_app (s9 _ _ hf8) (by rw [hT.len, hl]; omega) ?_
              walk_at "go"
              refine ⟨_, _, _, _, _, _, vs' ++ [.ref p6], ts ++ [(one, dry, oth)], rfl, Same.mut ((sm.trans s8).trans s9) npf, upd_same, ThL.mono (sameT_lst (s9 _ _ hf8)) (All2.snoc (ThL.mono (smT (s8.trans s9)) hT) ⟨p6, rfl, SqT.of h9⟩), fun t ht => ?_, by rw [List.length_append, hl]; rfl⟩
              rcases List.mem_append.mp ht with ht | ht
              · exact hS t ht
              · rw [List.mem_singleton.mp ht]
                exact ⟨⟨c1.1, c2.1, c3'.1⟩, c1.2, c2.2, c3'.2⟩
      · rintro σ' H' ⟨y3, y6, y7, y8, y9, y10, vs', ts, rfl, sm, hf, hT, hS, hl⟩
        walk_at "go"
        exact q H' pf vs' ts ((s1.trans s2).trans sm) nf hf hT hS (by omega)
end
/-- _law_done: the longest way through -/
def sp_ldone (K : PySem.W.Frag) : Sp := fun vs H Q _ => ∃ (a b : Addr) (ts : List T3) (os : List Nat), vs = [.ref a, .ref b] ∧ Things K H a ts ∧ SqL K H b ((zs os).map V.int) ∧ (∀ k ∈ os, k < ts.length) ∧ os.length ≤ 1000 ∧ ∀ H', Same H H' → Q (.int (ld (sq ts os))) H'
theorem sb_sum : ∀ l : List T3, (l.map fun t => t.2.2).sum = sb l
  | [] => rfl
  | t :: r => by rw [List.map_cons, List.sum_cons, sb_sum r, sb]
def third (ts : List T3) : V → V
  | .int z => .int (ts.getD z.toNat (0, 0, 0)).2.2
  | v => v
theorem third_map (ts : List T3) (os : List Nat) : (((zs os).map V.int).filter fun _ => true).map (third ts) = ((sq ts os).map fun t => t.2.2).map V.int := by
  rw [List.filter_eq_self.mpr fun _ _ => rfl]
  unfold zs sq
  rw [List.map_map, List.map_map, List.map_map, List.map_map]
  refine List.map_congr_left fun k _ => ?_
  show third ts (.int (k : Int)) = .int (ts.getD k (0, 0, 0)).2.2
  rfl
theorem sq_drop_cons {ts : List T3} {os : List Nat} {i k : Nat} (h : os[i]? = some k) : (sq ts os).drop i = ts.getD k (0, 0, 0) :: (sq ts os).drop (i + 1) := by
  obtain ⟨hi, e⟩ := List.getElem?_eq_some_iff.mp (sq_at (ts := ts) h)
  rw [List.drop_eq_getElem_cons hi, e]
section
variable {P : Program} {w : World} {K : PySem.W.Frag} {mg : Str → Option Value} {base : Heap}
theorem ok__law_done (B : Blt mg) (D : Def K mg "_law_done" s__law_done ["_law_things_here", "_law_order_here"]) : Cal P w K mg base 1 "_law_done" (sp_ldone K) := by
  refine D.cal sc__law_done (fun vs H Q E h => ?_) (fun f cdv A outer s H vs Q E hr h => ?_)
  · obtain ⟨a, b, ts, os, rfl, _⟩ := h
    rfl
  · obtain ⟨a, b, ts, os, rfl, hT, hO, hk, hz, q⟩ := h
    refine ⟨_, pss_cons (ps_par3 (i := 2) (j := 3) (l := 4) rfl sc__law_done.nd rfl rfl rfl (by decide) (by decide) (by decide) rfl rfl rfl (pa_cons pe_int (pa_cons (pe_callB (r := rSum K) (cr_sum rfl) (by rfl) B.sum (by decide +kernel) (pa_cons (pe_lc (own := [("_law_at", 5)]) rfl sc__law_done.nd (pi_list (pv 1)) (blkOk_by (N := n__law_done) (sc := defScope s__law_done) (by decide +kernel)) (fun _ _ _ _ _ => (pg_name (i := 5) sc__law_done.nd rfl (.inl rfl))) (fun _ _ _ _ _ => pts_nil) (fun _ _ _ _ _ => (pe_ix (r := rIxT K) ix_tup (pe_ix (r := rIxL K) ix_list (pv 0) (pv 5) (fun _ _ => rfl)) pe_int (fun _ _ => rfl)))) pa_nil)) (pa_cons pe_int pa_nil))) (by rfl))
    (pss_cons (ps_for PassesOwn.never rfl (pi_list (pv 1)) (pg_name (i := 5) sc__law_done.nd rfl (.inl rfl))
      (pss_cons (ps_set (i := 2) sc__law_done.nd rfl (.inl rfl) (pe_op op_add (pv 2) (pe_ix (r := rIxT K) ix_tup (pe_ix (r := rIxL K) ix_list (pv 0) (pv 5) (fun _ _ => rfl)) pe_int (fun _ _ => rfl))))
        (pss_cons (ps_set (i := 4) sc__law_done.nd rfl (.inl rfl) (pe_callB (cb_max2 rfl) (by rfl) B.max (by decide +kernel) (pa_cons (pv 4) (pa_cons (pe_op op_add (pe_op op_add (pv 2) (pe_ix (r := rIxT K) ix_tup (pe_ix (r := rIxL K) ix_list (pv 0) (pv 5) (fun _ _ => rfl)) pe_int (fun _ _ => rfl))) (pv 3)) pa_nil))))
        (pss_one (ps_set (i := 3) sc__law_done.nd rfl (.inl rfl) (pe_op op_sub (pv 3) (pe_ix (r := rIxT K) ix_tup (pe_ix (r := rIxL K) ix_list (pv 0) (pv 5) (fun _ _ => rfl)) pe_int (fun _ _ => rfl))))))))
    (pss_one (ps_ret (pv 4)))), ?_⟩
    walk_at "go"
    refine i_itl hO ?_
    refine fun p1 np1 => lc_fm (fun _ => true) (third ts) sqn_l (fun H' e => e.seq hO) (by rw [zs_len']; omega) np1 (fun i x H' Qc Qn hx sm k _ => ?_) (fun H1 s1 h1 => ?_)
    · obtain ⟨m, hm, rfl⟩ := zs_at hx
      walk_at "go"
      refine ⟨rfl, ?_⟩
      walk_at "go"
      refine i_thing (hT.mono sm) (getD_at (hk m (List.mem_of_getElem? hm))) fun p hp => ?_
      walk_at "go"
      refine i_ixT hp (v := .int (ts.getD m (0, 0, 0)).2.2) (atI_nat (j := 2) rfl) ?_
      exact k rfl H' (Same.refl _)
    · rw [third_map] at h1
      walk_at "go"
      refine i_sum (SqL.of h1) ?_
      rw [sb_sum]
      walk_at "go"
      refine i_itl (s1.seq hO) ?_
      refine for_list (K := K) (a := b) (xs := (zs os).map V.int) (fun i σ' H' => ∃ (m : Int) (y5 : Option V), σ' = [some (.ref a), some (.ref b), some (.int (sa ((sq ts os).take i))), some (.int (sb ((sq ts os).drop i))), some (.int m), y5] ∧ Same H H' ∧ mx (sa ((sq ts os).take i)) ((sq ts os).drop i) m = ld (sq ts os)) ?_ ?_ ?_ ?_
      · exact ⟨0, _, rfl, s1, rfl⟩
      · rintro i σ' H' _ ⟨_, _, _, sm, _⟩
        exact sm.seq hO
      · rintro i x σ' H' hx ⟨m, y5, rfl, sm, e⟩
        obtain ⟨k, hk1, rfl⟩ := zs_at hx
        have ht := getD_at (hk k (List.mem_of_getElem? hk1))
        have hT' := hT.mono sm
        rw [sq_drop_cons hk1, mx] at e
        rw [sq_drop_cons hk1, take_snoc (sq_at hk1), sa_snoc, sb]
        walk_at "go"
        refine i_thing hT' ht fun p hp => ?_
        walk_at "go"
        refine i_ixT hp (v := .int (ts.getD k (0, 0, 0)).1) (atI_nat (j := 0) rfl) ?_
        walk_at "go"
        refine i_thing hT' ht fun p2 hp2 => ?_
        walk_at "go"
        refine i_ixT hp2 (v := .int (ts.getD k (0, 0, 0)).2.1) (atI_nat (j := 1) rfl) ?_
        walk_at "go"
        refine i_thing hT' ht fun p3 hp3 => ?_
        walk_at "go"
        refine i_ixT hp3 (v := .int (ts.getD k (0, 0, 0)).2.2) (atI_nat (j := 2) rfl) ?_
        walk_at "go"
        rw [show (ts.getD k (0, 0, 0)).2.2 + sb ((sq ts os).drop (i + 1)) - (ts.getD k (0, 0, 0)).2.2 = sb ((sq ts os).drop (i + 1)) by omega]
        exact ⟨_, _, rfl, sm, e⟩
      · rintro σ' H' ⟨m, y5, rfl, sm, e⟩
        walk_at "go"
        rw [zs_len', List.drop_of_length_le (by rw [sq_len]; exact Nat.le_refl _)] at e
        have e2 : m = ld (sq ts os) := e
        rw [e2]
        exact q H' sm
theorem ok__law_whole (B : Blt mg) (D : Def K mg "_law_whole" s__law_whole ["_law_number"]) : Cal P w K mg base 1 "_law_whole" sp_whole := by
  refine D.cal sc__law_whole (fun vs H Q E h => ?_) (fun f cdv A outer s H vs Q E hr h => ?_)
  · obtain ⟨m, rfl, _⟩ := h
    rfl
  · obtain ⟨m, rfl, q⟩ := h
    refine ⟨_, pss_one (ps_ret (pe_and (pe_callB (r := rIsi K) call_isi (by rfl) B.isinstance (by decide +kernel) (pa_cons (pv 0) (pa_cons (pe_bltn (v := .ty "int") (u := .type "int") (by rfl) B.int (by decide +kernel) rfl) pa_nil))) (pe_one (pe_not (pe_callB (r := rIsi K) call_isi (by rfl) B.isinstance (by decide +kernel) (pa_cons (pv 0) (pa_cons (pe_bltn (v := .ty "bool") (u := .type "bool") (by rfl) B.bool (by decide +kernel) rfl) pa_nil))))))), ?_⟩
    walk_at "go"
    refine i_isi (r := true) ty_int (by decide +kernel) ?_
    walk_at "go"
    refine i_isi (r := false) ty_int (by decide +kernel) ?_
    walk_at "go"
    exact q
/-- _law_drawn: some order -/
def sp_drawn (K : PySem.W.Frag) : Sp := fun vs H Q _ => ∃ (a : Addr) (ns : List Int) (n : Nat), vs = [.ref a, .int (n : Int)] ∧ SqL K H a (ns.map V.int) ∧ ns.length ≤ 63 ∧ n ≤ 1000 ∧
  ∀ H' p os, Same H H' → H p = none → H' p = some (.lst ((zs os).map V.int)) → os.Perm (List.range n) → Q (.ref p) H'
theorem zs_ins (os : List Nat) (p n : Nat) : (zs (os.take p ++ [n] ++ os.drop p)).map V.int = ((zs os).map V.int).take p ++ [V.int (n : Int)] ++ ((zs os).map V.int).drop p := by
  unfold zs
  simp only [List.map_append, List.map_take, List.map_drop, List.map_cons, List.map_nil]
theorem ok__law_drawn (B : Blt mg) (c__law_cell_at : Cal P w K mg base 1 "_law_cell_at" (sp_cell K)) (c__law_draw : Cal P w K mg base 1 "_law_draw" sp_draw) (D : Def K mg "_law_drawn" s__law_drawn ["_law_script", "_law_many"]) : Cal P w K mg base 2 "_law_drawn" (sp_drawn K) := by
  refine D.cal sc__law_drawn (fun vs H Q E h => ?_) (fun f cdv A outer s H vs Q E hr h => ?_)
  · obtain ⟨a, ns, n, rfl, _⟩ := h
    rfl
  · obtain ⟨a, ns, n, rfl, hs, hz, hn, q⟩ := h
    refine ⟨_, pss_cons (ps_set (i := 2) sc__law_drawn.nd rfl (.inl rfl) (pe_lst pa_nil))
    (pss_cons (ps_for PassesOwn.never rfl (pi_range1 (by rfl) B.range (pa_cons (pv 1) pa_nil)) (pg_name (i := 3) sc__law_drawn.nd rfl (.inl rfl))
      (pss_cons (ps_set (i := 4) sc__law_drawn.nd rfl (.inl rfl) (pe_cal c__law_draw hr (by decide) (by rfl) (pa_cons (pe_op op_mul (pe_cal c__law_cell_at hr (by decide) (by rfl) (pa_cons (pv 0) (pa_cons (pe_op op_mod (pv 3) (pe_callB (cb_max2 rfl) (by rfl) B.max (by decide +kernel) (pa_cons pe_int (pa_cons (pe_callB (r := rLenB K) cb_len (by rfl) B.len (by decide +kernel) (pa_cons (pv 0) pa_nil)) pa_nil)))) pa_nil))) (pe_op op_add (pv 3) pe_int)) (pa_cons (pe_op op_add (pe_op op_mod (pv 3) pe_int) pe_int) (pa_cons (pe_op op_add (pv 3) pe_int) pa_nil)))))
        (pss_one (ps_expr (pe_bm PySem.F.plainAttrs_list PySem.F.slot_list_insert PySem.F.type_list_insert mt_ins (pv 2) (pa_cons (pv 4) (pa_cons (pv 3) pa_nil)))))))
    (pss_one (ps_ret (pv 2)))), ?_⟩
    walk_at "go"
    refine i_lstk (Nat.zero_le _) fun p0 H1 np0 s1 h1 => ?_
    walk_at "go"
    refine i_itr (m := n) rfl (by omega) ?_
    refine for_rng (fun i σ' H' => ∃ y3 y4 os, σ' = [some (.ref a), some (.int (n : Int)), some (.ref p0), y3, y4] ∧ Same H H' ∧ H' p0 = some (.lst ((zs os).map V.int)) ∧ os.Perm (List.range i)) ?_ ?_ ?_
    · exact ⟨_, _, [], rfl, s1, h1, List.Perm.refl _⟩
    · rintro i σ' H' hi ⟨y3, y4, os, rfl, sm, h0, hp⟩
      have hsm := sm.seq hs
      walk_at "go"
      refine i_lenL hsm ?_
      walk_at "go"
      rw [List.length_map]
      have hg : 0 < gr 1 (ns.length : Int) := by unfold gr; split <;> omega
      refine i_I hg ?_
      walk_at "go"
      have e0 := Int.emod_nonneg (i : Int) (show gr 1 (ns.length : Int) ≠ 0 by omega)
      refine ⟨a, ns, ((i : Int) % gr 1 (ns.length : Int)).toNat, by rw [Int.toNat_of_nonneg e0], hsm, ?_⟩
      walk_at "go"
      refine i_I (.inr ⟨by omega, by omega⟩) ?_
      walk_at "go"
      refine i_I (by show (0 : Int) < 9; decide) ?_
      walk_at "go"
      refine ⟨_, _, _, rfl, by omega, by omega, fun r H2 s2 r0 r1 => ?_⟩
      have h2 := s2 _ _ h0
      walk_at "go"
      refine ⟨ty_lst h2, ?_⟩
      walk_at "go"
      refine i_ins h2 (by rw [zs_len', perm_len hp]; omega) (i := r.toNat) (by omega) (by omega) ?_
      walk_at "go"
      refine ⟨_, _, os.take r.toNat ++ [i] ++ os.drop r.toNat, rfl, Same.mut (sm.trans s2) np0, ?_, ins_perm hp⟩
      rw [zs_ins]
      exact upd_same
    · rintro σ' H' ⟨y3, y4, os, rfl, sm, h0, hp⟩
      walk_at "go"
      exact q H' p0 os sm np0 h0 hp
end
abbrev s_law : Stmt := topS 22
abbrev n_law : List Str := ["_law_script", "_law_things_here", "_law_many", "_law_turned", "_law_order_here", "_law_handed", "_law_due", "_law_first", "_law_second", "_law_at", "_law_begin", "_law_again", "_law_found", "_law_told", "_law_out", "_law_rest", "_law_one", "_law_dry", "_law_other", "_law_pair"]
theorem sc_law : FnScope n_law ["_law_script"] (defScope s_law) := ⟨rfl, rfl, rfl, by decide +kernel, rfl, by decide +kernel, by decide +kernel⟩
def sp_law (K : PySem.W.Frag) : Sp := fun vs H Q _ => ∃ (a : Addr) (ns : List Int), vs = [.ref a] ∧ SqL K H a (ns.map V.int) ∧ ns.length ≤ 63 ∧ ∀ H', Q (.bl true) H'
theorem zs_rev (os : List Nat) : ((zs os).map V.int).reverse = (zs os.reverse).map V.int := by
  unfold zs
  rw [List.map_reverse, List.map_reverse]
def dH (ts : List T3) (ns : List Int) : PyData := .list [dT ts, dI ns]
theorem eqv_dH (ts : List T3) (ns : List Int) : PyData.eqv (dH ts ns) (dH ts ns) = true := by
  unfold dH
  rw [eqv_list, PyData.eqvAll, PyData.eqvAll, PyData.eqvAll, eqv_dT, eqv_dI, decide_eq_true rfl, decide_eq_true rfl]; rfl
theorem shaped_dH (ts : List T3) (ns : List Int) : SeqAt.shaped (dH ts ns) = true := sok_shaped (n := 3) (sok_list fun x hx => by
  rcases List.mem_cons.mp hx with rfl | hx
  · exact sok_dT ts
  · rcases List.mem_cons.mp hx with rfl | hx
    · exact ⟨(sok_dI ns).1, Nat.le_trans (sok_dI ns).2 (by decide)⟩
    · cases hx) (by decide)
section
variable {P : Program} {w : World} {K : PySem.W.Frag} {mg : Str → Option Value} {base : Heap}
theorem ok_law (B : Blt mg) (c__law_cell_at : Cal P w K mg base 1 "_law_cell_at" (sp_cell K)) (c__law_draw : Cal P w K mg base 1 "_law_draw" sp_draw) (c__law_things : Cal P w K mg base 2 "_law_things" (sp_things K)) (c__law_done : Cal P w K mg base 1 "_law_done" (sp_ldone K)) (c__law_whole : Cal P w K mg base 1 "_law_whole" sp_whole) (c__law_drawn : Cal P w K mg base 2 "_law_drawn" (sp_drawn K)) (c_done : Cal P w K mg base 4 "done" (sp_done K)) (c_starts : Cal P w K mg base 4 "starts" (sp_starts K)) {f : Addr} {fd : FuncData} (F : FnP K "law" s_law f fd) : FnOk P w K mg base CX0 5 f fd ["_law_script"] (sp_law K) := by
  refine fn_law F sc_law (fun vs H Q E h => ?_) (fun cdv A outer s H vs Q E hr h => ?_)
  · obtain ⟨a, ns, rfl, _⟩ := h
    rfl
  · obtain ⟨a, ns, rfl, hs, hz, q⟩ := h
    refine ⟨_, pss_cons (ps_set (i := 1) sc_law.nd rfl (.inl rfl) (pe_cal c__law_things hr (by decide) (by rfl) (pa_cons (pv 0) pa_nil)))
    (pss_cons (ps_set (i := 2) sc_law.nd rfl (.inl rfl) (pe_callB (r := rLenB K) cb_len (by rfl) B.len (by decide +kernel) (pa_cons (pv 1) pa_nil)))
    (pss_cons (ps_setLc (i := 3) (own := [("_law_one", 16), ("_law_dry", 17), ("_law_other", 18)]) rfl sc_law.nd rfl rfl (sw_true rfl rfl rfl (by decide +kernel)) (pi_list (pv 1)) (blkOk_by (N := n_law) (sc := defScope s_law) (by decide +kernel)) (fun _ _ _ _ _ => (pg_tup (n := 3) rfl (pgs_cons (pg_name (i := 16) sc_law.nd rfl (.inl rfl)) (pgs_cons (pg_name (i := 17) sc_law.nd rfl (.inl rfl)) (pgs_cons (pg_name (i := 18) sc_law.nd rfl (.inl rfl)) pgs_nil))) : PG _ _ (gTup K 3 (gCons (gName 16) (gCons (gName 17) (gCons (gName 18) gNil)))))) (fun _ _ _ _ _ => pts_nil) (fun _ _ _ _ _ => (pe_tup (pa_cons (pv 18) (pa_cons (pv 17) (pa_cons (pv 16) pa_nil))))))
    (pss_cons (ps_for PassesOwn.never rfl (pi_tup (pe_tup (pa_cons (pe_listRg rfl (by rfl) B.list (prg_1 (by rfl) B.range (pv 2))) (pa_cons (pe_revL (pe_listRg rfl (by rfl) B.list (prg_1 (by rfl) B.range (pv 2)))) (pa_cons (pe_cal c__law_drawn hr (by decide) (by rfl) (pa_cons (pv 0) (pa_cons (pv 2) pa_nil))) pa_nil))))) (pg_name (i := 4) sc_law.nd rfl (.inl rfl))
      (pss_cons (ps_set (i := 5) sc_law.nd rfl (.inl rfl) (pe_lst (pa_cons (pe_callTy (r := rListB K) cb_list (by rfl) B.list (by decide +kernel) (pa_cons (pv 1) pa_nil)) (pa_cons (pe_callTy (r := rListB K) cb_list (by rfl) B.list (by decide +kernel) (pa_cons (pv 4) pa_nil)) pa_nil))))
        (pss_cons (ps_par3 (i := 6) (j := 7) (l := 8) rfl sc_law.nd rfl rfl rfl (by decide) (by decide) (by decide) rfl rfl rfl (pa_cons (pe_op op_rep (pe_lst (pa_cons (pe_tup (pa_cons pe_int (pa_cons pe_int pa_nil))) pa_nil)) (pv 2)) (pa_cons pe_int (pa_cons pe_int pa_nil))) (by rfl))
        (pss_cons (ps_for PassesOwn.never rfl (pi_list (pv 4)) (pg_name (i := 9) sc_law.nd rfl (.inl rfl))
          (pss_cons (ps_set (i := 10) sc_law.nd rfl (.inl rfl) (pv 7))
            (pss_cons (ps_set (i := 7) sc_law.nd rfl (.inl rfl) (pe_op op_add (pv 7) (pe_ix (r := rIxT K) ix_tup (pe_ix (r := rIxL K) ix_list (pv 1) (pv 9) (fun _ _ => rfl)) pe_int (fun _ _ => rfl))))
            (pss_cons (ps_set (i := 8) sc_law.nd rfl (.inl rfl) (pe_callB (cb_max2 rfl) (by rfl) B.max (by decide +kernel) (pa_cons (pv 8) (pa_cons (pe_op op_add (pv 7) (pe_ix (r := rIxT K) ix_tup (pe_ix (r := rIxL K) ix_list (pv 1) (pv 9) (fun _ _ => rfl)) pe_int (fun _ _ => rfl))) pa_nil))))
            (pss_cons (ps_asg (pe_tup (pa_cons (pv 10) (pa_cons (pv 8) pa_nil))) (pg_sub (pv 6) (pv 9) set_list))
            (pss_one (ps_set (i := 8) sc_law.nd rfl (.inl rfl) (pe_op op_add (pv 8) (pe_ix (r := rIxT K) ix_tup (pe_ix (r := rIxL K) ix_list (pv 1) (pv 9) (fun _ _ => rfl)) pe_int (fun _ _ => rfl))))))))))
        (pss_cons (ps_for PassesOwn.never rfl (pi_range1 (by rfl) B.range (pa_cons pe_int pa_nil)) (pg_name (i := 11) sc_law.nd rfl (.inl rfl))
          (pss_cons (ps_set (i := 12) sc_law.nd rfl (.inl rfl) (pe_cal c_starts hr (by decide) (by rfl) (pa_cons (pe_ix (r := rIxL K) ix_list (pv 5) pe_int (fun _ _ => rfl)) (pa_cons (pe_ix (r := rIxL K) ix_list (pv 5) pe_int (fun _ _ => rfl)) pa_nil))))
            (pss_cons (ps_if (PW.pt (pw_or (pt_not (pt_val (pe_callB (r := rIsi K) call_isi (by rfl) B.isinstance (by decide +kernel) (pa_cons (pv 12) (pa_cons (pe_bltn (v := .ty "list") (u := .type "list") (by rfl) B.list (by decide +kernel) rfl) pa_nil))))) (pw_or (pt_cmpR (r := rNeD K) (op_neD hr.units) (pv 12) (pv 6) (nomark _)) (pw_or1 (pt_cmpR (r := rNeD K) (op_neD hr.units) (pv 5) (pe_lst (pa_cons (pv 1) (pa_cons (pv 4) pa_nil))) (nomark _))))))
              (pss_one (ps_ret pe_bl))
              (pss_nil))
            (pss_cons (ps_if (pt_not (pt_val (pe_callB (r := rAll K) (cr_all rfl) (by rfl) B.all (by decide +kernel) (pa_cons (pe_lc (own := [("_law_pair", 19)]) rfl sc_law.nd (pi_list (pv 12)) (blkOk_by (N := n_law) (sc := defScope s_law) (by decide +kernel)) (fun _ _ _ _ _ => (pg_name (i := 19) sc_law.nd rfl (.inl rfl))) (fun _ _ _ _ _ => pts_nil) (fun _ _ _ _ _ => (pe_callB (r := rIsi K) call_isi (by rfl) B.isinstance (by decide +kernel) (pa_cons (pv 19) (pa_cons (pe_bltn (v := .ty "tuple") (u := .type "tuple") (by rfl) B.tuple (by decide +kernel) rfl) pa_nil))))) pa_nil))))
              (pss_one (ps_ret pe_bl))
              (pss_nil))
            (pss_one (ps_expr (pe_bm PySem.F.plainAttrs_list PySem.F.slot_list_append PySem.F.type_list_append mt_append (pv 12) (pa_cons (pe_tup (pa_cons pe_int (pa_cons pe_int pa_nil))) pa_nil))))))))
        (pss_cons (ps_set (i := 13) sc_law.nd rfl (.inl rfl) (pe_cal c_done hr (by decide) (by rfl) (pa_cons (pe_ix (r := rIxL K) ix_list (pv 5) pe_int (fun _ _ => rfl)) (pa_cons (pe_ix (r := rIxL K) ix_list (pv 5) pe_int (fun _ _ => rfl)) pa_nil))))
        (pss_cons (ps_if (PW.pt (pw_or (pt_not (pt_val (pe_cal c__law_whole hr (by decide) (by rfl) (pa_cons (pv 13) pa_nil)))) (pw_or (pt_cmpR op_ne (pv 13) (pv 8) (nomark _)) (pw_or (pt_cmpR op_ne (pv 13) (pe_cal c__law_done hr (by decide) (by rfl) (pa_cons (pv 1) (pa_cons (pv 4) pa_nil))) (nomark _)) (pw_or1 (pt_cmpR (r := rNeD K) (op_neD hr.units) (pv 5) (pe_lst (pa_cons (pv 1) (pa_cons (pv 4) pa_nil))) (nomark _)))))))
          (pss_one (ps_ret pe_bl))
          (pss_nil))
        (pss_cons (ps_if (pt_cmpR op_ne (pe_cal c_done hr (by decide) (by rfl) (pa_cons (pv 3) (pa_cons (pe_revL (pv 4)) pa_nil))) (pv 13) (nomark _))
          (pss_one (ps_ret pe_bl))
          (pss_nil))
        (pss_one (ps_if (pt_cmpR op_gt (pv 2) pe_int (nomark _))
          (pss_cons (ps_set (i := 14) sc_law.nd rfl (.inr rfl) (pe_cal c__law_draw hr (by decide) (by rfl) (pa_cons (pe_cal c__law_cell_at hr (by decide) (by rfl) (pa_cons (pv 0) (pa_cons pe_int pa_nil))) (pa_cons pe_int (pa_cons (pv 2) pa_nil)))))
            (pss_cons (ps_setLc (i := 15) (own := [("_law_at", 9)]) rfl sc_law.nd rfl rfl (sw_true rfl rfl rfl (by decide +kernel)) (pi_list (pv 4)) (blkOk_by (N := n_law) (sc := defScope s_law) (by decide +kernel)) (fun _ _ _ _ _ => (pg_name (i := 9) sc_law.nd rfl (.inl rfl))) (fun _ _ _ _ _ => pts_one (pt_cmpR op_ne (pv 9) (pv 14) (nomark _))) (fun _ _ _ _ _ => (pe_ifExp (pt_cmpR op_gt (pv 9) (pv 14) (nomark _)) (pe_op op_sub (pv 9) pe_int) (pv 9))))
            (pss_one (ps_if (pt_cmpR op_gt (pe_cal c_done hr (by decide) (by rfl) (pa_cons (pe_op op_cat (pe_slice (r := rSlL K) sl_list (pv 1) po_none (po_some (pv 14))) (pe_slice (r := rSlL K) sl_list (pv 1) (po_some (pe_op op_add (pv 14) pe_int)) po_none)) (pa_cons (pv 15) pa_nil))) (pv 13) (nomark _))
              (pss_one (ps_ret pe_bl))
              (pss_nil)))))
          (pss_nil)))))))))))
    (pss_one (ps_ret (pe_and (pe_cmpR op_eq (pe_cal c_done hr (by decide) (by rfl) (pa_cons (pe_lst pa_nil) (pa_cons (pe_lst pa_nil) pa_nil))) pe_int (nomark _)) (pe_one (pe_cmpR (r := rEqD K) (op_eqD hr.units) (pe_cal c_starts hr (by decide) (by rfl) (pa_cons (pe_lst pa_nil) (pa_cons (pe_lst pa_nil) pa_nil))) (pe_lst pa_nil) (nomark _))))))))), ?_⟩
    walk_at "go"
    refine ⟨a, ns, rfl, hs, hz, fun H1 p1 vs' ts s1 np1 h1 hT1 hS hl => ?_⟩
    have hT : Things K H1 p1 ts := ⟨vs', SqL.of h1, hT1⟩
    have hN : ∀ t ∈ ts, Nn t := fun t ht => (hS t ht).1
    walk_at "go"
    refine i_lenThings hT ?_
    walk_at "go"
    refine i_itl (SqL.of h1) ?_
    refine fun p2 np2 => lc_map (K := K) (R := fun i y H => ∀ t, ts[i]? = some t → IsT K H y (tn t)) (fun e h t ht => (h t ht).mono e) sqn_l (fun H' e => e.seq (SqL.of h1)) (by rw [hT1.len]; omega) np2 (fun i x H' Qc Qn hx sm k => ?_) (fun ys H2 s2 h2 hl2 hr2 => ?_)
    · obtain ⟨t, ht, p, rfl, hp⟩ := hT1.at' hx
      refine i_gtup (Same.t sm hp) rfl ?_
      walk_at "go"
      refine ⟨rfl, ?_⟩
      walk_at "go"
      refine i_tupk (by show 3 ≤ 100000; decide) fun p3 H3 np3 s3 h3 => ?_
      exact k _ _ s3 fun t' ht' => by
        rw [ht] at ht'
        cases ht'
        exact ⟨p3, rfl, SqT.of h3⟩
    · have hTt : Things K H2 p2 (ts.map tn) := ⟨ys, SqL.of h2, by rw [hl2, hT1.len, List.length_map], fun i x y hx hy => by
        rw [List.getElem?_map] at hy
        obtain ⟨t, ht, rfl⟩ := Option.map_eq_some_iff.mp hy
        exact hr2 i x hx t ht⟩
      walk_at "go"
      have ln : ts.length ≤ 1000 := by omega
      refine i_rg (n := ts.length) rfl (by omega) fun o1 H3 no1 s3 h3 => ?_
      walk_at "go"
      refine i_rg (n := ts.length) rfl (by omega) fun o2 H4 no2 s4 h4 => ?_
      refine i_revk (SqL.of h4) fun o3 H5 no3 s5 h5 => ?_
      have e5 : Same H1 H5 := ((s2.trans s3).trans s4).trans s5
      walk_at "go"
      refine ⟨a, ns, ts.length, rfl, (s1.trans e5).seq hs, hz, ln, fun H6 o4 os4 s6 no4 h6 hp6 => ?_⟩
      walk_at "go"
      refine i_tupk (by show 3 ≤ 100000; decide) fun T H7 nT s7 h7 => ?_
      have e7 : Same H1 H7 := (e5.trans s6).trans s7
      have r1 : SqL K H7 o1 ((zs (List.range ts.length)).map V.int) := SqL.of (s7 _ _ (s6 _ _ (s5 _ _ (s4 _ _ h3))))
      have r3 : SqL K H7 o3 ((zs (List.range ts.length).reverse).map V.int) := by
        rw [← zs_rev]
        exact SqL.of (s7 _ _ (s6 _ _ h5))
      have r4 : SqL K H7 o4 ((zs os4).map V.int) := SqL.of (s7 _ _ h6)
      have rT : Things K H7 p2 (ts.map tn) := hTt.mono ((((s3.trans s4).trans s5).trans s6).trans s7)
      walk_at "go"
      refine i_itt (SqT.of h7) ?_
      refine for_tup (K := K) (a := T) (xs := [.ref o1, .ref o3, .ref o4]) (fun i σ' H' => ∃ y4 y5 y6 y7 y8 y9 y10 y11 y12 y13 y14 y15, σ' = [some (.ref a), some (.ref p1), some (.int (ts.length : Int)), some (.ref p2), y4, y5, y6, y7, y8, y9, y10, y11, y12, y13, y14, y15, none, none, none, none] ∧ Same H7 H') ?_ ?_ ?_ ?_
      · exact ⟨_, _, _, _, _, _, _, _, _, _, _, _, rfl, Same.refl _⟩
      · rintro i σ' H' _ ⟨_, _, _, _, _, _, _, _, _, _, _, _, _, sm⟩
        exact Same.t sm (SqT.of h7)
      · rintro i x σ' H' hx ⟨y4, y5, y6, y7, y8, y9, y10, y11, y12, y13, y14, y15, rfl, sm⟩
        obtain ⟨o, os, rfl, hO7, hp⟩ : ∃ o os, x = .ref o ∧ SqL K H7 o ((zs os).map V.int) ∧ os.Perm (List.range ts.length) := by
          rcases i with _ | _ | _ | i
          · exact ⟨o1, _, (Option.some.inj hx).symm, r1, List.Perm.refl _⟩
          · exact ⟨o3, _, (Option.some.inj hx).symm, r3, List.reverse_perm _⟩
          · exact ⟨o4, _, (Option.some.inj hx).symm, r4, hp6⟩
          · cases hx
        have hk := perm_lt hp
        have lo := perm_len hp
        have em : Same H1 H' := e7.trans sm
        walk_at "go"
        refine i_listL (em.seq (SqL.of h1)) fun c1 H8 nc1 s8 h8 => ?_
        walk_at "go"
        refine i_listL (s8.seq (sm.seq hO7)) fun c2 H9 nc2 s9 h9 => ?_
        walk_at "go"
        refine i_lstk (by show 2 ≤ 100000; decide) fun hd H10 nhd s10 h10 => ?_
        walk_at "go"
        refine i_tupk (by show 2 ≤ 100000; decide) fun z H11 nz s11 h11 => ?_
        walk_at "go"
        refine i_lstk (by show 1 ≤ 100000; decide) fun zl H12 nzl s12 h12 => ?_
        walk_at "go"
        refine i_rep h12 rfl (by omega) fun du H13 ndu s13 h13 => ?_
        have e12 : Same H' H12 := (((s8.trans s9).trans s10).trans s11).trans s12
        have T12 : Things K H12 p1 ts := hT.mono (em.trans e12)
        have O12 : SqL K H12 o ((zs os).map V.int) := e12.seq (sm.seq hO7)
        have C1 : Things K H12 c1 ts := ⟨vs', SqL.of (s12 _ _ (s11 _ _ (s10 _ _ (s9 _ _ h8)))), ThL.mono (smT (em.trans e12)) hT1⟩
        have C2 : SqL K H12 c2 ((zs os).map V.int) := SqL.of (s12 _ _ (s11 _ _ (s10 _ _ h9)))
        have D12 : SqL K H12 hd [.ref c1, .ref c2] := SqL.of (s12 _ _ (s11 _ _ h10))
        have Z12 : IsP K H12 (.ref z) (0, 0) := ⟨z, rfl, SqT.of (s12 _ _ h11)⟩
        have Rt : Things K H12 p2 (ts.map tn) := rT.mono (sm.trans e12)
        have a12 : Same H H12 := (s1.trans em).trans e12
        have f12 : Same H7 H12 := sm.trans e12
        walk_at "go"
        refine i_itl (s13.seq O12) ?_
        refine for_list (K := K) (a := o) (xs := (zs os).map V.int) (fun i σ' H' => ∃ y9 y10 ys, σ' = [some (.ref a), some (.ref p1), some (.int (ts.length : Int)), some (.ref p2), some (.ref o), some (.ref hd), some (.ref du), some (.int (sa (sq ts (os.take i)))), some (.int (endOf 0 0 (sq ts (os.take i)))), y9, y10, y11, y12, y13, y14, y15, none, none, none, none] ∧ Same H12 H' ∧ H' du = some (.lst ys) ∧ PrL K H' ys (setAll (List.replicate ts.length (0, 0)) (os.take i) ((runP 0 0 (sq ts os)).take i))) ?_ ?_ ?_ ?_
        · exact ⟨_, _, _, rfl, s13, h13, All2.rep _ (Z12.mono (smT s13))⟩
        · rintro i σ' H' _ ⟨_, _, _, _, sm', _⟩
          exact sm'.seq O12
        · rintro i x σ' H14 hx ⟨y9, y10, ys, rfl, s14, h14, hP⟩
          obtain ⟨k, hk1, rfl⟩ := zs_at hx
          have hk2 : k < ts.length := hk k (List.mem_of_getElem? hk1)
          have T14 := T12.mono s14
          walk_at "go"
          refine i_thing T14 (getD_at hk2) fun q1 hq1 => ?_
          walk_at "go"
          refine i_ixT hq1 (v := .int (ts.getD k (0, 0, 0)).1) (atI_nat (j := 0) rfl) ?_
          walk_at "go"
          refine i_thing T14 (getD_at hk2) fun q2 hq2 => ?_
          walk_at "go"
          refine i_ixT hq2 (v := .int (ts.getD k (0, 0, 0)).2.1) (atI_nat (j := 1) rfl) ?_
          walk_at "go"
          refine i_tupk (by show 2 ≤ 100000; decide) fun q3 H15 nq3 s15 h15 => ?_
          walk_at "go"
          have d15 := s15 _ _ h14
          refine i_setL d15 (ixN_nat (by rw [hP.len, setAll_len, List.length_replicate]; exact hk2)) ?_
          have T16 : Things K (upd H15 du (.lst (ys.set k (.ref q3)))) p1 ts := T12.mono (Same.mut (s14.trans s15) ndu)
          walk_at "go"
          refine i_thing T16 (getD_at hk2) fun q4 hq4 => ?_
          walk_at "go"
          refine i_ixT hq4 (v := .int (ts.getD k (0, 0, 0)).2.2) (atI_nat (j := 2) rfl) ?_
          walk_at "go"
          have e1 : sq ts (os.take (i + 1)) = sq ts (os.take i) ++ [ts.getD k (0, 0, 0)] := by
            rw [take_snoc hk1, sq_app]; rfl
          have er := runP_at (sq ts os) 0 0 i _ (sq_at hk1)
          rw [e1, sa_snoc, endOf_snoc, setAll_take os _ _ i k _ hk1 er]
          simp only [Int.zero_add, ← sq_take]
          have hp3 : IsP K H15 (.ref q3) (sa (sq ts (os.take i)), gr (endOf 0 0 (sq ts (os.take i))) (sa (sq ts (os.take i)) + (ts.getD k (0, 0, 0)).1 + (ts.getD k (0, 0, 0)).2.1)) := ⟨q3, rfl, SqT.of h15⟩
          exact ⟨_, _, ys.set k (.ref q3), rfl, Same.mut (s14.trans s15) ndu, upd_same, PrL.mono (sameT_lst d15) (All2.set (PrL.mono (smT s15) hP) hp3)⟩
        · rintro σ' H14 ⟨y9, y10, ys, rfl, s14, h14, hP⟩
          rw [zs_len', List.take_length] at hP ⊢
          rw [show (runP 0 0 (sq ts os)).take os.length = runP 0 0 (sq ts os) from List.take_of_length_le (by rw [runP_len, sq_len]; exact Nat.le_refl _)] at hP
          have T14 := T12.mono s14
          have O14 := s14.seq O12
          have C14 := C1.mono s14
          have E14 := s14.seq C2
          have D14 := s14.seq D12
          -- what was handed in stands
          have stay : ∀ {H0 H1 : Hp}, Same H14 H0 → Same H0 H1 → ∀ {q : Addr}, H1 q = some (.lst [.ref p1, .ref o]) → Dp K H1 (.ref hd) (dH ts (zs os)) ∧ Dp K H1 (.ref q) (dH ts (zs os)) := fun {_ _} e f {q} hq =>
            ⟨.lst (f.seq (e.seq D14)) (.cons (dp_things (C14.mono (e.trans f))) (.cons (dp_ints (f.seq (e.seq E14))) .nil)), .lst (SqL.of hq) (.cons (dp_things (T14.mono (e.trans f))) (.cons (dp_ints (f.seq (e.seq O14))) .nil))⟩
          walk_at "go"
          refine i_itr (m := 2) rfl (by decide) ?_
          refine for_rng (fun i σ' H' => ∃ y11 y12, σ' = [some (.ref a), some (.ref p1), some (.int (ts.length : Int)), some (.ref p2), some (.ref o), some (.ref hd), some (.ref du), some (.int (sa (sq ts os))), some (.int (endOf 0 0 (sq ts os))), y9, y10, y11, y12, y13, y14, y15, none, none, none, none] ∧ Same H14 H') ?_ ?_ ?_
          · exact ⟨_, _, rfl, Same.refl _⟩
          · rintro i σ' H15 hi ⟨y11, y12, rfl, s15⟩
            walk_at "go"
            refine i_ixL (s15.seq D14) (v := .ref c1) (atI_nat (j := 0) rfl) ?_
            walk_at "go"
            refine i_ixL (s15.seq D14) (v := .ref c2) (atI_nat (j := 1) rfl) ?_
            walk_at "go"
            refine ⟨c1, c2, ts, os, rfl, C14.mono s15, s15.seq E14, hN, ln, hp, fun H16 fo zs' s16 nfo h16 hP16 => ?_⟩
            walk_at "go"
            refine i_isi (r := true) (ty_list h16) (by decide +kernel) ?_
            walk_at "go"
            have s146 := s15.trans s16
            refine i_neD (dp_pairs (SqL.of h16) hP16) (dp_pairs (SqL.of (s146 _ _ h14)) (PrL.mono (smT s146) hP)) (shaped_dP _) (shaped_dP _) ?_
            rw [eqv_dP, decide_eq_true rfl]
            walk_at "go"
            refine i_lstk (by show 2 ≤ 100000; decide) fun q5 H17 nq5 s17 h17 => ?_
            obtain ⟨dp1, dp2⟩ := stay s146 s17 h17
            refine i_neD dp1 dp2 (shaped_dH _ _) (shaped_dH _ _) ?_
            rw [eqv_dH]
            walk_at "go"
            refine i_itl (s17.seq (SqL.of h16)) ?_
            refine fun p8 np8 => lc_map (K := K) (R := fun _ y _ => y = .bl true) (fun _ h => h) sqn_l (fun H' e => e.seq (s17.seq (SqL.of h16))) (by rw [hP16.len, setAll_len, List.length_replicate]; omega) np8 (fun j x H' Qc Qn hx sm k => ?_) (fun ys8 H18 s18 h18 hl8 hr8 => ?_)
            · obtain ⟨pr, _, pp, rfl, hpp⟩ := hP16.at' hx
              walk_at "go"
              refine ⟨rfl, ?_⟩
              walk_at "go"
              refine i_isi (r := true) (ty_sqT (Same.t (s17.trans sm) hpp)) (by decide +kernel) ?_
              exact k _ _ (Same.refl _) rfl
            · rw [all_true hl8 hr8] at h18
              walk_at "go"
              refine i_allT h18 ?_
              have h16' := s18 _ _ (s17 _ _ h16)
              walk_at "go"
              refine ⟨ty_lst h16', ?_⟩
              walk_at "go"
              refine i_tupk (by show 2 ≤ 100000; decide) fun q6 H19 nq6 s19 h19 => ?_
              walk_at "go"
              refine i_app (s19 _ _ h16') (by rw [hP16.len, setAll_len, List.length_replicate]; omega) ?_
              walk_at "go"
              exact ⟨_, _, rfl, Same.mut (((s146.trans s17).trans s18).trans s19) (s15.free nfo)⟩
          · rintro σ' H15 ⟨y11, y12, rfl, s15⟩
            walk_at "go"
            refine i_ixL (s15.seq D14) (v := .ref c1) (atI_nat (j := 0) rfl) ?_
            walk_at "go"
            refine i_ixL (s15.seq D14) (v := .ref c2) (atI_nat (j := 1) rfl) ?_
            walk_at "go"
            refine ⟨c1, c2, ts, os, rfl, C14.mono s15, s15.seq E14, hN, ln, hp, fun H16 s16 => ?_⟩
            walk_at "go"
            refine ⟨_, rfl, ?_⟩
            walk_at "go"
            have e0 : dn (sq ts os) = endOf 0 0 (sq ts os) := rfl
            rw [← e0, decide_eq_true (rfl : dn (sq ts os) = dn (sq ts os))]
            walk_at "go"
            have s146 := s15.trans s16
            refine ⟨p1, o, ts, os, rfl, T14.mono s146, s146.seq O14, hk, by omega, fun H17 s17 => ?_⟩
            walk_at "go"
            rw [← dn_ld (sq_nn hN hk), decide_eq_true (rfl : dn (sq ts os) = dn (sq ts os))]
            walk_at "go"
            refine i_lstk (by show 2 ≤ 100000; decide) fun q5 H18 nq5 s18 h18 => ?_
            obtain ⟨dp1, dp2⟩ := stay (s146.trans s17) s18 h18
            refine i_neD dp1 dp2 (shaped_dH _ _) (shaped_dH _ _) ?_
            rw [eqv_dH]
            walk_at "go"
            have s148 := (s146.trans s17).trans s18
            refine i_revk (s148.seq O14) fun rv H19 nrv s19 h19 => ?_
            rw [zs_rev] at h19
            walk_at "go"
            have s149 := s148.trans s19
            refine ⟨p2, rv, ts.map tn, os.reverse, rfl, Rt.mono (s14.trans s149), SqL.of h19, fun t ht => ?_, by rw [List.length_map]; exact ln, by rw [List.length_map]; exact (List.reverse_perm _).trans hp, fun H20 s20 => ?_⟩
            · obtain ⟨u, hu, rfl⟩ := List.mem_map.mp ht
              exact tn_nn (hN u hu)
            walk_at "go"
            rw [dn_turned hN hk, decide_eq_true (rfl : dn (sq ts os) = dn (sq ts os))]
            walk_at "go"
            have s150 := s149.trans s20
            refine i_itd (fun cp => ?_) (fun cp => ?_)
            · walk_at "go"
              refine ⟨a, ns, 1, rfl, ((a12.trans s14).trans s150).seq hs, ?_⟩
              walk_at "go"
              refine ⟨_, 4, _, rfl, by decide, cp, fun r H21 s21 r0 r1 => ?_⟩
              obtain ⟨out, rfl⟩ : ∃ out : Nat, r = (out : Int) := ⟨r.toNat, by omega⟩
              have ho : out < ts.length := by omega
              walk_at "go"
              refine i_itl (s21.seq (s150.seq O14)) ?_
              refine fun p8 np8 => lc_fm (fun v => decide (v ≠ .int (out : Int))) (fun v => match v with | .int z => .int (if (out : Int) < z then z - 1 else z) | v => v) sqn_l (fun H' e => e.seq (s21.seq (s150.seq O14))) (by rw [zs_len']; omega) np8 (fun j x H' Qc Qn hx sm k1 k2 => ?_) (fun H22 s22 h22 => ?_)
              · obtain ⟨m, hm, rfl⟩ := zs_at hx
                walk_at "go"
                refine ⟨rfl, ?_⟩
                walk_at "go"
                refine i_itdn (fun ne => ?_) (fun e => ?_)
                · have kk := k1 (decide_eq_true (fun z => ne (V.int.inj z))) H' (Same.refl _)
                  walk_at "go"
                  refine i_itd (fun lt => ?_) (fun lt => ?_)
                  · walk_at "go"
                    rw [show (match V.int (m : Int) with | .int z => V.int (if (out : Int) < z then z - 1 else z) | v => v) = V.int ((m : Int) - 1) by show V.int (if (out : Int) < (m : Int) then (m : Int) - 1 else (m : Int)) = _; rw [if_pos lt]] at kk
                    exact kk
                  · walk_at "go"
                    rw [show (match V.int (m : Int) with | .int z => V.int (if (out : Int) < z then z - 1 else z) | v => v) = V.int (m : Int) by show V.int (if (out : Int) < (m : Int) then (m : Int) - 1 else (m : Int)) = _; rw [if_neg lt]] at kk
                    exact kk
                · exact k2 (decide_eq_false (fun z => z (congrArg V.int e))) H' (Same.refl _)
              · have er : ((((zs os).map V.int).filter (fun v => decide (v ≠ .int (out : Int)))).map (fun v => match v with | .int z => .int (if (out : Int) < z then z - 1 else z) | v => v)) = (zs (dropAt out os)).map V.int := by
                  unfold zs dropAt
                  rw [List.map_map, List.filter_map, List.map_map, List.map_map, List.map_map]
                  have ef : ((fun v => decide (v ≠ V.int (out : Int))) ∘ (V.int ∘ fun k : Nat => (k : Int))) = fun k : Nat => decide (k ≠ out) := by
                    funext k
                    show decide (V.int (k : Int) ≠ V.int (out : Int)) = decide (k ≠ out)
                    rw [decide_eq_decide]
                    exact ⟨fun h e => h (by rw [e]), fun h e => h (by have := V.int.inj e; omega)⟩
                  rw [ef]
                  refine List.map_congr_left fun k _ => ?_
                  show V.int (if (out : Int) < (k : Int) then (k : Int) - 1 else (k : Int)) = V.int ((if out < k then k - 1 else k : Nat) : Int)
                  by_cases c : out < k
                  · rw [if_pos c, if_pos (by omega), show ((k - 1 : Nat) : Int) = (k : Int) - 1 by omega]
                  · rw [if_neg c, if_neg (by omega)]
                rw [er] at h22
                have s152 := (s150.trans s21).trans s22
                obtain ⟨vs2, hv2, hT2⟩ := T14.mono s152
                walk_at "go"
                refine i_slL hv2 fun t1 H23 nt1 s23 h23 => ?_
                rw [cut_to] at h23
                walk_at "go"
                refine i_slL (s23.seq hv2) fun t2 H24 nt2 s24 h24 => ?_
                rw [show (out : Int) + 1 = ((out + 1 : Nat) : Int) by omega, cut_from] at h24
                walk_at "go"
                refine i_cat (s24 _ _ h23) h24 (by rw [List.length_take, List.length_drop, hT2.len]; omega) fun t3 H25 nt3 s25 h25 => ?_
                walk_at "go"
                have s153 := (s23.trans s24).trans s25
                have T25 : Things K H25 t3 (ts.take out ++ ts.drop (out + 1)) := ⟨_, SqL.of h25, All2.app ((ThL.mono (smT s153) hT2).take _) ((ThL.mono (smT s153) hT2).drop _)⟩
                have l25 : (ts.take out ++ ts.drop (out + 1)).length = ts.length - 1 := by rw [List.length_append, List.length_take, List.length_drop]; omega
                refine ⟨t3, p8, _, dropAt out os, rfl, T25, SqL.of (s153 _ _ h22), fun t ht => ?_, by omega, by rw [l25]; exact dropAt_perm hp ho, fun H26 s26 => ?_⟩
                · rcases List.mem_append.mp ht with ht | ht
                  · exact hN t (List.mem_of_mem_take ht)
                  · exact hN t (List.mem_of_mem_drop ht)
                walk_at "go"
                have le := dn_less (out := out) hN hk
                rw [decide_eq_false (by omega)]
                walk_at "go"
                exact ⟨_, _, _, _, _, _, _, _, _, _, _, _, rfl, ((((f12.trans s14).trans s152).trans s153).trans s26)⟩
            · walk_at "go"
              exact ⟨_, _, _, _, _, _, _, _, _, _, _, _, rfl, (f12.trans s14).trans s150⟩
      · rintro σ' H' ⟨y4, y5, y6, y7, y8, y9, y10, y11, y12, y13, y14, y15, rfl, sm⟩
        walk_at "go"
        refine i_lstk (by decide) fun q1 H8 nq1 s8 h8 => ?_
        walk_at "go"
        refine i_lstk (by decide) fun q2 H9 nq2 s9 h9 => ?_
        walk_at "go"
        refine ⟨q1, q2, [], [], rfl, ⟨[], SqL.of (s9 _ _ h8), All2.nil⟩, SqL.of h9, (fun t ht => by cases ht), by decide, List.Perm.refl _, fun H10 s10 => ?_⟩
        walk_at "go"
        rw [show decide (dn (sq [] []) = 0) = true from rfl]
        walk_at "go"
        refine i_lstk (by decide) fun q3 H11 nq3 s11 h11 => ?_
        walk_at "go"
        refine i_lstk (by decide) fun q4 H12 nq4 s12 h12 => ?_
        walk_at "go"
        refine ⟨q3, q4, [], [], rfl, ⟨[], SqL.of (s12 _ _ h11), All2.nil⟩, SqL.of h12, (fun t ht => by cases ht), by decide, List.Perm.refl _, fun H13 q5 ys5 s13 nq5 h13 hP13 => ?_⟩
        walk_at "go"
        refine i_lstk (by decide) fun q6 H14 nq6 s14 h14 => ?_
        refine i_eqD (dp_pairs (SqL.of (s14 _ _ h13)) (PrL.mono (smT s14) hP13)) (dp_ints (ns := []) (SqL.of h14)) (shaped_dP _) (shaped_dI _) ?_
        exact q _
end
def d_is_whole : He.DefD := ⟨("is_whole", none), "is_whole", "is_whole", defArgs s_is_whole, defBody s_is_whole, defScope s_is_whole, [], []⟩
def d_is_triple : He.DefD := ⟨("is_triple", none), "is_triple", "is_triple", defArgs s_is_triple, defBody s_is_triple, defScope s_is_triple, [], []⟩
def d_check_things : He.DefD := ⟨("check_things", none), "check_things", "check_things", defArgs s_check_things, defBody s_check_things, defScope s_check_things, [], []⟩
def d_is_order : He.DefD := ⟨("is_order", none), "is_order", "is_order", defArgs s_is_order, defBody s_is_order, defScope s_is_order, [], []⟩
def d_check_order : He.DefD := ⟨("check_order", none), "check_order", "check_order", defArgs s_check_order, defBody s_check_order, defScope s_check_order, [], []⟩
def d_run : He.DefD := ⟨("run", none), "run", "run", defArgs s_run, defBody s_run, defScope s_run, [], []⟩
def d_done : He.DefD := ⟨("done", none), "done", "done", defArgs s_done, defBody s_done, defScope s_done, [], []⟩
def d_starts : He.DefD := ⟨("starts", none), "starts", "starts", defArgs s_starts, defBody s_starts, defScope s_starts, [], []⟩
def d__law_cell_at : He.DefD := ⟨("_law_cell_at", none), "_law_cell_at", "_law_cell_at", defArgs s__law_cell_at, defBody s__law_cell_at, defScope s__law_cell_at, [], []⟩
def d__law_draw : He.DefD := ⟨("_law_draw", none), "_law_draw", "_law_draw", defArgs s__law_draw, defBody s__law_draw, defScope s__law_draw, [], []⟩
def d__law_things : He.DefD := ⟨("_law_things", none), "_law_things", "_law_things", defArgs s__law_things, defBody s__law_things, defScope s__law_things, [], []⟩
def d__law_done : He.DefD := ⟨("_law_done", none), "_law_done", "_law_done", defArgs s__law_done, defBody s__law_done, defScope s__law_done, [], []⟩
def d__law_whole : He.DefD := ⟨("_law_whole", none), "_law_whole", "_law_whole", defArgs s__law_whole, defBody s__law_whole, defScope s__law_whole, [], []⟩
def d__law_drawn : He.DefD := ⟨("_law_drawn", none), "_law_drawn", "_law_drawn", defArgs s__law_drawn, defBody s__law_drawn, defScope s__law_drawn, [], []⟩
def d_law : He.DefD := ⟨("law", none), "law", "law", defArgs s_law, defBody s_law, defScope s_law, [], []⟩
def fnL : List He.DefD := [d_is_whole, d_is_triple, d_check_things, d_is_order, d_check_order, d_run, d_done, d_starts, d__law_cell_at, d__law_draw, d__law_things, d__law_done, d__law_whole, d__law_drawn, d_law]
def faL : List He.Fa := [.glo "is_whole", .glo "is_triple", .glo "check_things", .glo "is_order", .glo "check_order", .glo "run", .glo "done", .glo "starts", .glo "_law_cell_at", .glo "_law_draw", .glo "_law_things", .glo "_law_done", .glo "_law_whole", .glo "_law_drawn", .glo "law", .free "isinstance", .free "int", .free "bool", .free "list", .free "tuple", .free "str", .free "len", .free "all", .free "any", .free "sum", .free "max", .free "sorted", .free "range", .free "enumerate", .free "zip", .free "set", .free "ValueError"]
abbrev Rw : PySem.W.OpenRow := PySem.W.OpenLaw.row PySem.Challenge.rw_benchpair_k03_times
abbrev hkL : PySem.W.Hook := He.hookD 4 faL fnL
def obL (s : PySem.W.SharedT) : He.AlD := He.obsDG 4 faL fnL (HandSHeadRun.getT s)
theorem obL_eq (s : PySem.W.SharedT) : obL s = hkL.obs s.abs := He.obsDG_eq (HandSHeadRun.getT_eq s)
def looseL : List Str := ["BenchError", "BadThings", "BadOrder", "is_whole", "is_triple", "check_things", "is_order", "check_order", "run", "done", "starts", "_law_cell_at", "_law_draw", "_law_things", "_law_done", "_law_order", "_law_worth", "_law_whole", "_law_drawn"]
theorem runL (w : World) : HandSHeadRun.RunEq Rw (PySem.W.view Rw.prog [22]) hkL obL 4000 looseL w := by
  intro os
  kernel_rfl
theorem factsL {P : Program} {w : World} {K : PySem.W.Frag} {h : Heap} {mg : Str → Option Value} {f : Addr} (X : K.In h) (G : h.Ns mainGlobals mg) (hfa : mg ("law" : Str) = some (.ref f)) (c : He.SaysD faL fnL K) :
    ∃ fd : FuncData, (∀ (s : Shared) (v : Value), BindsTo s fd ⟨[v], []⟩ [("_law_script", v)]) ∧ ∀ base : Heap, K.In base → base.Ns mainGlobals mg → FnOk P w K mg base CX0 5 f fd ["_law_script"] (sp_law K) := by
  obtain ⟨fd_is_whole, F_is_whole⟩ := c.def_ 0 (d := d_is_whole) rfl
  obtain ⟨fd_is_triple, F_is_triple⟩ := c.def_ 1 (d := d_is_triple) rfl
  obtain ⟨fd_check_things, F_check_things⟩ := c.def_ 2 (d := d_check_things) rfl
  obtain ⟨fd_is_order, F_is_order⟩ := c.def_ 3 (d := d_is_order) rfl
  obtain ⟨fd_check_order, F_check_order⟩ := c.def_ 4 (d := d_check_order) rfl
  obtain ⟨fd_run, F_run⟩ := c.def_ 5 (d := d_run) rfl
  obtain ⟨fd_done, F_done⟩ := c.def_ 6 (d := d_done) rfl
  obtain ⟨fd_starts, F_starts⟩ := c.def_ 7 (d := d_starts) rfl
  obtain ⟨fd__law_cell_at, F__law_cell_at⟩ := c.def_ 8 (d := d__law_cell_at) rfl
  obtain ⟨fd__law_draw, F__law_draw⟩ := c.def_ 9 (d := d__law_draw) rfl
  obtain ⟨fd__law_things, F__law_things⟩ := c.def_ 10 (d := d__law_things) rfl
  obtain ⟨fd__law_done, F__law_done⟩ := c.def_ 11 (d := d__law_done) rfl
  obtain ⟨fd__law_whole, F__law_whole⟩ := c.def_ 12 (d := d__law_whole) rfl
  obtain ⟨fd__law_drawn, F__law_drawn⟩ := c.def_ 13 (d := d__law_drawn) rfl
  obtain ⟨fd_law, F_law⟩ := c.def_ 14 (d := d_law) rfl
  have B : Blt mg := ⟨He.free_ok X G (c.fact 15 (f := .free "isinstance") rfl), He.free_ok X G (c.fact 16 (f := .free "int") rfl), He.free_ok X G (c.fact 17 (f := .free "bool") rfl), He.free_ok X G (c.fact 18 (f := .free "list") rfl), He.free_ok X G (c.fact 19 (f := .free "tuple") rfl), He.free_ok X G (c.fact 20 (f := .free "str") rfl), He.free_ok X G (c.fact 21 (f := .free "len") rfl), He.free_ok X G (c.fact 22 (f := .free "all") rfl), He.free_ok X G (c.fact 23 (f := .free "any") rfl), He.free_ok X G (c.fact 24 (f := .free "sum") rfl), He.free_ok X G (c.fact 25 (f := .free "max") rfl), He.free_ok X G (c.fact 26 (f := .free "sorted") rfl), He.free_ok X G (c.fact 27 (f := .free "range") rfl), He.free_ok X G (c.fact 28 (f := .free "enumerate") rfl), He.free_ok X G (c.fact 29 (f := .free "zip") rfl), He.free_ok X G (c.fact 30 (f := .free "set") rfl), He.free_ok X G (c.fact 31 (f := .free "ValueError") rfl)⟩
  have e := hfa.symm.trans (He.glo_ok X G (c.fact 14 (f := .glo "law") rfl))
  cases e
  have b := FunD.bindsA (ps := ["_law_script"]) F_law fun _ _ _ _ _ _ us hl => match us, hl with | [_], _ => rfl
  have D_is_whole : Def K mg "is_whole" s_is_whole ["thing"] := ⟨_, fd_is_whole, F_is_whole, He.glo_ok X G (c.fact 0 (f := .glo "is_whole") rfl), F_is_whole.bindsN fun _ _ _ _ _ _ us hl => match us, hl with | [_], _ => rfl⟩
  have D_is_triple : Def K mg "is_triple" s_is_triple ["thing"] := ⟨_, fd_is_triple, F_is_triple, He.glo_ok X G (c.fact 1 (f := .glo "is_triple") rfl), F_is_triple.bindsN fun _ _ _ _ _ _ us hl => match us, hl with | [_], _ => rfl⟩
  have D_check_things : Def K mg "check_things" s_check_things ["things"] := ⟨_, fd_check_things, F_check_things, He.glo_ok X G (c.fact 2 (f := .glo "check_things") rfl), F_check_things.bindsN fun _ _ _ _ _ _ us hl => match us, hl with | [_], _ => rfl⟩
  have D_is_order : Def K mg "is_order" s_is_order ["things", "order"] := ⟨_, fd_is_order, F_is_order, He.glo_ok X G (c.fact 3 (f := .glo "is_order") rfl), F_is_order.bindsN fun _ _ _ _ _ _ us hl => match us, hl with | [_, _], _ => rfl⟩
  have D_check_order : Def K mg "check_order" s_check_order ["things", "order"] := ⟨_, fd_check_order, F_check_order, He.glo_ok X G (c.fact 4 (f := .glo "check_order") rfl), F_check_order.bindsN fun _ _ _ _ _ _ us hl => match us, hl with | [_, _], _ => rfl⟩
  have D_run : Def K mg "run" s_run ["things", "order"] := ⟨_, fd_run, F_run, He.glo_ok X G (c.fact 5 (f := .glo "run") rfl), F_run.bindsN fun _ _ _ _ _ _ us hl => match us, hl with | [_, _], _ => rfl⟩
  have D_done : Def K mg "done" s_done ["things", "order"] := ⟨_, fd_done, F_done, He.glo_ok X G (c.fact 6 (f := .glo "done") rfl), F_done.bindsN fun _ _ _ _ _ _ us hl => match us, hl with | [_, _], _ => rfl⟩
  have D_starts : Def K mg "starts" s_starts ["things", "order"] := ⟨_, fd_starts, F_starts, He.glo_ok X G (c.fact 7 (f := .glo "starts") rfl), F_starts.bindsN fun _ _ _ _ _ _ us hl => match us, hl with | [_, _], _ => rfl⟩
  have D__law_cell_at : Def K mg "_law_cell_at" s__law_cell_at ["_law_script", "_law_k"] := ⟨_, fd__law_cell_at, F__law_cell_at, He.glo_ok X G (c.fact 8 (f := .glo "_law_cell_at") rfl), F__law_cell_at.bindsN fun _ _ _ _ _ _ us hl => match us, hl with | [_, _], _ => rfl⟩
  have D__law_draw : Def K mg "_law_draw" s__law_draw ["_law_cell", "_law_k", "_law_many"] := ⟨_, fd__law_draw, F__law_draw, He.glo_ok X G (c.fact 9 (f := .glo "_law_draw") rfl), F__law_draw.bindsN fun _ _ _ _ _ _ us hl => match us, hl with | [_, _, _], _ => rfl⟩
  have D__law_things : Def K mg "_law_things" s__law_things ["_law_script"] := ⟨_, fd__law_things, F__law_things, He.glo_ok X G (c.fact 10 (f := .glo "_law_things") rfl), F__law_things.bindsN fun _ _ _ _ _ _ us hl => match us, hl with | [_], _ => rfl⟩
  have D__law_done : Def K mg "_law_done" s__law_done ["_law_things_here", "_law_order_here"] := ⟨_, fd__law_done, F__law_done, He.glo_ok X G (c.fact 11 (f := .glo "_law_done") rfl), F__law_done.bindsN fun _ _ _ _ _ _ us hl => match us, hl with | [_, _], _ => rfl⟩
  have D__law_whole : Def K mg "_law_whole" s__law_whole ["_law_number"] := ⟨_, fd__law_whole, F__law_whole, He.glo_ok X G (c.fact 12 (f := .glo "_law_whole") rfl), F__law_whole.bindsN fun _ _ _ _ _ _ us hl => match us, hl with | [_], _ => rfl⟩
  have D__law_drawn : Def K mg "_law_drawn" s__law_drawn ["_law_script", "_law_many"] := ⟨_, fd__law_drawn, F__law_drawn, He.glo_ok X G (c.fact 13 (f := .glo "_law_drawn") rfl), F__law_drawn.bindsN fun _ _ _ _ _ _ us hl => match us, hl with | [_, _], _ => rfl⟩
  refine ⟨fd_law, fun s v => b s [v] rfl, fun base _ _ => ?_⟩
  have c_is_whole := ok_is_whole (P := P) (w := w) (base := base) B D_is_whole
  have c_is_triple := ok_is_triple (P := P) (w := w) (base := base) B c_is_whole D_is_triple
  have c_check_things := ok_check_things (P := P) (w := w) (base := base) B c_is_triple D_check_things
  have c_is_order := ok_is_order (P := P) (w := w) (base := base) B c_is_whole D_is_order
  have c_check_order := ok_check_order (P := P) (w := w) (base := base) B c_is_order D_check_order
  have c_run := ok_run (P := P) (w := w) (base := base) B D_run
  have c_done := ok_done (P := P) (w := w) (base := base) B c_check_things c_check_order c_run D_done
  have c_starts := ok_starts (P := P) (w := w) (base := base) B c_check_things c_check_order c_run D_starts
  have c__law_cell_at := ok__law_cell_at (P := P) (w := w) (base := base) B D__law_cell_at
  have c__law_draw := ok__law_draw (P := P) (w := w) (base := base) B D__law_draw
  have c__law_things := ok__law_things (P := P) (w := w) (base := base) B c__law_cell_at c__law_draw D__law_things
  have c__law_done := ok__law_done (P := P) (w := w) (base := base) B D__law_done
  have c__law_whole := ok__law_whole (P := P) (w := w) (base := base) B D__law_whole
  have c__law_drawn := ok__law_drawn (P := P) (w := w) (base := base) B c__law_cell_at c__law_draw D__law_drawn
  exact ok_law (P := P) (w := w) (base := base) B c__law_cell_at c__law_draw c__law_things c__law_done c__law_whole c__law_drawn c_done c_starts F_law
end Bp
open PySem PySem.W PySem.Calls PyProof.Rows
theorem PySem.Challenge.cw_benchpair_k03_times_holds : PySem.Challenge.rw_benchpair_k03_times.Holds := by
  w_on; o_law
  refine HandSHeadRun.head_any (r := OpenLaw.row PySem.Challenge.rw_benchpair_k03_times) (q := view (OpenLaw.row PySem.Challenge.rw_benchpair_k03_times).prog [22]) (H := Bp.hkL) (ob := Bp.obL) (M := 4000) (loose := Bp.looseL) (d := HandSHeadRun.topDef (OpenLaw.row PySem.Challenge.rw_benchpair_k03_times).prog 22) (kwd := []) Bp.obL_eq
    (by kernel_rfl) (fun s => by kernel_rfl) Bp.runL (by kernel_rfl) (by kernel_rfl) (by kernel_rfl) (by rfl) (by first | assumption | decide +kernel) (by decide +kernel) ⟨rfl, rfl, rfl, rfl, rfl, by decide +kernel⟩ ?hw ?hc
  case hw => w_witness2
  case hc =>
    refine L2.walk_ofE (l := PySem.Challenge.rw_benchpair_k03_times) (n := 63) (k := 5) (x := "_law_script") (CX := L2.CX0) rfl (by decide) (by kernel_rfl) ⟨rfl, by decide, by decide⟩ ?F (fun _ _ _ _ z => z)
    intro w mg fa h Y G hmg0
    obtain ⟨K, KX, c⟩ := Y
    have hmg : mg ("law" : PySem.Str) = some (.ref fa) := by
      have e : (HandSHeadRun.topDef (OpenLaw.row PySem.Challenge.rw_benchpair_k03_times).prog 22).name = ("law" : PySem.Str) := by kernel_rfl
      rw [← e]
      exact hmg0
    obtain ⟨fd, hb, hF⟩ := Bp.factsL (P := (PySem.Challenge.rw_benchpair_k03_times).prog) (w := w) KX G hmg c
    exact ⟨K, fd, Bp.sp_law K, KX, hb, fun H a ns hl _ hS => ⟨a, ns, rfl, hS, hl, fun _ => rfl⟩, hF⟩
