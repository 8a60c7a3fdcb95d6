import PyProof.Rows.All
import Wide.All
import OpenK.AllK
import Wide.FinOn
import PyProof.EqAt
import PyProof.EqKinds
import PyProof.TupleCall
import KE.KStateDown
import HandS.ForMost
import HandS.Exc
import HandS.TryOnly
import HandS.ExcOwn
import HandS.WordsExc
import HandS.IsInst
import HandS.Sort
import HandS.SortRule
import HandS.SortInts
import HandS.Conv
import HandS.Style
import HandS.Zip
import HandS.Wide
import HandS.More
import HandS.Defaults
import HandS.Codes
import HandS.Head0
import HandS.Head1
import HandS.Head2
import HandS.HeadEnd
import HandS.HeadHook1
import HandS.HeadHook2
import HandS.Set
import HandS.SetFor
import HandS.Strs
import HandS.StrMore
import HandS.Hot
import HandS.HotCalls
import HandS.ExcCtx
import HandS.ExcIs
import KE.IntTextText
import KE.KIntText
import PySem.Challenge.RW_benchpair_k05_written
set_option Elab.async false
set_option linter.all false
set_option maxRecDepth 100000
set_option maxHeartbeats 8000000
/-! Benchpair: the plain mathematics of an order (no program in sight). -/
namespace Bp
/-- a thing: bench 1, drying, bench 2 -/
abbrev T3 := Int × Int × Int
def Nn (t : T3) : Prop := 0 ≤ t.1 ∧ 0 ≤ t.2.1 ∧ 0 ≤ t.2.2
def sa : List T3 → Int
  | [] => 0
  | t :: r => t.1 + sa r
def sb : List T3 → Int
  | [] => 0
  | t :: r => t.2.2 + sb r
/-- the greater one, as Python's max tells it -/
def gr (i j : Int) : Int := if j > i then j else i
theorem gr_le {i j x : Int} : gr i j ≤ x ↔ i ≤ x ∧ j ≤ x := by
  unfold gr; split <;> omega
theorem le_gr1 (i j : Int) : i ≤ gr i j := by unfold gr; split <;> omega
theorem le_gr2 (i j : Int) : j ≤ gr i j := by unfold gr; split <;> omega
/-- when bench 2 is free at the end, from f and s on -/
def endOf (f s : Int) : List T3 → Int
  | [] => s
  | t :: r => endOf (f + t.1) (gr s (f + t.1 + t.2.1) + t.2.2) r
/-- when each begins on either bench -/
def runP (f s : Int) : List T3 → List (Int × Int)
  | [] => []
  | t :: r => (f, gr s (f + t.1 + t.2.1)) :: runP (f + t.1) (gr s (f + t.1 + t.2.1) + t.2.2) r
/-- the longest way, as it is looked for from the left -/
def mx (f : Int) : List T3 → Int → Int
  | [], m => m
  | t :: r, m => mx (f + t.1) r (gr m (f + t.1 + t.2.1 + (t.2.2 + sb r)))
/-- the way that changes benches at t -/
def pth (p : List T3) (t : T3) (r : List T3) : Int := sa p + t.1 + t.2.1 + (t.2.2 + sb r)
theorem sa_app : ∀ p q : List T3, sa (p ++ q) = sa p + sa q
  | [], q => by simp [sa]
  | t :: p, q => by rw [List.cons_append, sa, sa, sa_app p q]; omega
theorem sb_app : ∀ p q : List T3, sb (p ++ q) = sb p + sb q
  | [], q => by simp [sb]
  | t :: p, q => by rw [List.cons_append, sb, sb, sb_app p q]; omega
theorem sa_nn : ∀ {l : List T3}, (∀ t ∈ l, Nn t) → 0 ≤ sa l
  | [], _ => Int.le_refl 0
  | t :: r, h => by
    have h1 := (h t List.mem_cons_self).1
    have h2 := sa_nn fun u hu => h u (List.mem_cons_of_mem t hu)
    rw [sa]; omega
theorem sb_nn : ∀ {l : List T3}, (∀ t ∈ l, Nn t) → 0 ≤ sb l
  | [], _ => Int.le_refl 0
  | t :: r, h => by
    have h1 := (h t List.mem_cons_self).2.2
    have h2 := sb_nn fun u hu => h u (List.mem_cons_of_mem t hu)
    rw [sb]; omega
theorem runP_len : ∀ (f s : Int) (l : List T3), (runP f s l).length = l.length
  | _, _, [] => rfl
  | f, s, t :: r => by rw [runP, List.length_cons, List.length_cons, runP_len]
theorem endOf_mx : ∀ (l : List T3) (f s : Int), endOf f s l = mx f l (s + sb l)
  | [], f, s => by simp [endOf, mx, sb]
  | t :: r, f, s => by
    rw [endOf, mx, sb, endOf_mx r]
    congr 1
    unfold gr
    split <;> split <;> omega
theorem mx_le : ∀ (l : List T3) (f m x : Int), mx f l m ≤ x ↔ m ≤ x ∧ ∀ p t r, l = p ++ t :: r → f + pth p t r ≤ x
  | [], f, m, x => by
    rw [mx]
    refine ⟨fun h => ⟨h, fun p t r e => ?_⟩, fun h => h.1⟩
    cases p <;> cases e
  | u :: l, f, m, x => by
    rw [mx, mx_le l, gr_le]
    constructor
    · rintro ⟨⟨h1, h2⟩, h3⟩
      refine ⟨h1, fun p t r e => ?_⟩
      cases p with
      | nil =>
        rw [List.nil_append] at e
        injection e with e1 e2
        subst e1 e2
        simp only [pth, sa]
        omega
      | cons v p =>
        rw [List.cons_append] at e
        injection e with e1 e2
        subst e1
        have h4 := h3 p t r e2
        simp only [pth, sa] at h4 ⊢
        omega
    · rintro ⟨h1, h2⟩
      refine ⟨⟨h1, ?_⟩, fun p t r e => ?_⟩
      · have h3 := h2 [] u l rfl
        simp only [pth, sa] at h3
        omega
      · have h3 := h2 (u :: p) t r (by rw [e, List.cons_append])
        simp only [pth, sa] at h3 ⊢
        omega
/-- when all is done -/
def dn (l : List T3) : Int := endOf 0 0 l
/-- the same, by the ways through -/
def ld (l : List T3) : Int := mx 0 l 0
theorem ld_le {l : List T3} {x : Int} : ld l ≤ x ↔ 0 ≤ x ∧ ∀ p t r, l = p ++ t :: r → pth p t r ≤ x := by
  unfold ld
  rw [mx_le]
  constructor
  · rintro ⟨h1, h2⟩
    exact ⟨h1, fun p t r e => by have := h2 p t r e; omega⟩
  · rintro ⟨h1, h2⟩
    exact ⟨h1, fun p t r e => by have := h2 p t r e; omega⟩
theorem dn_le {l : List T3} (h : ∀ t ∈ l, Nn t) {x : Int} : dn l ≤ x ↔ 0 ≤ x ∧ ∀ p t r, l = p ++ t :: r → pth p t r ≤ x := by
  unfold dn
  rw [endOf_mx, mx_le]
  constructor
  · rintro ⟨h1, h2⟩
    have := sb_nn h
    exact ⟨by omega, fun p t r e => by have := h2 p t r e; omega⟩
  · rintro ⟨h1, h2⟩
    refine ⟨?_, fun p t r e => by have := h2 p t r e; omega⟩
    cases l with
    | nil => simp only [sb]; omega
    | cons t r =>
      have h3 := h2 [] t r rfl
      have h4 := h t List.mem_cons_self
      simp only [pth, sa, sb] at h3 ⊢
      have := h4.1
      have := h4.2.1
      omega
theorem le_anti {a b : Int} (h : ∀ x, a ≤ x ↔ b ≤ x) : a = b := by
  have h1 := (h b).mpr (Int.le_refl b)
  have h2 := (h a).mp (Int.le_refl a)
  omega
theorem dn_ld {l : List T3} (h : ∀ t ∈ l, Nn t) : dn l = ld l := le_anti fun _ => (dn_le h).trans ld_le.symm
theorem ld_nn (l : List T3) : 0 ≤ ld l := (ld_le.mp (Int.le_refl (ld l))).1
theorem pth_le_ld {l p r : List T3} {t : T3} (e : l = p ++ t :: r) : pth p t r ≤ ld l := (ld_le.mp (Int.le_refl (ld l))).2 p t r e
/-! ### benches exchanged -/
def tn (t : T3) : T3 := (t.2.2, t.2.1, t.1)
theorem tn_tn (t : T3) : tn (tn t) = t := rfl
theorem tn_nn {t : T3} (h : Nn t) : Nn (tn t) := ⟨h.2.2, h.2.1, h.1⟩
theorem tn_map (l : List T3) : (l.map tn).map tn = l := by
  rw [List.map_map]
  exact List.map_id'' (fun t => tn_tn t) l
theorem sa_tn : ∀ l : List T3, sa (l.map tn) = sb l
  | [] => rfl
  | t :: r => by rw [List.map_cons, sa, sb, sa_tn r]; rfl
theorem sb_tn : ∀ l : List T3, sb (l.map tn) = sa l
  | [] => rfl
  | t :: r => by rw [List.map_cons, sa, sb, sb_tn r]; rfl
theorem sa_rev : ∀ l : List T3, sa l.reverse = sa l
  | [] => rfl
  | t :: r => by rw [List.reverse_cons, sa_app, sa_rev r, sa, sa, sa]; omega
theorem sb_rev : ∀ l : List T3, sb l.reverse = sb l
  | [] => rfl
  | t :: r => by rw [List.reverse_cons, sb_app, sb_rev r, sb, sb, sb]; omega
theorem pth_rev (p : List T3) (t : T3) (r : List T3) : pth (r.map tn).reverse (tn t) (p.map tn).reverse = pth p t r := by
  unfold pth
  rw [sa_rev, sb_rev, sa_tn, sb_tn]
  simp only [tn]
  omega
theorem split_rev {l p r : List T3} {t : T3} (e : l = p ++ t :: r) : (l.map tn).reverse = (r.map tn).reverse ++ tn t :: (p.map tn).reverse := by
  rw [e, List.map_append, List.map_cons, List.reverse_append, List.reverse_cons, List.append_assoc] <;> rfl
theorem ld_rev (l : List T3) : ld (l.map tn).reverse = ld l := by
  refine le_anti fun x => ?_
  rw [ld_le, ld_le]
  constructor
  · rintro ⟨h1, h2⟩
    exact ⟨h1, fun p t r e => by have := h2 _ _ _ (split_rev e); rw [pth_rev] at this; exact this⟩
  · rintro ⟨h1, h2⟩
    refine ⟨h1, fun p t r e => ?_⟩
    have e2 : l = (r.map tn).reverse ++ tn t :: (p.map tn).reverse := by
      have e3 := split_rev e
      rw [List.map_reverse, tn_map, List.reverse_reverse] at e3
      exact e3
    have := h2 _ _ _ e2
    rw [pth_rev] at this
    exact this
theorem nn_turn {l : List T3} (h : ∀ t ∈ l, Nn t) : ∀ t ∈ (l.map tn).reverse, Nn t := fun t ht => by
  rw [List.mem_reverse, List.mem_map] at ht
  obtain ⟨u, hu, rfl⟩ := ht
  exact tn_nn (h u hu)
theorem dn_rev {l : List T3} (h : ∀ t ∈ l, Nn t) : dn (l.map tn).reverse = dn l := by
  rw [dn_ld h, dn_ld (nn_turn h), ld_rev]
/-! ### a thing less -/
theorem sa_sub {p q : List T3} (h : p.Sublist q) (hq : ∀ t ∈ q, Nn t) : sa p ≤ sa q := by
  induction h with
  | slnil => exact Int.le_refl 0
  | cons t _ ih =>
    have := ih fun u hu => hq u (List.mem_cons_of_mem t hu)
    have := (hq t List.mem_cons_self).1
    rw [sa]; omega
  | cons_cons t _ ih =>
    have := ih fun u hu => hq u (List.mem_cons_of_mem t hu)
    rw [sa, sa]; omega
theorem sb_sub {p q : List T3} (h : p.Sublist q) (hq : ∀ t ∈ q, Nn t) : sb p ≤ sb q := by
  induction h with
  | slnil => exact Int.le_refl 0
  | cons t _ ih =>
    have := ih fun u hu => hq u (List.mem_cons_of_mem t hu)
    have := (hq t List.mem_cons_self).2.2
    rw [sb]; omega
  | cons_cons t _ ih =>
    have := ih fun u hu => hq u (List.mem_cons_of_mem t hu)
    rw [sb, sb]; omega
theorem ld_sub {l m : List T3} (h : l.Sublist m) (hm : ∀ t ∈ m, Nn t) : ld l ≤ ld m := by
  rw [ld_le]
  refine ⟨ld_nn m, fun p t r e => ?_⟩
  subst e
  obtain ⟨m1, m2, e1, h1, h2⟩ := List.append_sublist_iff.mp h
  obtain ⟨m3, m4, e2, h3, h4⟩ := List.cons_sublist_iff.mp h2
  obtain ⟨m5, m6, e3⟩ := List.append_of_mem h3
  subst e1 e2 e3
  have q : m1 ++ (m5 ++ t :: m6 ++ m4) = (m1 ++ m5) ++ t :: (m6 ++ m4) := by simp
  have w := pth_le_ld q
  have a1 := sa_sub h1 fun u hu => hm u (List.mem_append_left _ hu)
  have a2 : 0 ≤ sa m5 := sa_nn fun u hu => hm u (by simp [hu])
  have b1 := sb_sub h4 fun u hu => hm u (by simp [hu])
  have b2 : 0 ≤ sb m6 := sb_nn fun u hu => hm u (by simp [hu])
  unfold pth at w ⊢
  rw [sa_app, sb_app] at w
  omega
end Bp
/-! Benchpair: orders as lists of counts. -/
namespace Bp
/-- the things in an order -/
def sq (ts : List T3) (os : List Nat) : List T3 := os.map fun k => ts.getD k (0, 0, 0)
/-- 0, 1, .. as whole numbers -/
def zs (os : List Nat) : List Int := os.map fun k : Nat => (k : Int)
def rg (n : Nat) : List Int := zs (List.range n)
theorem zs_len (os : List Nat) : (zs os).length = os.length := List.length_map ..
theorem sq_len (ts : List T3) (os : List Nat) : (sq ts os).length = os.length := List.length_map ..
theorem sq_app (ts : List T3) (p q : List Nat) : sq ts (p ++ q) = sq ts p ++ sq ts q := List.map_append ..
theorem getD_at {ts : List T3} {k : Nat} (h : k < ts.length) : ts[k]? = some (ts.getD k (0, 0, 0)) := by
  rw [List.getD_eq_getElem?_getD, List.getElem?_eq_getElem h]; rfl
theorem sq_nn {ts : List T3} {os : List Nat} (h : ∀ t ∈ ts, Nn t) (ho : ∀ k ∈ os, k < ts.length) : ∀ t ∈ sq ts os, Nn t := fun t ht => by
  obtain ⟨k, hk, rfl⟩ := List.mem_map.mp ht
  exact h _ (List.mem_of_getElem? (getD_at (ho k hk)))
theorem perm_lt {os : List Nat} {n : Nat} (h : os.Perm (List.range n)) : ∀ k ∈ os, k < n := fun k hk => List.mem_range.mp (h.mem_iff.mp hk)
theorem perm_len {os : List Nat} {n : Nat} (h : os.Perm (List.range n)) : os.length = n := by rw [h.length_eq, List.length_range]
theorem perm_nd {os : List Nat} {n : Nat} (h : os.Perm (List.range n)) : os.Nodup := h.nodup_iff.mpr List.nodup_range
theorem sq_tn (ts : List T3) (os : List Nat) : sq (ts.map tn) os = (sq ts os).map tn := by
  unfold sq
  rw [List.map_map]
  refine List.map_congr_left fun k _ => ?_
  show (ts.map tn).getD k (0, 0, 0) = tn (ts.getD k (0, 0, 0))
  rw [List.getD_eq_getElem?_getD, List.getD_eq_getElem?_getD, List.getElem?_map]
  cases ts[k]? <;> rfl
theorem sq_rev (ts : List T3) (os : List Nat) : sq (ts.map tn) os.reverse = ((sq ts os).map tn).reverse := by
  rw [sq_tn]; unfold sq; rw [List.map_reverse, List.map_reverse]
/-- benches exchanged, the order turned about: done as soon -/
theorem dn_turned {ts : List T3} {os : List Nat} (h : ∀ t ∈ ts, Nn t) (ho : ∀ k ∈ os, k < ts.length) : dn (sq (ts.map tn) os.reverse) = dn (sq ts os) := by
  rw [sq_rev]; exact dn_rev (sq_nn h ho)
/-! ### a thing left out -/
def dropAt (out : Nat) (os : List Nat) : List Nat := (os.filter fun k => decide (k ≠ out)).map fun k => if out < k then k - 1 else k
theorem range_drop {n out : Nat} (h : out < n) : dropAt out (List.range n) = List.range (n - 1) := by
  have e : List.range n = List.range out ++ [out] ++ (List.range (n - out - 1)).map (fun k => out + 1 + k) := by
    have h1 := List.range_add (n := out + 1) (m := n - out - 1)
    rw [show out + 1 + (n - out - 1) = n by omega, List.range_succ] at h1
    exact h1
  have e2 : List.range (n - 1) = List.range out ++ (List.range (n - out - 1)).map (fun k => out + k) := by
    have h1 := List.range_add (n := out) (m := n - out - 1)
    rw [show out + (n - out - 1) = n - 1 by omega] at h1
    exact h1
  unfold dropAt
  rw [e, e2, List.filter_append, List.filter_append, List.map_append, List.map_append]
  have f1 : (List.range out).filter (fun k => decide (k ≠ out)) = List.range out := List.filter_eq_self.mpr fun k hk => by
    have := List.mem_range.mp hk
    exact decide_eq_true (by omega)
  have f2 : [out].filter (fun k => decide (k ≠ out)) = [] := by simp
  have f3 : ((List.range (n - out - 1)).map (fun k => out + 1 + k)).filter (fun k => decide (k ≠ out)) = (List.range (n - out - 1)).map (fun k => out + 1 + k) := List.filter_eq_self.mpr fun k hk => by
    obtain ⟨j, _, rfl⟩ := List.mem_map.mp hk
    exact decide_eq_true (by omega)
  rw [f1, f2, f3, List.map_nil, List.append_nil, List.map_map]
  congr 1
  · refine (List.map_congr_left (g := id) fun k hk => ?_).trans (List.map_id _)
    have := List.mem_range.mp hk
    exact if_neg (by omega)
  · refine List.map_congr_left fun k _ => ?_
    show (if out < out + 1 + k then out + 1 + k - 1 else out + 1 + k) = out + k
    rw [if_pos (by omega)]; omega
theorem dropAt_perm {os : List Nat} {n out : Nat} (h : os.Perm (List.range n)) (ho : out < n) : (dropAt out os).Perm (List.range (n - 1)) := by
  rw [← range_drop ho]
  exact (h.filter _).map _
theorem sq_drop {ts : List T3} {os : List Nat} {out : Nat} (ho : ∀ k ∈ os, k < ts.length) : sq (ts.take out ++ ts.drop (out + 1)) (dropAt out os) = sq ts (os.filter fun k => decide (k ≠ out)) := by
  unfold sq dropAt
  rw [List.map_map]
  refine List.map_congr_left fun k hk => ?_
  obtain ⟨h1, h2⟩ := List.mem_filter.mp hk
  have h3 : k ≠ out := of_decide_eq_true h2
  show (ts.take out ++ ts.drop (out + 1)).getD (if out < k then k - 1 else k) (0, 0, 0) = ts.getD k (0, 0, 0)
  rw [← List.eraseIdx_eq_take_drop_succ, List.getD_eq_getElem?_getD, List.getD_eq_getElem?_getD, List.getElem?_eraseIdx]
  by_cases c : out < k
  · rw [if_pos c, if_neg (by omega), show k - 1 + 1 = k by omega]
  · rw [if_neg c, if_pos (by omega)]
theorem dn_less {ts : List T3} {os : List Nat} {out : Nat} (h : ∀ t ∈ ts, Nn t) (ho : ∀ k ∈ os, k < ts.length) : dn (sq (ts.take out ++ ts.drop (out + 1)) (dropAt out os)) ≤ dn (sq ts os) := by
  have hs : (sq ts (os.filter fun k => decide (k ≠ out))).Sublist (sq ts os) := List.filter_sublist.map _
  rw [sq_drop ho, dn_ld (sq_nn h fun k hk => ho k (List.mem_filter.mp hk).1), dn_ld (sq_nn h ho)]
  exact ld_sub hs (sq_nn h ho)
/-! ### sorted -/
theorem rg_sorted (n : Nat) : (rg n).Pairwise (· ≤ ·) := by
  unfold rg zs
  rw [List.pairwise_map]
  exact List.pairwise_lt_range.imp fun h => by omega
theorem sorted_uniq {a b : List Int} (h : a.Perm b) (ha : a.Pairwise (· ≤ ·)) (hb : b.Pairwise (· ≤ ·)) : a = b :=
  h.eq_of_pairwise (fun _ _ _ _ h1 h2 => by omega) ha hb
/-- what sorted(order) == list(range(n)) tells -/
theorem sorted_rg {ns ms : List Int} {n : Nat} (h : ms.Perm ns) (hs : ms.Pairwise (· ≤ ·)) : ms = rg n ↔ ns.Perm (rg n) := by
  constructor
  · intro e
    rw [← e]
    exact h.symm
  · intro p
    exact sorted_uniq (h.trans p) hs (rg_sorted n)
theorem zs_perm {os : List Nat} {n : Nat} (h : os.Perm (List.range n)) : (zs os).Perm (rg n) := h.map _
/-- a list of whole numbers that is an order is one of counts -/
theorem perm_zs {ns : List Int} {n : Nat} (h : ns.Perm (rg n)) : ∃ os : List Nat, ns = zs os ∧ os.Perm (List.range n) := by
  refine ⟨ns.map Int.toNat, ?_, ?_⟩
  · unfold zs
    rw [List.map_map]
    refine ((List.map_congr_left (g := id) fun z hz => ?_).trans (List.map_id _)).symm
    obtain ⟨k, _, e⟩ := List.mem_map.mp (h.mem_iff.mp hz)
    show ((z.toNat : Nat) : Int) = z
    omega
  · have h2 := h.map Int.toNat
    unfold rg zs at h2
    rw [List.map_map] at h2
    have e : (List.range n).map (Int.toNat ∘ fun k : Nat => (k : Int)) = List.range n := (List.map_congr_left (g := id) fun k _ => by
      show ((k : Int)).toNat = k
      omega).trans (List.map_id _)
    rw [e] at h2
    exact h2
theorem zs_inj {a b : List Nat} (h : zs a = zs b) : a = b := by
  have h2 := congrArg (List.map Int.toNat) h
  unfold zs at h2
  rw [List.map_map, List.map_map] at h2
  have e : ∀ l : List Nat, l.map (Int.toNat ∘ fun k : Nat => (k : Int)) = l := fun l => (List.map_congr_left (g := id) fun k _ => by
    show ((k : Int)).toNat = k
    omega).trans (List.map_id _)
  rw [e, e] at h2
  exact h2
/-! ### lists set by place -/
def setAll {α : Type} : List α → List Nat → List α → List α
  | l, k :: os, x :: xs => setAll (l.set k x) os xs
  | l, _, _ => l
theorem setAll_len {α : Type} : ∀ (os : List Nat) (l xs : List α), (setAll l os xs).length = l.length
  | [], l, xs => by cases xs <;> rfl
  | k :: os, l, [] => rfl
  | k :: os, l, x :: xs => by rw [setAll, setAll_len os, List.length_set]
theorem setAll_take {α : Type} : ∀ (os : List Nat) (l xs : List α) (i k : Nat) (x : α), os[i]? = some k → xs[i]? = some x → setAll l (os.take (i + 1)) (xs.take (i + 1)) = (setAll l (os.take i) (xs.take i)).set k x
  | [], l, xs, i, k, x, h, _ => by simp at h
  | _ :: _, l, [], i, k, x, _, h => by simp at h
  | j :: os, l, y :: xs, 0, k, x, h1, h2 => by
    simp at h1 h2
    subst h1 h2
    rfl
  | j :: os, l, y :: xs, i + 1, k, x, h1, h2 => by
    have ih := setAll_take os (l.set j y) xs i k x (by simpa using h1) (by simpa using h2)
    show setAll (l.set j y) (os.take (i + 1)) (xs.take (i + 1)) = (setAll (l.set j y) (os.take i) (xs.take i)).set k x
    exact ih
/-! ### an order drawn: each thing put in somewhere -/
theorem ins_perm {os : List Nat} {n p : Nat} (h : os.Perm (List.range n)) : (os.take p ++ [n] ++ os.drop p).Perm (List.range (n + 1)) := by
  rw [List.range_succ]
  have h1 : (os.take p ++ [n] ++ os.drop p).Perm (os ++ [n]) := by
    have h2 : (os.take p ++ [n] ++ os.drop p).Perm (os.take p ++ (os.drop p ++ [n])) := by
      rw [List.append_assoc]
      exact List.Perm.append_left _ List.perm_append_comm
    rw [← List.append_assoc, List.take_append_drop] at h2
    exact h2
  exact h1.trans (h.append_right _)
end Bp
/-! Benchpair: bars, and that no order is done sooner than one is worth. -/
namespace Bp
def hre (b : Int) (t : T3) : Int := if b = 1 then t.1 else t.2.2
def thr (b : Int) (t : T3) : Int := if b = 1 then t.2.2 else t.1
def okE (b l : Int) (e : Bool × T3) : Bool := if e.1 = true then decide (hre b e.2 ≤ thr b e.2) else (decide (l ≤ hre b e.2 + e.2.2.1) || decide (thr b e.2 ≤ hre b e.2))
def vE (b : Int) (e : Bool × T3) : Int := if e.1 = true then hre b e.2 else thr b e.2
def mE (b l : Int) (e : Bool × T3) : Bool := !e.1 && decide (l ≤ hre b e.2 + e.2.2.1)
/-- the entries of a bar: whether a thing stands in it, and the thing -/
def ent (ts : List T3) (ap : List Int) (k : Nat) : Bool × T3 := (decide ((k : Int) ∈ ap), ts.getD k (0, 0, 0))
def ents (ts : List T3) (ap : List Int) : List (Bool × T3) := (List.range ts.length).map (ent ts ap)
/-- rising counts -/
def ris (n : Nat) : Int → List Int → Bool
  | _, [] => true
  | last, x :: r => decide (last < x) && decide (x < n) && ris n x r
def vS (b : Int) (es : List (Bool × T3)) : Int := (es.map (vE b)).sum
/-- the worth of a bar, if it is one -/
def wv (ts : List T3) (b : Int) (ap : List Int) (l : Int) : Option Int :=
  if (b = 1 ∨ b = 2) ∧ ris ts.length (-1) ap = true ∧ 0 ≤ l then
    (if (ents ts ap).all (okE b l) = true ∧ (l = 0 ∨ (ents ts ap).any (mE b l) = true) then some (l + vS b (ents ts ap)) else none)
  else none
theorem vS_app (b : Int) (p q : List (Bool × T3)) : vS b (p ++ q) = vS b p + vS b q := by
  unfold vS
  rw [List.map_append, List.sum_append]
theorem vS_cons (b : Int) (e : Bool × T3) (q : List (Bool × T3)) : vS b (e :: q) = vE b e + vS b q := by
  unfold vS
  rw [List.map_cons, List.sum_cons]
theorem vS_perm (b : Int) {p q : List (Bool × T3)} (h : p.Perm q) : vS b p = vS b q := by
  induction h with
  | nil => rfl
  | cons x _ ih => rw [vS_cons, vS_cons, ih]
  | swap x y l => rw [vS_cons, vS_cons, vS_cons, vS_cons]; omega
  | trans _ _ h1 h2 => rw [h1, h2]
theorem wv_some {ts : List T3} {b l w : Int} {ap : List Int} (h : wv ts b ap l = some w) :
    (b = 1 ∨ b = 2) ∧ ris ts.length (-1) ap = true ∧ 0 ≤ l ∧ (ents ts ap).all (okE b l) = true ∧ (l = 0 ∨ (ents ts ap).any (mE b l) = true) ∧ w = l + vS b (ents ts ap) := by
  unfold wv at h
  split at h
  · rename_i c
    split at h
    · rename_i d
      exact ⟨c.1, c.2.1, c.2.2, d.1, d.2, (Option.some.inj h).symm⟩
    · cases h
  · cases h
theorem wv_of {ts : List T3} {b l : Int} {ap : List Int} (h1 : b = 1 ∨ b = 2) (h2 : ris ts.length (-1) ap = true) (h3 : 0 ≤ l) (h4 : (ents ts ap).all (okE b l) = true) (h5 : l = 0 ∨ (ents ts ap).any (mE b l) = true) : wv ts b ap l = some (l + vS b (ents ts ap)) := by
  unfold wv
  rw [if_pos ⟨h1, h2, h3⟩, if_pos ⟨h4, h5⟩]
/-! ### no order is done sooner -/
/-- the things of entries -/
def th (es : List (Bool × T3)) : List T3 := es.map (·.2)
theorem th_app (p q : List (Bool × T3)) : th (p ++ q) = th p ++ th q := List.map_append ..
theorem v_le_sa {l : Int} : ∀ {es : List (Bool × T3)}, es.all (okE 1 l) = true → es.any (mE 1 l) = false → vS 1 es ≤ sa (th es)
  | [], _, _ => Int.le_refl 0
  | e :: es, h1, h2 => by
    rw [List.all_cons, Bool.and_eq_true] at h1
    rw [List.any_cons, Bool.or_eq_false_iff] at h2
    have ih := v_le_sa h1.2 h2.2
    rw [vS_cons]
    show vE 1 e + vS 1 es ≤ e.2.1 + sa (th es)
    have k : vE 1 e ≤ e.2.1 := by
      obtain ⟨m, t⟩ := e
      have a := h1.1
      have b := h2.1
      cases m with
      | true => simp [vE, hre]
      | false =>
        simp [okE, mE, hre, thr] at a b
        simp [vE, thr]
        omega
    omega
theorem v_le_sb {l : Int} : ∀ {es : List (Bool × T3)}, es.all (okE 1 l) = true → vS 1 es ≤ sb (th es)
  | [], _ => Int.le_refl 0
  | e :: es, h1 => by
    rw [List.all_cons, Bool.and_eq_true] at h1
    have ih := v_le_sb h1.2
    rw [vS_cons]
    show vE 1 e + vS 1 es ≤ e.2.2.2 + sb (th es)
    have k : vE 1 e ≤ e.2.2.2 := by
      obtain ⟨m, t⟩ := e
      have a := h1.1
      cases m with
      | true =>
        simp [okE, hre, thr] at a
        simp [vE, hre]
        exact a
      | false => simp [vE, thr]
    omega
/-- the first one that meets -/
theorem first_met {α : Type} (p : α → Bool) : ∀ {l : List α}, l.any p = true → ∃ a x b, l = a ++ x :: b ∧ a.any p = false ∧ p x = true
  | [], h => by simp at h
  | x :: l, h => by
    cases hx : p x with
    | true => exact ⟨[], x, l, rfl, rfl, hx⟩
    | false =>
      rw [List.any_cons, hx, Bool.false_or] at h
      obtain ⟨a, y, b, e, h1, h2⟩ := first_met p h
      exact ⟨x :: a, y, b, by rw [e]; rfl, by rw [List.any_cons, hx, h1]; rfl, h2⟩
theorem bar1_le {l : Int} {es : List (Bool × T3)} (hn : ∀ t ∈ th es, Nn t) (hok : es.all (okE 1 l) = true) (hm : l = 0 ∨ es.any (mE 1 l) = true) : l + vS 1 es ≤ ld (th es) := by
  cases hany : es.any (mE 1 l) with
  | true =>
    obtain ⟨a, x, b, e, h1, h2⟩ := first_met _ hany
    subst e
    rw [List.all_append, Bool.and_eq_true, List.all_cons, Bool.and_eq_true] at hok
    have k1 := v_le_sa hok.1 h1
    have k2 := v_le_sb hok.2.2
    have k3 := pth_le_ld (l := th (a ++ x :: b)) (p := th a) (t := x.2) (r := th b) (by rw [th_app]; rfl)
    rw [vS_app, vS_cons]
    obtain ⟨m, t⟩ := x
    have c := h2
    cases m with
    | true => simp [mE] at c
    | false =>
      simp [mE, hre] at c
      simp only [vE, thr, pth] at *
      simp
      omega
  | false =>
    have l0 : l = 0 := by
      rcases hm with h | h
      · exact h
      · rw [hany] at h; cases h
    subst l0
    have k1 := v_le_sa hok hany
    have k2 : sa (th es) ≤ ld (th es) := by
      rcases List.eq_nil_or_concat (th es) with e | ⟨p, t, e⟩
      · rw [e]; exact ld_nn []
      · have e' : th es = p ++ t :: [] := by rw [e]; simp
        have k3 := pth_le_ld e'
        have nt := hn t (by rw [e']; simp)
        have e2 : sa (th es) = sa p + t.1 := by
          rw [e', sa_app, sa, sa]; omega
        rw [e2]
        unfold pth at k3
        rw [sb] at k3
        have := nt.2.1
        have := nt.2.2
        omega
    omega
/-- the entries in an order -/
def entsO (ts : List T3) (ap : List Int) (os : List Nat) : List (Bool × T3) := os.map (ent ts ap)
theorem entsO_perm {ts : List T3} {ap : List Int} {os : List Nat} (h : os.Perm (List.range ts.length)) : (entsO ts ap os).Perm (ents ts ap) := h.map _
theorem th_ents (ts : List T3) (ap : List Int) (os : List Nat) : th (entsO ts ap os) = sq ts os := by
  unfold th entsO sq
  rw [List.map_map]
  rfl
theorem all_perm {α : Type} {p : α → Bool} {l m : List α} (h : l.Perm m) : l.all p = m.all p := by
  rw [Bool.eq_iff_iff, List.all_eq_true, List.all_eq_true]
  exact ⟨fun k x hx => k x (h.mem_iff.mpr hx), fun k x hx => k x (h.mem_iff.mp hx)⟩
theorem any_perm {α : Type} {p : α → Bool} {l m : List α} (h : l.Perm m) : l.any p = m.any p := by
  rw [Bool.eq_iff_iff, List.any_eq_true, List.any_eq_true]
  exact ⟨fun ⟨x, hx, k⟩ => ⟨x, h.mem_iff.mp hx, k⟩, fun ⟨x, hx, k⟩ => ⟨x, h.mem_iff.mpr hx, k⟩⟩
/-- bench 2: the things turned -/
theorem ent_tn (ts : List T3) (ap : List Int) (k : Nat) : ent (ts.map tn) ap k = ((ent ts ap k).1, tn (ent ts ap k).2) := by
  unfold ent
  refine Prod.ext rfl ?_
  show (ts.map tn).getD k (0, 0, 0) = tn (ts.getD k (0, 0, 0))
  rw [List.getD_eq_getElem?_getD, List.getD_eq_getElem?_getD, List.getElem?_map]
  cases ts[k]? <;> rfl
def tnE (e : Bool × T3) : Bool × T3 := (e.1, tn e.2)
theorem ents_tn (ts : List T3) (ap : List Int) : ents (ts.map tn) ap = (ents ts ap).map tnE := by
  unfold ents
  rw [List.length_map, List.map_map]
  exact List.map_congr_left fun k _ => ent_tn ts ap k
theorem wv_two (ts : List T3) (ap : List Int) (l : Int) : wv ts 2 ap l = wv (ts.map tn) 1 ap l := by
  have e1 : ∀ e, okE 1 l (tnE e) = okE 2 l e := fun e => by
    obtain ⟨m, t⟩ := e
    simp [okE, tnE, hre, thr, tn]
  have e2 : ∀ e, mE 1 l (tnE e) = mE 2 l e := fun e => by
    obtain ⟨m, t⟩ := e
    simp [mE, tnE, hre, tn]
  have e3 : ∀ e, vE 1 (tnE e) = vE 2 e := fun e => by
    obtain ⟨m, t⟩ := e
    simp [vE, tnE, hre, thr, tn]
  unfold wv
  rw [ents_tn, List.length_map, List.all_map, List.any_map]
  have f1 : okE 1 l ∘ tnE = okE 2 l := funext e1
  have f2 : mE 1 l ∘ tnE = mE 2 l := funext e2
  have f3 : vS 1 ((ents ts ap).map tnE) = vS 2 (ents ts ap) := by
    unfold vS
    rw [List.map_map]
    exact congrArg List.sum (List.map_congr_left fun e _ => e3 e)
  rw [f1, f2, f3]
  simp
theorem bar_le1 {ts : List T3} {ap : List Int} {l w : Int} {os : List Nat} (hn : ∀ t ∈ ts, Nn t) (hp : os.Perm (List.range ts.length)) (h : wv ts 1 ap l = some w) : w ≤ dn (sq ts os) := by
  obtain ⟨_, _, _, h4, h5, rfl⟩ := wv_some h
  have P := entsO_perm (ap := ap) hp
  have nn := sq_nn hn (perm_lt hp)
  rw [dn_ld nn, ← vS_perm 1 P, ← th_ents ts ap os]
  refine bar1_le ?_ ?_ ?_
  · rw [th_ents]; exact nn
  · rw [all_perm P]; exact h4
  · rw [any_perm P]; exact h5
/-- NO ORDER IS DONE SOONER THAN A BAR'S WORTH -/
theorem bar_le {ts : List T3} {ap : List Int} {b l w : Int} {os : List Nat} (hn : ∀ t ∈ ts, Nn t) (hp : os.Perm (List.range ts.length)) (h : wv ts b ap l = some w) : w ≤ dn (sq ts os) := by
  rcases (wv_some h).1 with e | e
  · subst e
    exact bar_le1 hn hp h
  · subst e
    rw [wv_two] at h
    have k := bar_le1 (os := os.reverse) (fun t ht => by
      obtain ⟨u, hu, rfl⟩ := List.mem_map.mp ht
      exact tn_nn (hn u hu)) (by rw [List.length_map]; exact (List.reverse_perm os).trans hp) h
    rw [dn_turned hn (perm_lt hp)] at k
    exact k
theorem vE_nn {b : Int} {e : Bool × T3} (h : Nn e.2) : 0 ≤ vE b e := by
  obtain ⟨m, t⟩ := e
  have h1 := h.1
  have h3 := h.2.2
  unfold vE hre thr
  split <;> split <;> assumption
theorem wv_nn {ts : List T3} {ap : List Int} {b l w : Int} (hn : ∀ t ∈ ts, Nn t) (h : wv ts b ap l = some w) : 0 ≤ w := by
  obtain ⟨_, _, h3, _, _, rfl⟩ := wv_some h
  have k : ∀ es : List (Bool × T3), (∀ e ∈ es, Nn e.2) → 0 ≤ vS b es := by
    intro es
    induction es with
    | nil => intro _; exact Int.le_refl 0
    | cons e es ih =>
      intro h
      rw [vS_cons]
      have := vE_nn (b := b) (h e List.mem_cons_self)
      have := ih fun x hx => h x (List.mem_cons_of_mem e hx)
      omega
  have := k (ents ts ap) fun e he => by
    obtain ⟨j, hj, rfl⟩ := List.mem_map.mp he
    exact hn _ (List.mem_of_getElem? (getD_at (List.mem_range.mp hj)))
  omega
/-! ### the order that is done soonest, and its bar -/
/-- first those that are no longer on bench 1, by that and drying; then the others, the longest on bench 2 first -/
def Best (ts : List T3) (os : List Nat) : Prop := os.Perm (List.range ts.length) ∧ ∃ qs ss : List Nat, os = qs ++ ss ∧
  (∀ k ∈ qs, (ts.getD k (0, 0, 0)).1 ≤ (ts.getD k (0, 0, 0)).2.2) ∧ (∀ k ∈ ss, (ts.getD k (0, 0, 0)).2.2 < (ts.getD k (0, 0, 0)).1) ∧
  qs.Pairwise (fun i j => (ts.getD i (0, 0, 0)).1 + (ts.getD i (0, 0, 0)).2.1 ≤ (ts.getD j (0, 0, 0)).1 + (ts.getD j (0, 0, 0)).2.1) ∧
  ss.Pairwise (fun i j => (ts.getD j (0, 0, 0)).2.2 + (ts.getD j (0, 0, 0)).2.1 ≤ (ts.getD i (0, 0, 0)).2.2 + (ts.getD i (0, 0, 0)).2.1)
theorem ris_of {n : Nat} : ∀ {ap : List Int} {last : Int}, ap.Pairwise (· < ·) → (∀ x ∈ ap, last < x ∧ x < n) → ris n last ap = true
  | [], _, _, _ => rfl
  | x :: r, last, hp, h => by
    have h1 := h x List.mem_cons_self
    rw [List.pairwise_cons] at hp
    rw [ris, decide_eq_true h1.1, decide_eq_true h1.2, Bool.true_and, Bool.true_and]
    exact ris_of hp.2 fun y hy => ⟨hp.1 y hy, (h y (List.mem_cons_of_mem x hy)).2⟩
theorem ris_to {n : Nat} : ∀ {ap : List Int} {last : Int}, ris n last ap = true → ap.Pairwise (· < ·) ∧ ∀ x ∈ ap, last < x ∧ x < n
  | [], _, _ => ⟨.nil, fun x h => by cases h⟩
  | x :: r, last, h => by
    rw [ris, Bool.and_eq_true, Bool.and_eq_true, decide_eq_true_eq, decide_eq_true_eq] at h
    obtain ⟨⟨h1, h2⟩, h3⟩ := h
    obtain ⟨k1, k2⟩ := ris_to h3
    refine ⟨List.pairwise_cons.mpr ⟨fun y hy => (k2 y hy).1, k1⟩, fun y hy => ?_⟩
    rcases List.mem_cons.mp hy with rfl | hy
    · exact ⟨h1, h2⟩
    · have := k2 y hy
      exact ⟨by omega, this.2⟩
/-- sorted counts of a part of an order -/
theorem ris_sorted {n : Nat} {ap : List Int} {ks : List Nat} (hp : ap.Perm (zs ks)) (hs : ap.Pairwise (· ≤ ·)) (hd : ks.Nodup) (hl : ∀ k ∈ ks, k < n) : ris n (-1) ap = true := by
  have nd : (zs ks).Nodup := by
    unfold zs
    unfold List.Nodup
    rw [List.pairwise_map]
    exact hd.imp fun h e => h (by omega)
  have nd2 : ap.Nodup := hp.nodup_iff.mpr nd
  refine ris_of ?_ fun x hx => ?_
  · have := List.Pairwise.and hs nd2
    exact this.imp fun h => by omega
  · obtain ⟨k, hk, rfl⟩ := List.mem_map.mp (hp.mem_iff.mp hx)
    have := hl k hk
    exact ⟨by omega, by omega⟩
theorem mem_zs {ks : List Nat} {k : Nat} : (k : Int) ∈ zs ks ↔ k ∈ ks := by
  unfold zs
  rw [List.mem_map]
  exact ⟨fun ⟨j, hj, e⟩ => by have : j = k := by omega
                              exact this ▸ hj, fun h => ⟨k, h, rfl⟩⟩
theorem sa_map (ts : List T3) : ∀ ks : List Nat, sa (sq ts ks) = (ks.map fun k => (ts.getD k (0, 0, 0)).1).sum
  | [] => rfl
  | k :: ks => by rw [List.map_cons, List.sum_cons, ← sa_map ts ks]; rfl
theorem sb_map (ts : List T3) : ∀ ks : List Nat, sb (sq ts ks) = (ks.map fun k => (ts.getD k (0, 0, 0)).2.2).sum
  | [] => rfl
  | k :: ks => by rw [List.map_cons, List.sum_cons, ← sb_map ts ks]; rfl
theorem vS_in {ts : List T3} {ap : List Int} {b : Int} : ∀ {ks : List Nat}, (∀ k ∈ ks, (k : Int) ∈ ap) → vS b (entsO ts ap ks) = (ks.map fun k => hre b (ts.getD k (0, 0, 0))).sum
  | [], _ => rfl
  | k :: ks, h => by
    have ih := vS_in (ts := ts) (b := b) fun j hj => h j (List.mem_cons_of_mem k hj)
    show vS b (ent ts ap k :: entsO ts ap ks) = _
    rw [vS_cons, List.map_cons, List.sum_cons, ih]
    have e : vE b (ent ts ap k) = hre b (ts.getD k (0, 0, 0)) := by
      unfold vE ent
      rw [decide_eq_true (h k List.mem_cons_self)]
      simp
    rw [e]
theorem vS_out {ts : List T3} {ap : List Int} {b : Int} : ∀ {ks : List Nat}, (∀ k ∈ ks, ¬ (k : Int) ∈ ap) → vS b (entsO ts ap ks) = (ks.map fun k => thr b (ts.getD k (0, 0, 0))).sum
  | [], _ => rfl
  | k :: ks, h => by
    have ih := vS_out (ts := ts) (b := b) fun j hj => h j (List.mem_cons_of_mem k hj)
    show vS b (ent ts ap k :: entsO ts ap ks) = _
    rw [vS_cons, List.map_cons, List.sum_cons, ih]
    have e : vE b (ent ts ap k) = thr b (ts.getD k (0, 0, 0)) := by
      unfold vE ent
      rw [decide_eq_false (h k List.mem_cons_self)]
      simp
    rw [e]
/-- a list without doubles parts at a thing in one way -/
theorem split_uniq {α : Type} {k : α} : ∀ {p q r s : List α}, (p ++ k :: r).Nodup → p ++ k :: r = q ++ k :: s → p = q ∧ r = s
  | [], [], _, _, _, e => ⟨rfl, (List.cons.inj e).2⟩
  | [], y :: q, r, s, h, e => by
    rw [List.nil_append, List.cons_append] at e
    obtain ⟨e1, e2⟩ := List.cons.inj e
    rw [List.nil_append, List.nodup_cons] at h
    exact absurd (show k ∈ r by rw [e2]; simp) h.1
  | x :: p, [], r, s, h, e => by
    rw [List.nil_append, List.cons_append] at e
    obtain ⟨e1, e2⟩ := List.cons.inj e
    rw [List.cons_append, List.nodup_cons] at h
    exact absurd (show x ∈ p ++ k :: r by rw [e1]; simp) h.1
  | x :: p, y :: q, r, s, h, e => by
    rw [List.cons_append, List.cons_append] at e
    obtain ⟨e1, e2⟩ := List.cons.inj e
    rw [List.cons_append, List.nodup_cons] at h
    obtain ⟨k1, k2⟩ := split_uniq h.2 e2
    exact ⟨by rw [e1, k1], k2⟩
/-- THE BAR AT A THING OF SUCH AN ORDER is worth the way that changes benches there -/
theorem best_bar1 {ts : List T3} {p r qs ss : List Nat} {k : Nat} {ap : List Int} (hn : ∀ t ∈ ts, Nn t) (hP : (p ++ k :: r).Perm (List.range ts.length)) (e : p ++ k :: r = qs ++ ss)
    (hq : ∀ k ∈ qs, (ts.getD k (0, 0, 0)).1 ≤ (ts.getD k (0, 0, 0)).2.2) (hS : ∀ k ∈ ss, (ts.getD k (0, 0, 0)).2.2 ≤ (ts.getD k (0, 0, 0)).1)
    (hw : qs.Pairwise (fun i j => (ts.getD i (0, 0, 0)).1 + (ts.getD i (0, 0, 0)).2.1 ≤ (ts.getD j (0, 0, 0)).1 + (ts.getD j (0, 0, 0)).2.1)) (kq : k ∈ qs)
    (hp : ap.Perm (zs p)) (hs : ap.Pairwise (· ≤ ·)) : wv ts 1 ap ((ts.getD k (0, 0, 0)).1 + (ts.getD k (0, 0, 0)).2.1) = some (pth (sq ts p) (ts.getD k (0, 0, 0)) (sq ts r)) := by
  have ndall := perm_nd hP
  have lt := perm_lt hP
  have mem : ∀ j : Nat, (j : Int) ∈ ap ↔ j ∈ p := fun j => (hp.mem_iff).trans mem_zs
  obtain ⟨nd1, nd2, nd3⟩ := List.nodup_append.mp ndall
  have out : ∀ j ∈ k :: r, ¬ (j : Int) ∈ ap := fun j hj h => nd3 j ((mem j).mp h) j hj rfl
  -- what is ahead of k stands among the first ones
  obtain ⟨q1, q2, eq⟩ := List.append_of_mem kq
  have e2 : p ++ k :: r = q1 ++ k :: (q2 ++ ss) := by rw [e, eq]; simp
  obtain ⟨hp1, hr1⟩ := split_uniq ndall e2
  subst hp1
  have hlen : 0 ≤ (ts.getD k (0, 0, 0)).1 + (ts.getD k (0, 0, 0)).2.1 := by
    have := hn _ (List.mem_of_getElem? (getD_at (lt k (by simp))))
    have := this.1
    have := (hn _ (List.mem_of_getElem? (getD_at (lt k (by simp))))).2.1
    omega
  have P := entsO_perm (ap := ap) hP
  have kmem : k ∈ p ++ k :: r := by simp
  rw [wv_of (.inl rfl) (ris_sorted hp hs nd1 fun j hj => lt j (by simp [hj])) hlen]
  · -- the worth
    congr 1
    rw [← vS_perm 1 P]
    have e3 : entsO ts ap (p ++ k :: r) = entsO ts ap p ++ entsO ts ap (k :: r) := List.map_append ..
    rw [e3, vS_app, vS_in fun j hj => (mem j).mpr hj, vS_out out]
    unfold pth
    rw [sa_map, sb_map, List.map_cons, List.sum_cons]
    simp only [hre, thr, if_true]
    omega
  · -- each thing is as a bar asks
    rw [← all_perm P, List.all_eq_true]
    intro x hx
    obtain ⟨j, hj, rfl⟩ := List.mem_map.mp hx
    by_cases hjp : j ∈ p
    · have hj2 := hq j (by rw [eq]; exact List.mem_append_left _ hjp)
      unfold okE ent
      rw [decide_eq_true ((mem j).mpr hjp)]
      simpa [hre, thr] using hj2
    · have hj3 : j ∈ k :: r := by
        rcases List.mem_append.mp hj with h | h
        · exact absurd h hjp
        · exact h
      unfold okE ent
      rw [decide_eq_false (out j hj3)]
      simp only [Bool.false_eq_true, if_false, hre, thr, if_true, Bool.or_eq_true, decide_eq_true_eq]
      rcases List.mem_cons.mp hj3 with rfl | hr
      · exact .inl (Int.le_refl _)
      · rw [hr1] at hr
        rcases List.mem_append.mp hr with h | h
        · left
          rw [eq] at hw
          exact (List.pairwise_cons.mp (List.pairwise_append.mp hw).2.1).1 j h
        · right
          exact hS j h
  · right
    rw [← any_perm P, List.any_eq_true]
    refine ⟨ent ts ap k, List.mem_map.mpr ⟨k, kmem, rfl⟩, ?_⟩
    unfold mE ent
    rw [decide_eq_false (out k List.mem_cons_self)]
    simp [hre]
theorem getD_tn (ts : List T3) (k : Nat) : (ts.map tn).getD k (0, 0, 0) = tn (ts.getD k (0, 0, 0)) := by
  rw [List.getD_eq_getElem?_getD, List.getD_eq_getElem?_getD, List.getElem?_map]
  cases ts[k]? <;> rfl
/-- .. for bench 2, the things turned and the order turned about -/
theorem best_bar2 {ts : List T3} {p r qs ss : List Nat} {k : Nat} {ap : List Int} (hn : ∀ t ∈ ts, Nn t) (hP : (p ++ k :: r).Perm (List.range ts.length)) (e : p ++ k :: r = qs ++ ss)
    (hq : ∀ k ∈ qs, (ts.getD k (0, 0, 0)).1 ≤ (ts.getD k (0, 0, 0)).2.2) (hS : ∀ k ∈ ss, (ts.getD k (0, 0, 0)).2.2 ≤ (ts.getD k (0, 0, 0)).1)
    (hw : ss.Pairwise (fun i j => (ts.getD j (0, 0, 0)).2.2 + (ts.getD j (0, 0, 0)).2.1 ≤ (ts.getD i (0, 0, 0)).2.2 + (ts.getD i (0, 0, 0)).2.1)) (ks : k ∈ ss)
    (hp : ap.Perm (zs r)) (hs : ap.Pairwise (· ≤ ·)) : wv ts 2 ap ((ts.getD k (0, 0, 0)).2.2 + (ts.getD k (0, 0, 0)).2.1) = some (pth (sq ts p) (ts.getD k (0, 0, 0)) (sq ts r)) := by
  have e2 : (p ++ k :: r).reverse = r.reverse ++ k :: p.reverse := by simp
  have z := best_bar1 (ts := ts.map tn) (p := r.reverse) (k := k) (r := p.reverse) (qs := ss.reverse) (ss := qs.reverse) (ap := ap) (fun t ht => by
      obtain ⟨u, hu, rfl⟩ := List.mem_map.mp ht
      exact tn_nn (hn u hu))
    (by rw [← e2, List.length_map]; exact (List.reverse_perm _).trans hP) (by rw [← e2, e]; simp)
    (fun j hj => by rw [getD_tn]; exact hS j (List.mem_reverse.mp hj)) (fun j hj => by rw [getD_tn]; exact hq j (List.mem_reverse.mp hj))
    (by
      rw [List.pairwise_reverse]
      refine hw.imp fun {a b} h => ?_
      rw [getD_tn, getD_tn]
      exact h) (List.mem_reverse.mpr ks) (hp.trans ((List.reverse_perm r).symm.map _)) hs
  rw [getD_tn] at z
  rw [wv_two]
  refine z.trans (congrArg some ?_)
  rw [sq_tn, sq_tn]
  have z2 := pth_rev (sq ts p) (ts.getD k (0, 0, 0)) (sq ts r)
  unfold sq at z2 ⊢
  rw [List.map_reverse, List.map_reverse, List.map_reverse, List.map_reverse]
  exact z2
end Bp
/-! Benchpair: a bar's worth by going along; the order by sorted pairs; the bar of such an order; shown or not. -/
namespace Bp
/-! ### marks -/
def mks (n : Nat) (ap : List Int) : List Bool := (List.range n).map fun k : Nat => decide ((k : Int) ∈ ap)
theorem mks_len (n : Nat) (ap : List Int) : (mks n ap).length = n := by unfold mks; rw [List.length_map, List.length_range]
theorem mks_nil (n : Nat) : mks n [] = List.replicate n false := by
  unfold mks
  rw [show (fun k : Nat => decide ((k : Int) ∈ ([] : List Int))) = fun _ => false from funext fun k => decide_eq_false (by simp)]
  refine List.eq_replicate_iff.mpr ⟨by simp, fun b hb => ?_⟩
  obtain ⟨_, _, rfl⟩ := List.mem_map.mp hb
  rfl
theorem mks_get {n k : Nat} (h : k < n) (ap : List Int) : (mks n ap)[k]? = some (decide ((k : Int) ∈ ap)) := by
  unfold mks
  rw [List.getElem?_map, List.getElem?_range h]; rfl
theorem mks_set {n j : Nat} (h : j < n) (ap : List Int) : (mks n ap).set j true = mks n (ap ++ [(j : Int)]) := by
  refine List.ext_getElem? fun k => ?_
  rw [List.getElem?_set, mks_len]
  by_cases hk : k < n
  · rw [mks_get hk, mks_get hk]
    by_cases e : j = k
    · subst e
      rw [if_pos rfl, if_pos h]
      refine congrArg some (decide_eq_true ?_).symm
      simp
    · rw [if_neg e]
      refine congrArg some ?_
      rw [decide_eq_decide, List.mem_append]
      refine ⟨.inl, fun h => h.elim id fun h => ?_⟩
      have := List.mem_singleton.mp h
      omega
  · have e1 : (mks n ap)[k]? = none := List.getElem?_eq_none (by rw [mks_len]; omega)
    have e2 : (mks n (ap ++ [(j : Int)]))[k]? = none := List.getElem?_eq_none (by rw [mks_len]; omega)
    rw [e1, e2, if_neg (by omega)]
/-! ### entries -/
theorem ents_len (ts : List T3) (ap : List Int) : (ents ts ap).length = ts.length := by unfold ents; rw [List.length_map, List.length_range]
theorem ents_get {ts : List T3} {k : Nat} (h : k < ts.length) (ap : List Int) : (ents ts ap)[k]? = some (ent ts ap k) := by
  unfold ents
  rw [List.getElem?_map, List.getElem?_range h]; rfl
theorem ents_take {ts : List T3} {k : Nat} (h : k < ts.length) (ap : List Int) : (ents ts ap).take (k + 1) = (ents ts ap).take k ++ [ent ts ap k] := by
  rw [List.take_add_one, ents_get h]; rfl
theorem wv_not {ts : List T3} {b l : Int} {ap : List Int} (h : ¬ ((b = 1 ∨ b = 2) ∧ ris ts.length (-1) ap = true ∧ 0 ≤ l)) : wv ts b ap l = none := by
  unfold wv
  rw [if_neg h]
theorem wv_bad {ts : List T3} {b l : Int} {ap : List Int} {k : Nat} (hk : k < ts.length) (h : okE b l (ent ts ap k) = false) : wv ts b ap l = none := by
  unfold wv
  split
  · rw [if_neg]
    rintro ⟨h1, _⟩
    have := List.all_eq_true.mp h1 _ (List.mem_of_getElem? (ents_get hk ap))
    rw [h] at this
    cases this
  · rfl
/-- what the loops hold, i things along -/
def Along (ts : List T3) (b : Int) (ap : List Int) (l : Int) (i : Nat) : Prop := ((ents ts ap).take i).all (okE b l) = true
def metB (ts : List T3) (b : Int) (ap : List Int) (l : Int) (i : Nat) : Bool := decide (l = 0) || ((ents ts ap).take i).any (mE b l)
def wrt (ts : List T3) (b : Int) (ap : List Int) (l : Int) (i : Nat) : Int := l + vS b ((ents ts ap).take i)
theorem along_0 (ts : List T3) (b : Int) (ap : List Int) (l : Int) : Along ts b ap l 0 := rfl
theorem met_0 (ts : List T3) (b : Int) (ap : List Int) (l : Int) : metB ts b ap l 0 = decide (l = 0) := by unfold metB; simp
theorem wrt_0 (ts : List T3) (b : Int) (ap : List Int) (l : Int) : wrt ts b ap l 0 = l := by unfold wrt vS; simp
theorem along_s {ts : List T3} {b l : Int} {ap : List Int} {i : Nat} (hi : i < ts.length) (h : Along ts b ap l i) (o : okE b l (ent ts ap i) = true) : Along ts b ap l (i + 1) := by
  unfold Along at h ⊢
  rw [ents_take hi, List.all_append, h, List.all_cons, o]; rfl
theorem met_s {ts : List T3} {b l : Int} {ap : List Int} {i : Nat} (hi : i < ts.length) : metB ts b ap l (i + 1) = (metB ts b ap l i || mE b l (ent ts ap i)) := by
  unfold metB
  rw [ents_take hi, List.any_append, List.any_cons, List.any_nil, Bool.or_false, Bool.or_assoc]
theorem wrt_s {ts : List T3} {b l : Int} {ap : List Int} {i : Nat} (hi : i < ts.length) : wrt ts b ap l (i + 1) = wrt ts b ap l i + vE b (ent ts ap i) := by
  unfold wrt
  rw [ents_take hi, vS_app, vS_cons]
  unfold vS
  simp
  omega
theorem wv_end {ts : List T3} {b l : Int} {ap : List Int} (h1 : b = 1 ∨ b = 2) (h2 : ris ts.length (-1) ap = true) (h3 : 0 ≤ l) (h : Along ts b ap l ts.length) :
    wv ts b ap l = if metB ts b ap l ts.length = true then some (wrt ts b ap l ts.length) else none := by
  have e : (ents ts ap).take ts.length = ents ts ap := List.take_of_length_le (by rw [ents_len]; exact Nat.le_refl _)
  unfold Along at h
  unfold wv metB wrt
  rw [e] at h ⊢
  rw [if_pos ⟨h1, h2, h3⟩]
  by_cases c : l = 0 ∨ (ents ts ap).any (mE b l) = true
  · rw [if_pos ⟨h, c⟩, if_pos]
    rw [Bool.or_eq_true, decide_eq_true_eq]
    exact c
  · rw [if_neg fun q => c q.2, if_neg]
    rw [Bool.or_eq_true, decide_eq_true_eq]
    exact c
/-- an entry, marked or not -/
theorem ent_in {ts : List T3} {ap : List Int} {k : Nat} (h : (k : Int) ∈ ap) : ent ts ap k = (true, ts.getD k (0, 0, 0)) := by unfold ent; rw [decide_eq_true h]
theorem ent_out {ts : List T3} {ap : List Int} {k : Nat} (h : ¬ (k : Int) ∈ ap) : ent ts ap k = (false, ts.getD k (0, 0, 0)) := by unfold ent; rw [decide_eq_false h]
theorem hre1 (t : T3) : hre 1 t = t.1 := rfl
theorem thr1 (t : T3) : thr 1 t = t.2.2 := rfl
theorem hre2 {b : Int} (h : b ≠ 1) (t : T3) : hre b t = t.2.2 := if_neg h
theorem thr2 {b : Int} (h : b ≠ 1) (t : T3) : thr b t = t.1 := if_neg h
theorem okE_in {b l : Int} {t : T3} : okE b l (true, t) = decide (hre b t ≤ thr b t) := rfl
theorem okE_out {b l : Int} {t : T3} : okE b l (false, t) = (decide (l ≤ hre b t + t.2.1) || decide (thr b t ≤ hre b t)) := rfl
theorem vE_in {b : Int} {t : T3} : vE b (true, t) = hre b t := rfl
theorem vE_out {b : Int} {t : T3} : vE b (false, t) = thr b t := rfl
theorem mE_in {b l : Int} {t : T3} : mE b l (true, t) = false := rfl
theorem mE_out {b l : Int} {t : T3} : mE b l (false, t) = decide (l ≤ hre b t + t.2.1) := by simp [mE]
/-! ### shown or not -/
def nat_ (ns : List Int) : List Nat := ns.map Int.toNat
theorem nat_zs (os : List Nat) : nat_ (zs os) = os := by
  unfold nat_ zs
  rw [List.map_map]
  exact (List.map_congr_left fun k _ => rfl).trans (List.map_id os)
/-- what Soonest.shows answers -/
def shw (ts : List T3) (ns : List Int) (b : Int) (ap : List Int) (l : Int) : Bool := decide (ns.Perm (rg ts.length)) && decide (wv ts b ap l = some (dn (sq ts (nat_ ns))))
theorem shw_no {ts : List T3} {ns : List Int} {b l : Int} {ap : List Int} (h : ¬ ns.Perm (rg ts.length)) : shw ts ns b ap l = false := by unfold shw; rw [decide_eq_false h]; rfl
theorem shw_os {ts : List T3} {os : List Nat} {b l : Int} {ap : List Int} (h : os.Perm (List.range ts.length)) : shw ts (zs os) b ap l = decide (wv ts b ap l = some (dn (sq ts os))) := by
  unfold shw
  rw [decide_eq_true (zs_perm h), Bool.true_and, nat_zs]
theorem shw_law {ts : List T3} {os : List Nat} {b l : Int} {ap : List Int} (hn : ∀ t ∈ ts, Nn t) (h : os.Perm (List.range ts.length)) : decide ((wv ts b ap l).getD (-1) = ld (sq ts os)) = shw ts (zs os) b ap l := by
  rw [shw_os h, ← dn_ld (sq_nn hn (perm_lt h))]
  have p := ld_nn (sq ts os)
  rw [← dn_ld (sq_nn hn (perm_lt h))] at p
  cases e : wv ts b ap l with
  | none =>
    rw [Option.getD_none]
    refine (decide_eq_false (by omega)).trans (decide_eq_false (by simp)).symm
  | some w => simp
/-! ### the order -/
def key1 (t : T3) : Int := t.1 + t.2.1
def key2 (t : T3) : Int := -t.2.2 - t.2.1
def isQ (ts : List T3) (k : Nat) : Bool := decide ((ts.getD k (0, 0, 0)).1 ≤ (ts.getD k (0, 0, 0)).2.2)
def qL (ts : List T3) (i : Nat) : List (Int × Int) := ((List.range i).filter (isQ ts)).map fun k : Nat => (key1 (ts.getD k (0, 0, 0)), (k : Int))
def sL (ts : List T3) (i : Nat) : List (Int × Int) := ((List.range i).filter fun k => !isQ ts k).map fun k : Nat => (key2 (ts.getD k (0, 0, 0)), (k : Int))
theorem qL_y {ts : List T3} {i : Nat} (h : isQ ts i = true) : qL ts (i + 1) = qL ts i ++ [(key1 (ts.getD i (0, 0, 0)), (i : Int))] ∧ sL ts (i + 1) = sL ts i := by
  unfold qL sL
  rw [List.range_succ, List.filter_append, List.filter_append, List.map_append, List.map_append, List.filter_cons_of_pos h, List.filter_cons_of_neg (by rw [h]; decide)]
  exact ⟨rfl, by simp⟩
theorem qL_n {ts : List T3} {i : Nat} (h : isQ ts i = false) : qL ts (i + 1) = qL ts i ∧ sL ts (i + 1) = sL ts i ++ [(key2 (ts.getD i (0, 0, 0)), (i : Int))] := by
  unfold qL sL
  rw [List.range_succ, List.filter_append, List.filter_append, List.map_append, List.map_append, List.filter_cons_of_neg (by rw [h]; decide), List.filter_cons_of_pos (by rw [h]; rfl)]
  exact ⟨by simp, rfl⟩
theorem qL_len (ts : List T3) (i : Nat) : (qL ts i).length ≤ i ∧ (sL ts i).length ≤ i := by
  unfold qL sL
  rw [List.length_map, List.length_map]
  have h1 := List.length_filter_le (isQ ts) (List.range i)
  have h2 := List.length_filter_le (fun k => !isQ ts k) (List.range i)
  rw [List.length_range] at h1 h2
  exact ⟨h1, h2⟩
theorem filter_perm {α : Type} (p : α → Bool) : ∀ l : List α, (l.filter p ++ l.filter fun x => !p x).Perm l
  | [] => .refl _
  | x :: l => by
    have ih := filter_perm p l
    cases h : p x with
    | true =>
      rw [List.filter_cons_of_pos h, List.filter_cons_of_neg (by rw [h]; decide)]
      exact ih.cons x
    | false =>
      rw [List.filter_cons_of_neg (by rw [h]; decide), List.filter_cons_of_pos (by rw [h]; rfl)]
      exact (List.perm_middle).trans (ih.cons x)
theorem best_of {ts : List T3} {Q S : List (Int × Int)} (hQ : Q.Perm (qL ts ts.length)) (hS : S.Perm (sL ts ts.length)) (oQ : Q.Pairwise fun x y => x.1 ≤ y.1) (oS : S.Pairwise fun x y => x.1 ≤ y.1) :
    ∃ os : List Nat, (Q ++ S).map (·.2) = zs os ∧ Best ts os := by
  have fQ : ∀ x ∈ Q, ∃ k : Nat, k < ts.length ∧ isQ ts k = true ∧ x = (key1 (ts.getD k (0, 0, 0)), (k : Int)) := fun x hx => by
    obtain ⟨k, hk, rfl⟩ := List.mem_map.mp (hQ.mem_iff.mp hx)
    obtain ⟨h1, h2⟩ := List.mem_filter.mp hk
    exact ⟨k, List.mem_range.mp h1, h2, rfl⟩
  have fS : ∀ x ∈ S, ∃ k : Nat, k < ts.length ∧ isQ ts k = false ∧ x = (key2 (ts.getD k (0, 0, 0)), (k : Int)) := fun x hx => by
    obtain ⟨k, hk, rfl⟩ := List.mem_map.mp (hS.mem_iff.mp hx)
    obtain ⟨h1, h2⟩ := List.mem_filter.mp hk
    exact ⟨k, List.mem_range.mp h1, by simpa using h2, rfl⟩
  have toN : ∀ L : List (Int × Int), (∀ x ∈ L, ∃ k : Nat, x.2 = (k : Int)) → L.map (·.2) = zs (L.map fun x => x.2.toNat) := fun L h => by
    unfold zs
    rw [List.map_map]
    refine List.map_congr_left fun x hx => ?_
    obtain ⟨k, hk⟩ := h x hx
    show x.2 = ((x.2.toNat : Nat) : Int)
    omega
  refine ⟨(Q ++ S).map fun x => x.2.toNat, toN _ fun x hx => ?_, ?_, Q.map (fun x => x.2.toNat), S.map (fun x => x.2.toNat), List.map_append .., ?_, ?_, ?_, ?_⟩
  · rcases List.mem_append.mp hx with h | h
    · obtain ⟨k, _, _, rfl⟩ := fQ x h
      exact ⟨k, rfl⟩
    · obtain ⟨k, _, _, rfl⟩ := fS x h
      exact ⟨k, rfl⟩
  · have h1 := (hQ.append hS).map fun x : Int × Int => x.2.toNat
    refine h1.trans ?_
    rw [List.map_append]
    unfold qL sL
    rw [List.map_map, List.map_map]
    have e1 : ∀ l : List Nat, l.map ((fun x : Int × Int => x.2.toNat) ∘ fun k : Nat => (key1 (ts.getD k (0, 0, 0)), (k : Int))) = l := fun l => (List.map_congr_left fun k _ => rfl).trans (List.map_id l)
    have e2 : ∀ l : List Nat, l.map ((fun x : Int × Int => x.2.toNat) ∘ fun k : Nat => (key2 (ts.getD k (0, 0, 0)), (k : Int))) = l := fun l => (List.map_congr_left fun k _ => rfl).trans (List.map_id l)
    rw [e1, e2]
    exact filter_perm _ _
  · intro k hk
    obtain ⟨x, hx, rfl⟩ := List.mem_map.mp hk
    obtain ⟨k, _, h, rfl⟩ := fQ x hx
    exact of_decide_eq_true h
  · intro k hk
    obtain ⟨x, hx, rfl⟩ := List.mem_map.mp hk
    obtain ⟨k, _, h, rfl⟩ := fS x hx
    have := of_decide_eq_false h
    show (ts.getD k (0, 0, 0)).2.2 < (ts.getD k (0, 0, 0)).1
    omega
  · rw [List.pairwise_map]
    refine oQ.imp_of_mem fun {x y} hx hy h => ?_
    obtain ⟨k, _, _, rfl⟩ := fQ x hx
    obtain ⟨j, _, _, rfl⟩ := fQ y hy
    exact h
  · rw [List.pairwise_map]
    refine oS.imp_of_mem fun {x y} hx hy h => ?_
    obtain ⟨k, _, _, rfl⟩ := fS x hx
    obtain ⟨j, _, _, rfl⟩ := fS y hy
    have h2 : key2 (ts.getD k (0, 0, 0)) ≤ key2 (ts.getD j (0, 0, 0)) := h
    unfold key2 at h2
    show (ts.getD j (0, 0, 0)).2.2 + (ts.getD j (0, 0, 0)).2.1 ≤ (ts.getD k (0, 0, 0)).2.2 + (ts.getD k (0, 0, 0)).2.1
    omega
/-! ### the bar -/
/-- the way that changes benches at place j -/
def wayAt (ts : List T3) (os : List Nat) (j : Nat) : Int := pth (sq ts (os.take j)) (ts.getD (os.getD j 0) (0, 0, 0)) (sq ts (os.drop (j + 1)))
/-- the longest so far, and its place -/
def Top (ts : List T3) (os : List Nat) (i : Nat) (m : Int) (k : Nat) : Prop := (∀ j, j < i → wayAt ts os j ≤ m) ∧ ((m = 0 ∧ k = 0) ∨ (k < i ∧ m = wayAt ts os k))
theorem top_0 (ts : List T3) (os : List Nat) : Top ts os 0 0 0 := ⟨fun j h => absurd h (by omega), .inl ⟨rfl, rfl⟩⟩
theorem top_y {ts : List T3} {os : List Nat} {i k : Nat} {m : Int} (h : Top ts os i m k) (g : m < wayAt ts os i) : Top ts os (i + 1) (wayAt ts os i) i := ⟨fun j hj => by
  rcases Nat.lt_succ_iff_lt_or_eq.mp hj with h1 | h1
  · have := h.1 j h1; omega
  · rw [h1]; exact Int.le_refl _, .inr ⟨Nat.lt_succ_self i, rfl⟩⟩
theorem top_n {ts : List T3} {os : List Nat} {i k : Nat} {m : Int} (h : Top ts os i m k) (g : ¬ m < wayAt ts os i) : Top ts os (i + 1) m k := ⟨fun j hj => by
  rcases Nat.lt_succ_iff_lt_or_eq.mp hj with h1 | h1
  · exact h.1 j h1
  · rw [h1]; omega, h.2.imp id fun h => ⟨Nat.lt_succ_of_lt h.1, h.2⟩⟩
theorem split_at {os : List Nat} {j k : Nat} (h : os[j]? = some k) : os = os.take j ++ k :: os.drop (j + 1) := by
  obtain ⟨hj, e⟩ := List.getElem?_eq_some_iff.mp h
  have e2 : os.drop j = k :: os.drop (j + 1) := by rw [List.drop_eq_getElem_cons hj, e]
  rw [← e2, List.take_append_drop]
theorem way_at {ts : List T3} {os : List Nat} {j k : Nat} (h : os[j]? = some k) : wayAt ts os j = pth (sq ts (os.take j)) (ts.getD k (0, 0, 0)) (sq ts (os.drop (j + 1))) := by
  have e : os.getD j 0 = k := by rw [List.getD_eq_getElem?_getD, h]; rfl
  unfold wayAt
  rw [e]
/-- at the end the longest is when the order is done -/
theorem top_end {ts : List T3} {os : List Nat} {m : Int} {k : Nat} (hn : ∀ t ∈ ts, Nn t) (hp : os.Perm (List.range ts.length)) (h : Top ts os os.length m k) (h0 : os ≠ []) : k < os.length ∧ m = wayAt ts os k ∧ m = dn (sq ts os) := by
  have nn := sq_nn hn (perm_lt hp)
  have l0 : 0 < os.length := by
    cases os with
    | nil => exact absurd rfl h0
    | cons x r => simp
  have wn : ∀ j, j < os.length → 0 ≤ wayAt ts os j := fun j hj => by
    have e := List.getElem?_eq_getElem hj
    rw [way_at e]
    have s1 : ∀ t ∈ sq ts (os.take j), Nn t := sq_nn hn fun x hx => perm_lt hp x (List.mem_of_mem_take hx)
    have s2 : ∀ t ∈ sq ts (os.drop (j + 1)), Nn t := sq_nn hn fun x hx => perm_lt hp x (List.mem_of_mem_drop hx)
    have tn := hn _ (List.mem_of_getElem? (getD_at (perm_lt hp _ (List.getElem_mem hj))))
    have a1 := sa_nn s1
    have a2 := sb_nn s2
    have b1 := tn.1
    have b2 := tn.2.1
    have b3 := tn.2.2
    unfold pth
    omega
  have key : k < os.length ∧ m = wayAt ts os k := by
    rcases h.2 with ⟨rfl, rfl⟩ | h2
    · have a1 := h.1 0 l0
      have a2 := wn 0 l0
      exact ⟨l0, by omega⟩
    · exact h2
  refine ⟨key.1, key.2, ?_⟩
  rw [dn_ld nn]
  have e := List.getElem?_eq_getElem key.1
  refine Int.le_antisymm ?_ (ld_le.mpr ⟨by rw [key.2]; exact wn k key.1, fun p t r hs => ?_⟩)
  · rw [key.2, way_at e]
    refine pth_le_ld ?_
    have z := congrArg (sq ts) (split_at e)
    rw [sq_app] at z
    exact z
  · have hl : p.length < os.length := by
      have := congrArg List.length hs
      rw [sq_len, List.length_append, List.length_cons] at this
      omega
    have ej := List.getElem?_eq_getElem hl
    have z := congrArg (sq ts) (split_at ej)
    rw [sq_app, hs] at z
    have hlen : p.length = (sq ts (os.take p.length)).length := by rw [sq_len, List.length_take]; omega
    obtain ⟨z1, z2⟩ := List.append_inj z hlen
    obtain ⟨z3, z4⟩ := List.cons.inj (show t :: r = ts.getD os[p.length] (0, 0, 0) :: sq ts (os.drop (p.length + 1)) from z2)
    have := h.1 p.length hl
    rw [way_at ej, ← z1, ← z3, ← z4] at this
    exact this
/-- the bar that bar_of tells -/
theorem bar_at {ts : List T3} {os : List Nat} {k j : Nat} {ap : List Int} (hn : ∀ t ∈ ts, Nn t) (hB : Best ts os) (h : os[k]? = some j) (e : wayAt ts os k = dn (sq ts os)) (hs : ap.Pairwise (· ≤ ·)) :
    ((ts.getD j (0, 0, 0)).1 ≤ (ts.getD j (0, 0, 0)).2.2 → ap.Perm (zs (os.take k)) → wv ts 1 ap ((ts.getD j (0, 0, 0)).1 + (ts.getD j (0, 0, 0)).2.1) = some (dn (sq ts os))) ∧
    (¬ (ts.getD j (0, 0, 0)).1 ≤ (ts.getD j (0, 0, 0)).2.2 → ap.Perm (zs (os.drop (k + 1))) → wv ts 2 ap ((ts.getD j (0, 0, 0)).2.2 + (ts.getD j (0, 0, 0)).2.1) = some (dn (sq ts os))) := by
  obtain ⟨hP, qs, ss, eo, h1, h2, h3, h4⟩ := hB
  have sp := split_at h
  have mem : j ∈ qs ++ ss := by rw [← eo]; exact List.mem_of_getElem? h
  have P2 : (os.take k ++ j :: os.drop (k + 1)).Perm (List.range ts.length) := by rw [← sp]; exact hP
  have E2 : os.take k ++ j :: os.drop (k + 1) = qs ++ ss := by rw [← sp]; exact eo
  rw [way_at h] at e
  refine ⟨fun c hp => ?_, fun c hp => ?_⟩
  · have kq : j ∈ qs := by
      rcases List.mem_append.mp mem with m | m
      · exact m
      · have := h2 j m; omega
    rw [← e]
    exact best_bar1 hn P2 E2 h1 (fun k hk => Int.le_of_lt (h2 k hk)) h3 kq hp hs
  · have ks : j ∈ ss := by
      rcases List.mem_append.mp mem with m | m
      · exact absurd (h1 j m) c
      · exact m
    rw [← e]
    exact best_bar2 hn P2 E2 h1 (fun k hk => Int.le_of_lt (h2 k hk)) h4 ks hp hs
end Bp
/-! Benchpair: when the soonest order is done. -/
namespace Bp
/-- v is when some order is done, and some bar's worth -/
def Opt (ts : List T3) (v : Int) : Prop := ∃ os b ap l, os.Perm (List.range ts.length) ∧ wv ts b ap l = some v ∧ v = dn (sq ts os)
theorem Opt.uniq {ts : List T3} {v v' : Int} (hn : ∀ t ∈ ts, Nn t) (h : Opt ts v) (h' : Opt ts v') : v = v' := by
  obtain ⟨os, b, ap, l, h1, h2, h3⟩ := h
  obtain ⟨os', b', ap', l', k1, k2, k3⟩ := h'
  have a1 := bar_le hn k1 h2
  have a2 := bar_le hn h1 k2
  omega
theorem top_ex (ts : List T3) (os : List Nat) : ∀ i, ∃ m k, Top ts os i m k
  | 0 => ⟨0, 0, top_0 ts os⟩
  | i + 1 => by
    obtain ⟨m, k, h⟩ := top_ex ts os i
    by_cases g : m < wayAt ts os i
    · exact ⟨_, _, top_y h g⟩
    · exact ⟨_, _, top_n h g⟩
theorem sort_ex (l : List Int) : ∃ ap : List Int, ap.Perm l ∧ ap.Pairwise (· ≤ ·) := by
  refine ⟨l.mergeSort (fun a b => decide (a ≤ b)), List.mergeSort_perm l _, ?_⟩
  have h := List.pairwise_mergeSort (le := fun a b : Int => decide (a ≤ b)) (fun a b c h1 h2 => by simp at h1 h2 ⊢; omega) (fun a b => by simp; omega) l
  exact h.imp fun h => of_decide_eq_true h
theorem best_opt {ts : List T3} {os : List Nat} (hn : ∀ t ∈ ts, Nn t) (hB : Best ts os) : Opt ts (dn (sq ts os)) := by
  have hP := hB.1
  by_cases e : os = []
  · subst e
    have t0 : ts = [] := List.eq_nil_of_length_eq_zero (perm_len hP).symm
    subst t0
    exact ⟨[], 1, [], 0, hP, rfl, rfl⟩
  · obtain ⟨m, k, h⟩ := top_ex ts os os.length
    obtain ⟨k1, k2, k3⟩ := top_end hn hP h e
    have ej := List.getElem?_eq_getElem k1
    by_cases c : (ts.getD os[k] (0, 0, 0)).1 ≤ (ts.getD os[k] (0, 0, 0)).2.2
    · obtain ⟨ap, p1, p2⟩ := sort_ex (zs (os.take k))
      exact ⟨os, 1, ap, _, hP, (bar_at hn hB ej (k2.symm.trans k3) p2).1 c p1, rfl⟩
    · obtain ⟨ap, p1, p2⟩ := sort_ex (zs (os.drop (k + 1)))
      exact ⟨os, 2, ap, _, hP, (bar_at hn hB ej (k2.symm.trans k3) p2).2 c p1, rfl⟩
theorem opt_nil {v : Int} (h : Opt [] v) : v = 0 := by
  obtain ⟨os, b, ap, l, h1, h2, h3⟩ := h
  have e : os = [] := List.eq_nil_of_length_eq_zero (perm_len h1)
  subst e
  exact h3
theorem opt_nn {ts : List T3} {v : Int} (hn : ∀ t ∈ ts, Nn t) (h : Opt ts v) : 0 ≤ v := by
  obtain ⟨os, b, ap, l, h1, h2, h3⟩ := h
  exact wv_nn hn h2
theorem sa_le {M : Int} (hM : 0 ≤ M) : ∀ l : List T3, (∀ t ∈ l, t.1 ≤ M) → sa l ≤ M * l.length
  | [], _ => by simp [sa]
  | t :: l, h => by
    have h1 := h t List.mem_cons_self
    have h2 := sa_le hM l fun u hu => h u (List.mem_cons_of_mem t hu)
    rw [sa, List.length_cons, Int.natCast_add, Int.mul_add]
    omega
theorem sb_le {M : Int} (hM : 0 ≤ M) : ∀ l : List T3, (∀ t ∈ l, t.2.2 ≤ M) → sb l ≤ M * l.length
  | [], _ => by simp [sb]
  | t :: l, h => by
    have h1 := h t List.mem_cons_self
    have h2 := sb_le hM l fun u hu => h u (List.mem_cons_of_mem t hu)
    rw [sb, List.length_cons, Int.natCast_add, Int.mul_add]
    omega
/-- no order is done later than the lengths allow -/
theorem ld_bound {M : Int} (hM : 0 ≤ M) {l : List T3} (h : ∀ t ∈ l, t.1 ≤ M ∧ t.2.1 ≤ M ∧ t.2.2 ≤ M) : ld l ≤ M * (l.length + 2) := by
  refine ld_le.mpr ⟨Int.mul_nonneg hM (by omega), fun p t r e => ?_⟩
  subst e
  have h1 := sa_le hM p fun u hu => (h u (by simp [hu])).1
  have h2 := sb_le hM r fun u hu => (h u (by simp [hu])).2.2
  have h3 := h t (by simp)
  unfold pth
  rw [List.length_append, List.length_cons]
  have e : M * (((p.length + (r.length + 1) : Nat) : Int) + 2) = M * p.length + M * r.length + M + M + M := by
    rw [show (((p.length + (r.length + 1) : Nat) : Int) + 2) = (p.length : Int) + r.length + 1 + 1 + 1 by omega]
    rw [Int.mul_add, Int.mul_add, Int.mul_add, Int.mul_add, Int.mul_one]
  rw [e]
  omega
end Bp
/-! Benchpair: things written and read, sign by sign. -/
namespace Bp
open PySem PySem.NumText
def dig (c : Nat) : Bool := decide (48 ≤ c) && decide (c ≤ 57)
/-- a number as it is written -/
def numOk (w : List Nat) : Bool := decide (1 ≤ w.length) && decide (w.length ≤ 60) && w.all dig && !(decide (w.head? = some 48) && decide (w ≠ [48]))
def num? (w : List Nat) : Option Int := if numOk w = true then some ((digitsVal w : Nat) : Int) else none
def three? : List (List Nat) → Option T3
  | [a, b, c] => (match num? a, num? b, num? c with
    | some x, some y, some z => some (x, y, z)
    | _, _, _ => none)
  | _ => none
def words? : List (List Nat) → Option (List T3)
  | [] => some []
  | w :: r => (match three? (TL.spl [47] 0 [] w), words? r with
    | some t, some ts => some (t :: ts)
    | _, _ => none)
/-- the things that a text tells -/
def prs (a : List Nat) : Option (List T3) := if a = [45] then some [] else words? (TL.spl [32] 0 [] a)
def wnum (i : Int) : List Nat := TL.numL i.toNat
def wthg (t : T3) : List Nat := TL.joinL [47] [wnum t.1, wnum t.2.1, wnum t.2.2]
/-- the text of things -/
def wtx (ts : List T3) : List Nat := if ts = [] then [45] else TL.joinL [32] (ts.map wthg)
theorem pre_one (c x : Nat) (r : List Nat) : TL.pre [c] (x :: r) = decide (x = c) := by
  unfold TL.pre
  show ([x] == [c]) = _
  by_cases h : x = c
  · subst h; simp
  · simp [h]
theorem spl_ne (c : Nat) : ∀ (a acc : List Nat), TL.spl [c] 0 acc a ≠ []
  | [], acc => by simp [TL.spl]
  | x :: r, acc => by
    unfold TL.spl
    split
    · simp
    · exact spl_ne c r _
theorem spl_len (c : Nat) : ∀ (a acc : List Nat), (TL.spl [c] 0 acc a).length ≤ a.length + 1
  | [], acc => by simp [TL.spl]
  | x :: r, acc => by
    unfold TL.spl
    split
    · have := spl_len c r []
      rw [List.length_cons, List.length_cons]
      exact Nat.succ_le_succ this
    · have := spl_len c r (acc ++ [x])
      rw [List.length_cons]
      omega
theorem joinL_cons (c : Nat) (p : List Nat) {L : List (List Nat)} (h : L ≠ []) : TL.joinL [c] (p :: L) = p ++ (c :: TL.joinL [c] L) := by
  cases L with
  | nil => exact absurd rfl h
  | cons q r => rfl
theorem join_spl (c : Nat) : ∀ (a acc : List Nat), TL.joinL [c] (TL.spl [c] 0 acc a) = acc ++ a
  | [], acc => by simp [TL.spl, TL.joinL]
  | x :: r, acc => by
    unfold TL.spl
    rw [pre_one]
    by_cases h : x = c
    · rw [if_pos (decide_eq_true h), show [c].length - 1 = 0 from rfl, joinL_cons c acc (spl_ne c r []), join_spl c r []]
      rw [h]; rfl
    · rw [if_neg (by rw [decide_eq_false h]; decide), join_spl c r (acc ++ [x])]
      simp
theorem dv_lt : ∀ (cs : List Nat) (a : Nat), (∀ c ∈ cs, c ≤ 57) → cs.foldl (fun acc c => acc * 10 + (c - 48)) a < (a + 1) * 10 ^ cs.length
  | [], a, _ => by simp
  | c :: cs, a, h => by
    have ih := dv_lt cs (a * 10 + (c - 48)) fun d hd => h d (List.mem_cons_of_mem c hd)
    have hc := h c List.mem_cons_self
    rw [List.foldl_cons, List.length_cons, Nat.pow_succ]
    refine Nat.lt_of_lt_of_le ih ?_
    have : a * 10 + (c - 48) + 1 ≤ (a + 1) * 10 := by omega
    calc (a * 10 + (c - 48) + 1) * 10 ^ cs.length ≤ (a + 1) * 10 * 10 ^ cs.length := Nat.mul_le_mul_right _ this
      _ = (a + 1) * (10 ^ cs.length * 10) := by rw [Nat.mul_assoc, Nat.mul_comm 10]
theorem chr_back : ∀ c : Fin 128, (Char.ofNat c.val).toNat = c.val := by decide
theorem numOk_all {w : List Nat} (h : numOk w = true) : 1 ≤ w.length ∧ w.length ≤ 60 ∧ (∀ c ∈ w, 48 ≤ c ∧ c ≤ 57) ∧ ¬ (w.head? = some 48 ∧ w ≠ [48]) := by
  unfold numOk at h
  rw [Bool.and_eq_true, Bool.and_eq_true, Bool.and_eq_true, decide_eq_true_eq, decide_eq_true_eq, List.all_eq_true] at h
  obtain ⟨⟨⟨h1, h2⟩, h3⟩, h4⟩ := h
  refine ⟨h1, h2, fun c hc => ?_, fun ⟨e1, e2⟩ => ?_⟩
  · have := h3 c hc
    unfold dig at this
    rw [Bool.and_eq_true, decide_eq_true_eq, decide_eq_true_eq] at this
    exact this
  · rw [decide_eq_true e1, decide_eq_true e2] at h4
    cases h4
theorem num_back {w : List Nat} {z : Int} (h : num? w = some z) : 0 ≤ z ∧ z < 10 ^ 60 ∧ wnum z = w := by
  unfold num? at h
  by_cases k : numOk w = true
  · rw [if_pos k] at h
    have e := Option.some.inj h
    subst e
    obtain ⟨h1, h2, h3, h4⟩ := numOk_all k
    refine ⟨Int.natCast_nonneg _, ?_, ?_⟩
    · have l := dv_lt w 0 fun c hc => (h3 c hc).2
      have l2 : digitsVal w < 10 ^ 60 := by
        refine Nat.lt_of_lt_of_le (show digitsVal w < (0 + 1) * 10 ^ w.length from l) ?_
        rw [Nat.zero_add, Nat.one_mul]
        exact Nat.pow_le_pow_right (by decide) h2
      exact_mod_cast l2
    · unfold wnum TL.numL
      rw [Int.toNat_natCast, toDigits_digitsVal (w.length - 1) w (by omega) h3 ?_, List.map_map]
      · refine (List.map_congr_left fun c hc => ?_).trans (List.map_id w)
        have := (h3 c hc).2
        exact chr_back ⟨c, by omega⟩
      · match w, h1, h4 with
        | [c], _, _ => exact .inl rfl
        | c :: d :: r, _, h4 =>
          refine .inr ⟨c, d :: r, rfl, ?_⟩
          have := (h3 c List.mem_cons_self).1
          by_cases e : c = 48
          · exact absurd ⟨by rw [e]; rfl, by simp⟩ h4
          · omega
  · rw [if_neg k] at h
    cases h
def Small (t : T3) : Prop := Nn t ∧ t.1 < 10 ^ 60 ∧ t.2.1 < 10 ^ 60 ∧ t.2.2 < 10 ^ 60
theorem three_back {ps : List (List Nat)} {t : T3} (h : three? ps = some t) : Small t ∧ wthg t = TL.joinL [47] ps := by
  unfold three? at h
  split at h
  · rename_i a b c
    split at h
    · rename_i x y z hx hy hz
      have e := Option.some.inj h
      subst e
      obtain ⟨x1, x2, x3⟩ := num_back hx
      obtain ⟨y1, y2, y3⟩ := num_back hy
      obtain ⟨z1, z2, z3⟩ := num_back hz
      refine ⟨⟨⟨x1, y1, z1⟩, x2, y2, z2⟩, ?_⟩
      unfold wthg
      rw [x3, y3, z3]
    · cases h
  · cases h
theorem words_back : ∀ {ws : List (List Nat)} {ts : List T3}, words? ws = some ts → (∀ t ∈ ts, Small t) ∧ ts.map wthg = ws
  | [], ts, h => by
    have e := Option.some.inj h
    subst e
    exact ⟨(fun t ht => nomatch ht), rfl⟩
  | w :: r, ts, h => by
    unfold words? at h
    split at h
    · rename_i t us h1 h2
      have e := Option.some.inj h
      subst e
      obtain ⟨k1, k2⟩ := words_back h2
      obtain ⟨k3, k4⟩ := three_back h1
      refine ⟨fun u hu => ?_, ?_⟩
      · rcases List.mem_cons.mp hu with rfl | hu
        · exact k3
        · exact k1 u hu
      · rw [List.map_cons, k2, k4, join_spl]
        rfl
    · cases h
/-- WHAT IS READ IS WRITTEN SO -/
theorem prs_back {a : List Nat} {ts : List T3} (h : prs a = some ts) : (∀ t ∈ ts, Small t) ∧ wtx ts = a ∧ ts.length ≤ a.length + 1 := by
  unfold prs at h
  by_cases e : a = [45]
  · rw [if_pos e] at h
    have e2 := Option.some.inj h
    subst e2
    exact ⟨(fun t ht => nomatch ht), e.symm, Nat.zero_le _⟩
  · rw [if_neg e] at h
    obtain ⟨k1, k2⟩ := words_back h
    have ne : ts ≠ [] := fun z => by
      rw [z] at k2
      exact spl_ne 32 a [] k2.symm
    refine ⟨k1, ?_, ?_⟩
    · unfold wtx
      rw [if_neg ne, k2, join_spl]
      rfl
    · have l := spl_len 32 a []
      rw [← k2, List.length_map] at l
      exact l
end Bp
/-! Benchpair: short words over the hand layer. -/
namespace Bp
open PySem PySem.Spec PyProof.Rows L2
/-- the built-in names that the text leaves as they are -/
structure Blt (mg : Str → Option Value) : Prop where
  isinstance : mg "isinstance" = none
  int : mg "int" = none
  bool : mg "bool" = none
  list : mg "list" = none
  tuple : mg "tuple" = none
  str : mg "str" = none
  len : mg "len" = none
  all : mg "all" = none
  any : mg "any" = none
  sum : mg "sum" = none
  max : mg "max" = none
  sorted : mg "sorted" = none
  range : mg "range" = none
  enumerate : mg "enumerate" = none
  zip : mg "zip" = none
  set : mg "set" = none
  ValueError : mg "ValueError" = none
abbrev FnP (K : PySem.W.Frag) (x : Str) (st : Stmt) (f : Addr) (fd : FuncData) : Prop := FunD K x x (defArgs st) (defBody st) (defScope st) [] [] f fd
/-- a def of the text, under its own name -/
structure Def (K : PySem.W.Frag) (mg : Str → Option Value) (x : Str) (st : Stmt) (ps : List Str) : Prop where
  ex : ∃ (f : Addr) (fd : FuncData), FnP K x st f fd ∧ mg x = some (.ref f) ∧ Binds K fd ps []
/-- a def that may be called, and what it promises -/
structure CalX (P : Program) (w : World) (K : PySem.W.Frag) (mg : Str → Option Value) (base : Heap) (CX : CXT) (k : Nat) (x : Str) (sp : Sp) : Prop where
  ex : ∃ (f : Addr) (fd : FuncData) (ps : List Str), FnOk P w K mg base CX k f fd ps sp ∧ mg x = some (.ref f) ∧ PySem.W.keepIn K (.ref f) = true ∧ Binds K fd ps []
abbrev Cal (P : Program) (w : World) (K : PySem.W.Frag) (mg : Str → Option Value) (base : Heap) (k : Nat) (x : Str) (sp : Sp) : Prop := CalX P w K mg base CX0 k x sp
section
variable {P : Program} {w : World} {K : PySem.W.Frag} {mg : Str → Option Value} {base : Heap} {x : Str} {st : Stmt} {ps N : List Str} {k : Nat} {sp : Sp}
theorem Def.cal (D : Def K mg x st ps) (S : FnScope N ps (defScope st)) (len : ∀ vs H Q E, sp vs H Q E → vs.length = ps.length)
    (body : ∀ (f : Addr) (cdv : Value) (A : Around) (outer : List Env) (s : Shared) (H : Hp) (vs : List V) (Q : VK) (E : XK), Room k (A.deeper (envOfC x (defScope st) s.heap.objs.size f cdv)) → sp vs H Q E →
      ∃ t, PSs (cxOf CX0 P w K mg base N x (defScope st) f cdv A outer s H E).nox (defBody st) t ∧ t { nx := fun _ H' => Q .non H', rt := Q } (start N vs) H) : Cal P w K mg base (k + 1) x sp := by
  obtain ⟨f, fd, F, g, b⟩ := D.ex
  refine ⟨f, fd, ps, F.ok S len fun cdv A outer s H vs Q E hr h => ?_, g, F.kp, b⟩
  obtain ⟨t, h1, h2⟩ := body f cdv A outer s H vs Q E hr h
  exact ⟨t, h1.nox, h2⟩
/-- the law itself -/
theorem fn_law {f : Addr} {fd : FuncData} (F : FnP K x st f fd) (S : FnScope N ps (defScope st)) (len : ∀ vs H Q E, sp vs H Q E → vs.length = ps.length)
    (body : ∀ (cdv : Value) (A : Around) (outer : List Env) (s : Shared) (H : Hp) (vs : List V) (Q : VK) (E : XK), Room k (A.deeper (envOfC x (defScope st) s.heap.objs.size f cdv)) → sp vs H Q E →
      ∃ t, PSs (cxOf CX0 P w K mg base N x (defScope st) f cdv A outer s H E).nox (defBody st) t ∧ t { nx := fun _ H' => Q .non H', rt := Q } (start N vs) H) : FnOk P w K mg base CX0 (k + 1) f fd ps sp :=
  F.ok S len fun cdv A outer s H vs Q E hr h => let ⟨t, h1, h2⟩ := body cdv A outer s H vs Q E hr h; ⟨t, h1.nox, h2⟩
/-- .. for one that may raise -/
theorem Def.calX (D : Def K mg x st ps) (S : FnScope N ps (defScope st)) (len : ∀ vs H Q E, sp vs H Q E → vs.length = ps.length)
    (body : ∀ (f : Addr) (cdv : Value) (A : Around) (outer : List Env) (s : Shared) (H : Hp) (vs : List V) (Q : VK) (E : XK), Room k (A.deeper (envOfC x (defScope st) s.heap.objs.size f cdv)) → sp vs H Q E →
      ∃ t, PSs (cxOf (L2.CX P w) P w K mg base N x (defScope st) f cdv A outer s H E) (defBody st) t ∧ t { nx := fun _ H' => Q .non H', rt := Q } (start N vs) H) : CalX P w K mg base (L2.CX P w) (k + 1) x sp := by
  obtain ⟨f, fd, F, g, b⟩ := D.ex
  exact ⟨f, fd, ps, F.ok S len fun cdv A outer s H vs Q E hr h => body f cdv A outer s H vs Q E hr h, g, F.kp, b⟩
end
/-- f(e, ..) by its promise -/
def tCal (sp : Sp) (t : TA) : TE := fun σ H Q => t σ H fun vs H1 => sp vs H1 Q E0
theorem tCal_eq (sp : Sp) (t : TA) : tCall sp [] E0 t = tCal sp t := by
  funext σ H Q
  unfold tCall tCal
  simp only [List.append_nil]
section
variable {X : Cx} {k j : Nat} {x : Str} {sp : Sp} {p pos : Pos} {e : Expr} {es : List Expr} {t : TA}
theorem pe_cal (c : Cal X.prog X.w X.K X.mg X.base k x sp) (hr : Room j X.A) (hk : k ≤ j) (hg : Gl X x) (ha : PA X (e :: es) t) (hdb : (x == ("__debug__" : Str)) = false := by decide)
    (h1 : starEach (e :: es) X.env = (false, eval e X.env) :: starEach es X.env := by rfl) (h2 : (backTo pos (starEach es X.env)).any (·.1) = false := by rfl) : PE X (.Call (.Name x p) (e :: es) [] pos) (tCal sp t) := by
  obtain ⟨f, fd, ps, F, hm, kp, b⟩ := c.ex
  rw [← tCal_eq]
  exact pe_call F (hr.mono hk) hg hm kp b .nil pass0 ha hdb h1 h2
theorem pe_cal0 (c : Cal X.prog X.w X.K X.mg X.base k x sp) (hr : Room j X.A) (hk : k ≤ j) (hg : Gl X x) (hdb : (x == ("__debug__" : Str)) = false := by decide) : PE X (.Call (.Name x p) [] [] pos) (tCal sp tNil) := by
  obtain ⟨f, fd, ps, F, hm, kp, b⟩ := c.ex
  rw [← tCal_eq]
  exact pe_call0 F (hr.mono hk) hg hm kp b .nil pass0 hdb
theorem pe_calS {E : L2.St → XK} (c : CalX X.prog X.w X.K X.mg X.base (L2.CX X.prog X.w) k x sp) (hr : Room j X.A) (hk : k ≤ j) (hg : Gl X x) (hx : ∀ σ, PassesAt (L2.CX X.prog X.w) X σ (E σ)) (ha : PA X (e :: es) t) (hdb : (x == ("__debug__" : Str)) = false := by decide)
    (h1 : starEach (e :: es) X.env = (false, eval e X.env) :: starEach es X.env := by rfl) (h2 : (backTo pos (starEach es X.env)).any (·.1) = false := by rfl) : PE X (.Call (.Name x p) (e :: es) [] pos) (tCallS sp E t) := by
  obtain ⟨f, fd, ps, F, hm, kp, b⟩ := c.ex
  exact pe_callS F (hr.mono hk) hg hm kp b hx ha hdb h1 h2
end
/-! ### heaps -/
theorem Same.upd {H : Hp} {p : Addr} {o : HO} (h : H p = none) : Same H (upd H p o) := fun a u e => by
  rw [upd_ne (ne_of_none e h)]
  exact e
/-- what H does not know may change -/
theorem Same.mut {H H' : Hp} {p : Addr} {o : HO} (e : Same H H') (h : H p = none) : Same H (L2.upd H' p o) := fun a u ha => by
  rw [upd_ne (ne_of_none ha h)]
  exact e a u ha
theorem Same.t {K : PySem.W.Frag} {H H' : Hp} {a : Addr} {xs : List V} (e : Same H H') (h : SqT K H a xs) : SqT K H' a xs := by
  rcases h with (h | ⟨o, h⟩) | h
  · exact .inl (.inl (e _ _ h))
  · exact .inl (.inr ⟨o, e _ _ h⟩)
  · exact .inr h
theorem sz_le {n : Nat} (h : n ≤ 100000) : n ≤ sizeLine := Nat.le_trans h (by decide)
theorem sz_lt {n : Nat} (h : n < 100000) : n < sizeLine := Nat.lt_of_lt_of_le h (by decide)
/-! ### readings, one step each -/
section
variable {K : PySem.W.Frag} {σ : L2.St} {H : Hp} {Q : VK} {D : Ends} {t u : TS} {te ta tb tc : TE} {tA tB' : TT} {g : TG} {gs : TGs} {x y z v : V} {i j n : Nat} {a p : Addr} {xs ys : List V} {ts : TA} {r : R2} {sp : Sp} {QT : Bool → Hp → Prop} {QA : List V → Hp → Prop} {QS : L2.St → Hp → Prop}
theorem i_seq (h : t { D with nx := u D } σ H) : tSeq t u D σ H := h
theorem i_next (h : D.nx σ H) : tNext D σ H := h
theorem i_asg (h : te σ H fun x H1 => g x σ H1 D.nx) : tAsg te g D σ H := h
theorem i_ret (h : te σ H D.rt) : tRet te D σ H := h
theorem i_drop (h : te σ H fun _ H1 => D.nx σ H1) : tDrop te D σ H := h
theorem i_ifS (h : tA σ H fun b H1 => if b = true then t D σ H1 else u D σ H1) : tIfS tA t u D σ H := h
theorem i_if (h : tA σ H fun c H1 => if c = true then ta σ H1 Q else tb σ H1 Q) : tIf tA ta tb σ H Q := h
theorem i_par (h : ts σ H fun vs H1 => ∃ v w, vs = [v, w] ∧ D.nx ((σ.set i (some v)).set j (some w)) H1) : tPar i j ts D σ H := h
theorem i_par3 {l : Nat} (h : ts σ H fun vs H1 => ∃ u v w, vs = [u, v, w] ∧ D.nx (((σ.set i (some u)).set j (some v)).set l (some w)) H1) : tPar3 i j l ts D σ H := h
theorem i_par_e {R : V → V → Prop} (h : R x y) : ∃ v w, [x, y] = [v, w] ∧ R v w := ⟨x, y, rfl, h⟩
theorem i_par3_e {R : V → V → V → Prop} (h : R x y z) : ∃ u v w, [x, y, z] = [u, v, w] ∧ R u v w := ⟨x, y, z, rfl, h⟩
theorem i_nm (h : QS (σ.set i (some v)) H) : gName i v σ H QS := h
theorem i_gtup (hq : SqT K H a xs) (hl : xs.length = n) (h : gs xs σ H QS) : gTup K n gs (.ref a) σ H QS := ⟨a, xs, rfl, hq, hl, h⟩
theorem i_gcons (h : g v σ H fun σ' H' => gs xs σ' H' QS) : gCons g gs (v :: xs) σ H QS := ⟨v, xs, rfl, h⟩
theorem i_gnil (h : QS σ H) : gNil [] σ H QS := ⟨rfl, h⟩
theorem i_gsub {s : TSet} (h : ta σ H fun o H1 => tb σ H1 fun i H2 => s o i v H2 fun H3 => QS σ H3) : gSub ta tb s v σ H QS := h
theorem i_var (e : σ[i]? = some (some v)) (h : Q v H) : tVar i σ H Q := ⟨v, e, h⟩
theorem i_var0 (h : ∃ v, σ[i]? = some (some v) ∧ Q v H) : tVar i σ H Q := h
theorem i_c (h : Q v H) : tC v σ H Q := h
theorem i_op (h : ta σ H fun x H1 => tb σ H1 fun y H2 => r x y H2 Q) : tOp r ta tb σ H Q := h
theorem i_un {rr : V → Hp → VK → Prop} (h : ta σ H fun x H1 => rr x H1 Q) : tUn rr ta σ H Q := h
theorem i_I0 {f : Int → Int → V} {m l : Int} (h : Q (f m l) H) : rI0 f (.int m) (.int l) H Q := ⟨m, l, rfl, rfl, h⟩
theorem i_I {C : Int → Int → Prop} {f : Int → Int → V} {m l : Int} (c : C m l) (h : Q (f m l) H) : rI C f (.int m) (.int l) H Q := ⟨m, l, rfl, rfl, c, h⟩
theorem i_U {f : Int → V} {m : Int} (h : Q (f m) H) : rU f (.int m) H Q := ⟨m, rfl, h⟩
theorem i_eq (s : scal x y = true) (h : Q (.bl (decide (x = y))) H) : rEq x y H Q := ⟨s, h⟩
theorem i_ne (s : scal x y = true) (h : Q (.bl (!decide (x = y))) H) : rNe x y H Q := ⟨s, h⟩
theorem i_ipI {f : Int → Int → Int} {m l : Int} (h : Q (.int (f m l)) H) : ipI f (.int m) (.int l) H Q := ⟨m, l, rfl, rfl, h⟩
theorem i_aug {ti : TIp} (e : σ[i]? = some (some x)) (h : te σ H fun y H1 => ti x y H1 fun z H2 => D.nx (σ.set i (some z)) H2) : tAug i te ti D σ H := ⟨x, e, h⟩
theorem i_aug0 {ti : TIp} (h : ∃ x, σ[i]? = some (some x) ∧ te σ H fun y H1 => ti x y H1 fun z H2 => D.nx (σ.set i (some z)) H2) : tAug i te ti D σ H := h
theorem i_cb {rr : List V → Hp → VK → Prop} (h : ts σ H fun vs H1 => rr vs H1 Q) : tCB rr ts σ H Q := h
theorem i_cal (h : ts σ H fun vs H1 => sp vs H1 Q E0) : tCal sp ts σ H Q := h
theorem i_calS {E : L2.St → XK} (h : ts σ H fun vs H1 => sp vs H1 Q (E σ)) : tCallS sp E ts σ H Q := h
theorem i_nil (h : QA [] H) : tNil σ H QA := h
theorem i_cons (h : ta σ H fun x H1 => ts σ H1 fun xs H2 => QA (x :: xs) H2) : tCons ta ts σ H QA := h
theorem i_test (h : te σ H fun x H' => ∃ k, x = .bl k ∧ QT k H') : tTest te σ H QT := h
theorem i_tB (h : te σ H fun x H' => ∃ k, x = .bl k ∧ QT k H') : tB te σ H QT := h
theorem i_bl {b : Bool} {R : Bool → Prop} (h : R b) : ∃ k, V.bl b = .bl k ∧ R k := ⟨b, rfl, h⟩
theorem i_not (h : tA σ H fun c H1 => QT (!c) H1) : tNot tA σ H QT := h
theorem i_and (h : tA σ H fun c H1 => if c = true then tB' σ H1 QT else QT false H1) : tAnd tA tB' σ H QT := h
theorem i_or (h : tA σ H fun c H1 => if c = true then QT true H1 else tB' σ H1 QT) : tOr tA tB' σ H QT := h
theorem i_andV (h : ta σ H fun x H1 => ∃ c, x = .bl c ∧ if c = true then tb σ H1 Q else Q (.bl false) H1) : tAndV ta tb σ H Q := h
theorem i_orV (h : ta σ H fun x H1 => ∃ c, x = .bl c ∧ if c = true then Q (.bl true) H1 else tb σ H1 Q) : tOrV ta tb σ H Q := h
theorem i_notV (h : ta σ H fun x H1 => ∃ c, x = .bl c ∧ Q (.bl (!c)) H1) : tNotV ta σ H Q := h
theorem i_chain {r' : R2} (h : ta σ H fun x H1 => tb σ H1 fun y H2 => r x y H2 fun z H3 => ∃ k, z = .bl k ∧ (if k = true then tc σ H3 fun w' H4 => r' y w' H4 Q else Q (.bl false) H3)) : tChain r r' ta tb tc σ H Q := h
theorem i_ifT {A B : Prop} (h : A) : if true = true then A else B := iteT h
theorem i_ifF {A B : Prop} (h : B) : if false = true then A else B := iteF h
theorem i_ifNT {A B : Prop} (h : B) : if (!true) = true then A else B := iteF h
theorem i_ifNF {A B : Prop} (h : A) : if (!false) = true then A else B := iteT h
theorem i_ite {b : Bool} {A B : Prop} (h1 : b = true → A) (h2 : b = false → B) : if b = true then A else B := by
  cases b with
  | true => exact iteT (h1 rfl)
  | false => exact iteF (h2 rfl)
theorem i_itd {c : Prop} [Decidable c] {A B : Prop} (h1 : c → A) (h2 : ¬ c → B) : if decide c = true then A else B := i_ite (fun e => h1 (of_decide_eq_true e)) (fun e => h2 (of_decide_eq_false e))
theorem i_itdn {c : Prop} [Decidable c] {A B : Prop} (h1 : ¬ c → A) (h2 : c → B) : if (!decide c) = true then A else B := i_ite (fun e => h1 (of_decide_eq_false (by simpa using e))) (fun e => h2 (of_decide_eq_true (by simpa using e)))
theorem i_pos {b : Bool} {A B : Prop} (hb : b = true) (h : A) : if b = true then A else B := by rw [if_pos hb]; exact h
theorem i_neg {b : Bool} {A B : Prop} (hb : b = false) (h : B) : if b = true then A else B := by rw [hb]; exact iteF h
/-- new objects -/
def kTup (Q : VK) : List V → Hp → Prop := fun xs H1 => xs.length ≤ sizeLine ∧ ∀ p, H1 p = none → Q (.ref p) (upd H1 p (.tup xs))
def kLst (Q : VK) : List V → Hp → Prop := fun xs H1 => xs.length ≤ sizeLine ∧ ∀ p, H1 p = none → Q (.ref p) (upd H1 p (.lst xs))
theorem i_tupn (h : ts σ H (kTup Q)) : tTup ts σ H Q := h
theorem i_lstn (h : ts σ H (kLst Q)) : tLst ts σ H Q := h
theorem i_new {o : HO} (h : ∀ p H', H p = none → Same H H' → H' p = some o → Q (.ref p) H') : ∀ p, H p = none → Q (.ref p) (upd H p o) := fun p hp => h p _ hp (Same.upd hp) upd_same
theorem i_tupk (hz : xs.length ≤ 100000) (h : ∀ p H', H p = none → Same H H' → H' p = some (.tup xs) → Q (.ref p) H') : kTup Q xs H := ⟨sz_le hz, i_new h⟩
theorem i_lstk (hz : xs.length ≤ 100000) (h : ∀ p H', H p = none → Same H H' → H' p = some (.lst xs) → Q (.ref p) H') : kLst Q xs H := ⟨sz_le hz, i_new h⟩
/-- reading lists and tuples -/
theorem i_ixL {m : Int} (hs : SqL K H p xs) (e : atI xs m = some v) (h : Q v H) : rIxL K (.ref p) (.int m) H Q := ⟨p, xs, m, v, rfl, rfl, hs, e, h⟩
theorem i_ixT {m : Int} (hs : SqT K H p xs) (e : atI xs m = some v) (h : Q v H) : rIxT K (.ref p) (.int m) H Q := ⟨p, xs, m, v, rfl, rfl, hs, e, h⟩
theorem i_bm {T : String} {rr : V → List V → Hp → VK → Prop} (h : ta σ H fun x H1 => tyV K T x H1 ∧ ts σ H1 fun ys H2 => rr x ys H2 Q) : tBM K T rr ta ts σ H Q := h
theorem i_bm0 {T : String} {rr : V → List V → Hp → VK → Prop} (h : ta σ H fun x H1 => tyV K T x H1 ∧ rr x [] H1 Q) : tBM0 K T rr ta σ H Q := h
theorem ty_lst (h : H p = some (.lst xs)) : tyV K "list" (.ref p) H := .inl ⟨rfl, xs, .inl (.inl h)⟩
theorem i_app (hp : H p = some (.lst xs)) (hz : xs.length < 100000) (h : Q .non (upd H p (.lst (xs ++ [v])))) : rAppend (.ref p) [v] H Q := ⟨p, xs, v, rfl, rfl, hp, sz_lt hz, h⟩
theorem i_setL {m : Int} {jj : Nat} {QH : Hp → Prop} (hp : H p = some (.lst xs)) (hj : ixN xs.length m = some jj) (h : QH (upd H p (.lst (xs.set jj v)))) : rSetL (.ref p) (.int m) v H QH := ⟨p, xs, m, jj, rfl, rfl, hp, hj, h⟩
theorem ixN_nat {m jj : Nat} (hj : jj < m) : ixN m (jj : Int) = some jj := by
  unfold ixN
  rw [if_pos (by omega), if_pos (by omega)]
  simp
theorem i_sl {rs : V → Option Int → Option Int → Hp → VK → Prop} {tl th : L2.St → Hp → (Option Int → Hp → Prop) → Prop} (h : ta σ H fun x H1 => tl σ H1 fun l H2 => th σ H2 fun u H3 => rs x l u H3 Q) : tSl rs ta tl th σ H Q := h
theorem i_noP {QO : Option Int → Hp → Prop} (h : QO none H) : tNoPart σ H QO := h
theorem i_part {QO : Option Int → Hp → Prop} (h : ta σ H fun x H1 => ∃ i, x = .int i ∧ QO (some i) H1) : tPart ta σ H QO := h
theorem i_int {m : Int} {R : Int → Prop} (h : R m) : ∃ i, V.int m = .int i ∧ R i := ⟨m, rfl, h⟩
end
/-! ### loops -/
section
variable {K : PySem.W.Frag} {σ : L2.St} {H : Hp} {D : Ends} {t : TS} {ta : TE} {g : TG} {a b : Addr} {xs ys : List V} {ts : TA} {wi : TI} {R : It → Hp → Prop}
theorem i_for (h : wi σ H fun J H1 => ∃ W : Nat → Nat → L2.St → Hp → Prop, (∃ m, W 0 m σ H1) ∧ ∀ i m σ H, W i m σ H →
  (J.stop i H ∧ D.nx σ H) ∨ (J.go i H ∧ ∃ N : L2.St → Hp → Prop, (∀ σ' H', N σ' H' → ∃ m', m' < m ∧ W (i + 1) m' σ' H') ∧ ∀ x H', J.yld i H x H' → g x σ H' fun σ2 H2 => t { D with nx := N, ct := N, bk := D.nx } σ2 H2)) : tFor wi g t D σ H := h
def kItl (K : PySem.W.Frag) (R : It → Hp → Prop) : V → Hp → Prop := fun x H1 => ∃ a, x = .ref a ∧ (∃ xs, SqL K H1 a xs) ∧ R (Itl K a) H1
def kItt (K : PySem.W.Frag) (R : It → Hp → Prop) : V → Hp → Prop := fun x H1 => ∃ a, x = .ref a ∧ (∃ xs, SqT K H1 a xs) ∧ R (Itt K a) H1
def kItr (R : It → Hp → Prop) : List V → Hp → Prop := fun vs H1 => ∃ j : Int, vs = [.int j] ∧ -(2 ^ 62) ≤ j ∧ j < 2 ^ 62 ∧ R (Itr 0 j.toNat) H1
def kIte (K : PySem.W.Frag) (R : It → Hp → Prop) : List V → Hp → Prop := fun vs H1 => ∃ a xs, vs = [.ref a] ∧ SqL K H1 a xs ∧ R (Ite K a) H1
def kItz (K : PySem.W.Frag) (R : It → Hp → Prop) : List V → Hp → Prop := fun vs H1 => ∃ a b xs ys, vs = [.ref a, .ref b] ∧ SqL K H1 a xs ∧ SqL K H1 b ys ∧ R (Itz K a b) H1
theorem i_iList (h : ta σ H (kItl K R)) : iList K ta σ H R := h
theorem i_itl (hs : SqL K H a xs) (h : R (Itl K a) H) : kItl K R (.ref a) H := ⟨a, rfl, ⟨xs, hs⟩, h⟩
theorem i_iTup (h : ta σ H (kItt K R)) : iTup K ta σ H R := h
theorem i_itt (hs : SqT K H a xs) (h : R (Itt K a) H) : kItt K R (.ref a) H := ⟨a, rfl, ⟨xs, hs⟩, h⟩
theorem i_iRng1 (h : ts σ H (kItr R)) : iRng1 ts σ H R := h
theorem i_itr {m : Nat} {k : Int} (e : k = (m : Int)) (hm : m ≤ 100000) (h : R (Itr 0 m) H) : kItr R [.int k] H := by
  subst e
  exact ⟨(m : Int), rfl, by omega, by omega, h⟩
theorem i_iEnum (h : ts σ H (kIte K R)) : iEnum K ts σ H R := h
theorem i_itn (hs : SqL K H a xs) (h : R (Ite K a) H) : kIte K R [.ref a] H := ⟨a, xs, rfl, hs, h⟩
theorem i_iZip (h : ts σ H (kItz K R)) : iZip K ts σ H R := h
theorem i_itz (hs : SqL K H a xs) (hs' : SqL K H b ys) (h : R (Itz K a b) H) : kItz K R [.ref a, .ref b] H := ⟨a, b, xs, ys, rfl, hs, hs', h⟩
/-- for i, x in enumerate(xs) -/
theorem for_enum (Pv : Nat → L2.St → Hp → Prop) (h0 : Pv 0 σ H) (hl : ∀ i σ H, Pv i σ H → SqL K H a xs)
    (hs : ∀ (i : Nat) (x : V) (T : Addr) (σ : L2.St) (H H' : Hp), xs[i]? = some x → Pv i σ H → H T = none → Same H H' → H' = upd H T (.tup [.int (i : Nat), x]) → g (.ref T) σ H' fun σ2 H2 => t { D with nx := Pv (i + 1), ct := Pv (i + 1), bk := D.nx } σ2 H2)
    (hd : ∀ σ H, Pv xs.length σ H → D.nx σ H) : ∃ W : Nat → Nat → L2.St → Hp → Prop, (∃ m, W 0 m σ H) ∧ ∀ i m σ H, W i m σ H →
      ((Ite K a).stop i H ∧ D.nx σ H) ∨ ((Ite K a).go i H ∧ ∃ N : L2.St → Hp → Prop, (∀ σ' H', N σ' H' → ∃ m', m' < m ∧ W (i + 1) m' σ' H') ∧ ∀ v H', (Ite K a).yld i H v H' → g v σ H' fun σ2 H2 => t { D with nx := N, ct := N, bk := D.nx } σ2 H2) := by
  refine ⟨fun i m σ H => m = xs.length - i ∧ i ≤ xs.length ∧ Pv i σ H, ⟨xs.length, rfl, Nat.zero_le _, h0⟩, ?_⟩
  rintro i m σ H ⟨rfl, hi, p⟩
  have q := hl i σ H p
  by_cases hlt : i < xs.length
  · refine .inr ⟨⟨xs, xs[i], q, List.getElem?_eq_getElem hlt⟩, Pv (i + 1), fun σ' H' p' => ⟨xs.length - (i + 1), by omega, rfl, hlt, p'⟩, fun v H' y => ?_⟩
    obtain ⟨T, x, rfl, nT, rfl, fx⟩ := y
    exact hs i x T σ H _ (fx xs q) p nT (Same.upd nT) rfl
  · have e : i = xs.length := by omega
    subst e
    exact .inl ⟨⟨xs, q, Nat.le_refl _⟩, hd σ H p⟩
end
/-! ### comprehensions -/
section
variable {K : PySem.W.Frag} {σ : L2.St} {H H1 : Hp} {te : TE} {tt : TT} {g : TG} {a D : Addr} {xs : List V} {wi : TI} {vs : List Nat} {Q : VK} {Qd : Hp → Prop}
theorem i_lc (h : wi σ H fun J H1 => ∀ D, H1 D = none → ∃ W : Nat → Nat → Hp → Prop, (∃ m, W 0 m (upd H1 D (.lst []))) ∧ ∀ i m H, W i m H →
  (J.stop i H ∧ Q (.ref D) H) ∨ (J.go i H ∧ ∃ Nx : Hp → Prop, (∀ H', Nx H' → ∃ m', m' < m ∧ W (i + 1) m' H') ∧ ∀ x H', J.yld i H x H' → g x (wipe σ vs) H' fun σ2 H2 => wipe σ2 vs = wipe σ vs ∧ tt σ2 H2 fun b H3 =>
    if b = true then te σ2 H3 fun y H4 => ∃ acc, H4 D = some (.lst acc) ∧ acc.length < sizeLine ∧ Nx (upd H4 D (.lst (acc ++ [y]))) else Nx H3)) : tLc wi g tt te vs σ H Q := h
theorem take_snoc {α : Type} {l : List α} {i : Nat} {x : α} (h : l[i]? = some x) : l.take (i + 1) = l.take i ++ [x] := by
  rw [List.take_add_one, h]; rfl
/-- what is told of tuples stays -/
def SameT (K : PySem.W.Frag) (H H' : Hp) : Prop := ∀ p xs, SqT K H p xs → SqT K H' p xs
theorem smT {K : PySem.W.Frag} {H H' : Hp} (e : Same H H') : SameT K H H' := fun _ _ h => Same.t e h
theorem sameT_lst {K : PySem.W.Frag} {H : Hp} {D : Addr} {ys zs : List V} (h : H D = some (.lst ys)) : SameT K H (upd H D (.lst zs)) := fun p xs q => by
  rcases q with (q | ⟨o, q⟩) | q
  · exact .inl (.inl (by rw [upd_ne (ne_of q h (by intro z; cases z))]; exact q))
  · exact .inl (.inr ⟨o, by rw [upd_ne (ne_of q h (by intro z; cases z))]; exact q⟩)
  · exact .inr q
theorem i_yes {QT : Bool → Hp → Prop} (h : QT true H) : tYes σ H QT := h
/-- an iterator that yields xs, one by one, as long as ok holds -/
structure Sqn (J : It) (xs : List V) (ok : Hp → Prop) : Prop where
  go : ∀ i x H, ok H → xs[i]? = some x → J.go i H
  yld : ∀ i x H H', ok H → J.yld i H x H' → H' = H ∧ xs[i]? = some x
  stop : ∀ i H, ok H → xs.length ≤ i → J.stop i H
theorem sqn_l : Sqn (Itl K a) xs (fun H => SqL K H a xs) := ⟨fun i x H h e => ⟨xs, x, h, e⟩, fun i x H H' h y => ⟨y.1, y.2 xs h⟩, fun i H h l => ⟨xs, h, l⟩⟩
theorem sqn_t : Sqn (Itt K a) xs (fun H => SqT K H a xs) := ⟨fun i x H h e => ⟨xs, x, h, e⟩, fun i x H H' h y => ⟨y.1, y.2 xs h⟩, fun i H h l => ⟨xs, h, l⟩⟩
theorem lc_seq {J : It} {ok : Hp → Prop} (S : Sqn J xs ok) (Pv : Nat → Hp → Prop) (h0 : Pv 0 (upd H1 D (.lst []))) (hl : ∀ i H, Pv i H → ok H)
    (hs : ∀ i x H, xs[i]? = some x → Pv i H → g x (wipe σ vs) H fun σ2 H2 => wipe σ2 vs = wipe σ vs ∧ tt σ2 H2 fun b H3 =>
      if b = true then te σ2 H3 fun y H4 => ∃ acc, H4 D = some (.lst acc) ∧ acc.length < sizeLine ∧ Pv (i + 1) (upd H4 D (.lst (acc ++ [y]))) else Pv (i + 1) H3) (hd : ∀ H, Pv xs.length H → Qd H) :
    ∃ W : Nat → Nat → Hp → Prop, (∃ m, W 0 m (upd H1 D (.lst []))) ∧ ∀ i m H, W i m H →
      (J.stop i H ∧ Qd H) ∨ (J.go i H ∧ ∃ Nx : Hp → Prop, (∀ H', Nx H' → ∃ m', m' < m ∧ W (i + 1) m' H') ∧ ∀ x H', J.yld i H x H' → g x (wipe σ vs) H' fun σ2 H2 => wipe σ2 vs = wipe σ vs ∧ tt σ2 H2 fun b H3 =>
        if b = true then te σ2 H3 fun y H4 => ∃ acc, H4 D = some (.lst acc) ∧ acc.length < sizeLine ∧ Nx (upd H4 D (.lst (acc ++ [y]))) else Nx H3) := by
  refine ⟨fun i m H => m = xs.length - i ∧ i ≤ xs.length ∧ Pv i H, ⟨xs.length, rfl, Nat.zero_le _, h0⟩, ?_⟩
  rintro i m H ⟨rfl, hi, p⟩
  have q := hl i H p
  by_cases hlt : i < xs.length
  · refine .inr ⟨S.go i _ H q (List.getElem?_eq_getElem hlt), Pv (i + 1), fun H' p' => ⟨xs.length - (i + 1), by omega, rfl, hlt, p'⟩, fun x H' y => ?_⟩
    obtain ⟨e, hx⟩ := S.yld i x H H' q y
    rw [e]
    exact hs i x _ hx p
  · have e : i = xs.length := by omega
    subst e
    exact .inl ⟨S.stop _ H q (Nat.le_refl _), hd H p⟩
/-- [e for x in xs]: each item gives one, R tells which -/
theorem lc_map (R : Nat → V → Hp → Prop) (mono : ∀ {i : Nat} {y : V} {H H' : Hp}, SameT K H H' → R i y H → R i y H') {J : It} {ok : Hp → Prop} (S : Sqn J xs ok) (hs : ∀ H, Same H1 H → ok H) (hz : xs.length < 100000) (hD : H1 D = none)
    (turn : ∀ (i : Nat) (x : V) (H : Hp) (Qc : VK) (Qn : Hp → Prop), xs[i]? = some x → Same H1 H → (∀ y H', Same H H' → R i y H' → Qc y H') → g x (wipe σ vs) H fun σ2 H2 => wipe σ2 vs = wipe σ vs ∧ tYes σ2 H2 fun b H3 => if b = true then te σ2 H3 Qc else Qn H3)
    (hd : ∀ ys H, Same H1 H → H D = some (.lst ys) → ys.length = xs.length → (∀ (i : Nat) (y : V), ys[i]? = some y → R i y H) → Qd H) :
    ∃ W : Nat → Nat → Hp → Prop, (∃ m, W 0 m (upd H1 D (.lst []))) ∧ ∀ i m H, W i m H →
      (J.stop i H ∧ Qd H) ∨ (J.go i H ∧ ∃ Nx : Hp → Prop, (∀ H', Nx H' → ∃ m', m' < m ∧ W (i + 1) m' H') ∧ ∀ x H', J.yld i H x H' → g x (wipe σ vs) H' fun σ2 H2 => wipe σ2 vs = wipe σ vs ∧ tYes σ2 H2 fun b H3 =>
        if b = true then te σ2 H3 fun y H4 => ∃ acc, H4 D = some (.lst acc) ∧ acc.length < sizeLine ∧ Nx (upd H4 D (.lst (acc ++ [y]))) else Nx H3) := by
  refine lc_seq S (fun i H => Same H1 H ∧ ∃ ys, H D = some (.lst ys) ∧ ys.length = i ∧ i ≤ xs.length ∧ ∀ (j : Nat) (y : V), ys[j]? = some y → R j y H) ?_ ?_ ?_ ?_
  · exact ⟨Same.upd hD, [], upd_same, rfl, Nat.zero_le _, fun j y h => by simp at h⟩
  · rintro i H ⟨s, _⟩
    exact hs H s
  · rintro i x H hx ⟨s, ys, hy, hl, hi, hR⟩
    refine turn i x H _ _ hx s fun y H' s' r => ?_
    have hi' : i < xs.length := (List.getElem?_eq_some_iff.mp hx).1
    have hy' := s' _ _ hy
    refine ⟨ys, hy', sz_lt (by omega), Same.mut (s.trans s') hD, ys ++ [y], upd_same, by rw [List.length_append, hl]; rfl, hi', fun j u hu => ?_⟩
    have up : SameT K H' (upd H' D (.lst (ys ++ [y]))) := sameT_lst hy'
    by_cases hj : j < ys.length
    · rw [List.getElem?_append_left hj] at hu
      exact mono up (mono (smT s') (hR j u hu))
    · have ej : j = i := by
        have h1 := (List.getElem?_eq_some_iff.mp hu).1
        rw [List.length_append] at h1
        simp at h1
        omega
      subst ej
      rw [List.getElem?_append_right (by omega), hl, Nat.sub_self] at hu
      have e2 : y = u := Option.some.inj hu
      subst e2
      exact mono up r
  · rintro H ⟨s, ys, hy, hl, _, hR⟩
    exact hd ys H s hy hl hR
/-- [f(x) for x in xs if p(x)] -/
theorem lc_fm (p : V → Bool) (f : V → V) {J : It} {ok : Hp → Prop} (S : Sqn J xs ok) (hs : ∀ H, Same H1 H → ok H) (hz : xs.length < 100000) (hD : H1 D = none)
    (turn : ∀ (i : Nat) (x : V) (H : Hp) (Qc : VK) (Qn : Hp → Prop), xs[i]? = some x → Same H1 H → (p x = true → ∀ H', Same H H' → Qc (f x) H') → (p x = false → ∀ H', Same H H' → Qn H') → g x (wipe σ vs) H fun σ2 H2 => wipe σ2 vs = wipe σ vs ∧ tt σ2 H2 fun b H3 => if b = true then te σ2 H3 Qc else Qn H3)
    (hd : ∀ H, Same H1 H → H D = some (.lst ((xs.filter p).map f)) → Qd H) :
    ∃ W : Nat → Nat → Hp → Prop, (∃ m, W 0 m (upd H1 D (.lst []))) ∧ ∀ i m H, W i m H →
      (J.stop i H ∧ Qd H) ∨ (J.go i H ∧ ∃ Nx : Hp → Prop, (∀ H', Nx H' → ∃ m', m' < m ∧ W (i + 1) m' H') ∧ ∀ x H', J.yld i H x H' → g x (wipe σ vs) H' fun σ2 H2 => wipe σ2 vs = wipe σ vs ∧ tt σ2 H2 fun b H3 =>
        if b = true then te σ2 H3 fun y H4 => ∃ acc, H4 D = some (.lst acc) ∧ acc.length < sizeLine ∧ Nx (upd H4 D (.lst (acc ++ [y]))) else Nx H3) := by
  refine lc_seq S (fun i H => Same H1 H ∧ i ≤ xs.length ∧ H D = some (.lst (((xs.take i).filter p).map f))) ?_ ?_ ?_ ?_
  · exact ⟨Same.upd hD, Nat.zero_le _, upd_same⟩
  · rintro i H ⟨s, _⟩
    exact hs H s
  · rintro i x H hx ⟨s, hi, hy⟩
    have hi' : i < xs.length := (List.getElem?_eq_some_iff.mp hx).1
    have hl : (((xs.take i).filter p).map f).length < 100000 := by
      rw [List.length_map]
      have h1 := List.length_filter_le p (xs.take i)
      rw [List.length_take] at h1
      omega
    refine turn i x H _ _ hx s (fun hp H' s' => ⟨_, s' _ _ hy, sz_lt hl, Same.mut (s.trans s') hD, hi', ?_⟩) (fun hp H' s' => ⟨s.trans s', hi', ?_⟩)
    · rw [take_snoc hx, List.filter_append, List.map_append, List.filter_cons_of_pos hp]
      exact upd_same
    · rw [take_snoc hx, List.filter_append, List.map_append, List.filter_cons_of_neg (by rw [hp]; decide)]
      have e := s' _ _ hy
      rw [e]
      simp
  · rintro H ⟨s, _, hy⟩
    rw [List.take_length] at hy
    exact hd H s hy
end
/-- a list of Trues -/
theorem all_true {ys : List V} {n : Nat} (hl : ys.length = n) (h : ∀ (i : Nat) (y : V), ys[i]? = some y → y = .bl true) : ys = (List.replicate n true).map V.bl := by
  rw [List.map_replicate]
  exact List.eq_replicate_iff.mpr ⟨hl, fun y hy => by
    obtain ⟨i, hi, e⟩ := List.getElem_of_mem hy
    exact h i y (by rw [List.getElem?_eq_getElem hi, e])⟩
/-! ### isinstance, things, pairs -/
section
variable {K : PySem.W.Frag} {σ : L2.St} {H H' : Hp} {Q : VK} {x v : V} {a p : Addr} {xs ys : List V} {m l : Int} {c b : Bool}
theorem i_eqI (h : Q (.bl (decide (m = l))) H) : rEq (.int m) (.int l) H Q := ⟨rfl, by
  have e : decide (V.int m = V.int l) = decide (m = l) := by
    by_cases h : m = l
    · subst h; simp
    · rw [decide_eq_false h, decide_eq_false (fun q => h (V.int.inj q))]
  rw [e]; exact h⟩
theorem i_neI (h : Q (.bl (!decide (m = l))) H) : rNe (.int m) (.int l) H Q := ⟨rfl, by
  have e : decide (V.int m = V.int l) = decide (m = l) := by
    by_cases h : m = l
    · subst h; simp
    · rw [decide_eq_false h, decide_eq_false (fun q => h (V.int.inj q))]
  rw [e]; exact h⟩
theorem i_isi {T : String} {y : String} {r : Bool} (ty : TyX K H x (.type T)) (kb : kitB T y = some r) (h : Q (.bl r) H) : rIsi K [x, .ty y] H Q := ⟨x, .ty y, .type T, .type y, r, rfl, .ty y, ty, kit_ty kb, h⟩
theorem ty_int : TyX K H (.int m) (.type "int") := .base (.int m)
theorem ty_list (h : H p = some (.lst xs)) : TyX K H (.ref p) (.type "list") := .base (.lst h)
theorem ty_sqL (h : SqL K H p xs) : TyX K H (.ref p) (.type "list") := by
  rcases h with (h | ⟨o, h⟩) | ⟨o, its, n, h1, h2, _⟩
  · exact .base (.lst h)
  · exact .base (.frz h)
  · exact .kList h1 h2
theorem ty_sqT (h : SqT K H p xs) : TyX K H (.ref p) (.type "tuple") := by
  rcases h with (h | ⟨o, h⟩) | ⟨o, its, n, h1, h2, _⟩
  · exact .base (.tup h)
  · exact .fTuple h
  · exact .kTuple h1 h2
/-- v is a tuple of these three lengths -/
def IsT (K : PySem.W.Frag) (H : Hp) (v : V) (t : T3) : Prop := ∃ p, v = .ref p ∧ SqT K H p [.int t.1, .int t.2.1, .int t.2.2]
/-- v is a pair of whole numbers -/
def IsP (K : PySem.W.Frag) (H : Hp) (v : V) (t : Int × Int) : Prop := ∃ p, v = .ref p ∧ SqT K H p [.int t.1, .int t.2]
theorem IsT.mono {t : T3} (e : SameT K H H') (h : IsT K H v t) : IsT K H' v t := let ⟨p, e1, h1⟩ := h; ⟨p, e1, e _ _ h1⟩
theorem IsP.mono {t : Int × Int} (e : SameT K H H') (h : IsP K H v t) : IsP K H' v t := let ⟨p, e1, h1⟩ := h; ⟨p, e1, e _ _ h1⟩
/-- item by item -/
structure All2 {α β : Type} (R : α → β → Prop) (xs : List α) (ys : List β) : Prop where
  len : xs.length = ys.length
  get : ∀ (i : Nat) (x : α) (y : β), xs[i]? = some x → ys[i]? = some y → R x y
theorem All2.mono {α β : Type} {R R' : α → β → Prop} {xs : List α} {ys : List β} (f : ∀ x y, R x y → R' x y) (h : All2 R xs ys) : All2 R' xs ys := ⟨h.len, fun i x y a b => f x y (h.get i x y a b)⟩
theorem All2.nil {α β : Type} {R : α → β → Prop} : All2 R [] [] := ⟨rfl, fun i x y h => by simp at h⟩
theorem All2.at_ {α β : Type} {R : α → β → Prop} {xs : List α} {ys : List β} (h : All2 R xs ys) {i : Nat} {y : β} (e : ys[i]? = some y) : ∃ x, xs[i]? = some x ∧ R x y := by
  have hi : i < xs.length := by rw [h.len]; exact (List.getElem?_eq_some_iff.mp e).1
  exact ⟨xs[i], List.getElem?_eq_getElem hi, h.get i _ _ (List.getElem?_eq_getElem hi) e⟩
theorem All2.at' {α β : Type} {R : α → β → Prop} {xs : List α} {ys : List β} (h : All2 R xs ys) {i : Nat} {x : α} (e : xs[i]? = some x) : ∃ y, ys[i]? = some y ∧ R x y := by
  have hi : i < ys.length := by rw [← h.len]; exact (List.getElem?_eq_some_iff.mp e).1
  exact ⟨ys[i], List.getElem?_eq_getElem hi, h.get i _ _ e (List.getElem?_eq_getElem hi)⟩
theorem All2.snoc {α β : Type} {R : α → β → Prop} {xs : List α} {ys : List β} {x : α} {y : β} (h : All2 R xs ys) (r : R x y) : All2 R (xs ++ [x]) (ys ++ [y]) := by
  refine ⟨by rw [List.length_append, List.length_append, h.len]; rfl, fun i z u h1 h2 => ?_⟩
  by_cases hi : i < xs.length
  · rw [List.getElem?_append_left hi] at h1
    rw [List.getElem?_append_left (by rw [← h.len]; exact hi)] at h2
    exact h.get i z u h1 h2
  · have k1 := (List.getElem?_eq_some_iff.mp h1).1
    rw [List.length_append, List.length_singleton] at k1
    have e : i = xs.length := by omega
    subst e
    rw [List.getElem?_append_right (Nat.le_refl _), Nat.sub_self] at h1
    rw [List.getElem?_append_right (by rw [h.len]; exact Nat.le_refl _), h.len, Nat.sub_self] at h2
    cases h1
    cases h2
    exact r
theorem All2.set {α β : Type} {R : α → β → Prop} {xs : List α} {ys : List β} {x : α} {y : β} {k : Nat} (h : All2 R xs ys) (r : R x y) : All2 R (xs.set k x) (ys.set k y) := by
  refine ⟨by rw [List.length_set, List.length_set, h.len], fun i z u h1 h2 => ?_⟩
  by_cases hi : k = i
  · subst hi
    rw [List.getElem?_set] at h1 h2
    rw [if_pos rfl] at h1 h2
    split at h1
    · split at h2
      · cases h1; cases h2; exact r
      · cases h2
    · cases h1
  · rw [List.getElem?_set_ne hi] at h1 h2
    exact h.get i z u h1 h2
theorem All2.rep {α β : Type} {R : α → β → Prop} {x : α} {y : β} (n : Nat) (r : R x y) : All2 R (List.replicate n x) (List.replicate n y) := by
  refine ⟨by rw [List.length_replicate, List.length_replicate], fun i z u h1 h2 => ?_⟩
  have hi : i < n := by
    have := (List.getElem?_eq_some_iff.mp h1).1
    rwa [List.length_replicate] at this
  rw [List.getElem?_replicate, if_pos hi] at h1 h2
  cases h1
  cases h2
  exact r
theorem All2.take {α β : Type} {R : α → β → Prop} {xs : List α} {ys : List β} (h : All2 R xs ys) (n : Nat) : All2 R (xs.take n) (ys.take n) := by
  refine ⟨by rw [List.length_take, List.length_take, h.len], fun i x y h1 h2 => ?_⟩
  rw [List.getElem?_take] at h1 h2
  split at h1
  · exact h.get i x y h1 (by rw [if_pos (by assumption)] at h2; exact h2)
  · cases h1
theorem All2.drop {α β : Type} {R : α → β → Prop} {xs : List α} {ys : List β} (h : All2 R xs ys) (n : Nat) : All2 R (xs.drop n) (ys.drop n) := by
  refine ⟨by rw [List.length_drop, List.length_drop, h.len], fun i x y h1 h2 => ?_⟩
  rw [List.getElem?_drop] at h1 h2
  exact h.get _ x y h1 h2
theorem All2.app {α β : Type} {R : α → β → Prop} {xs xs' : List α} {ys ys' : List β} (h : All2 R xs ys) (h' : All2 R xs' ys') : All2 R (xs ++ xs') (ys ++ ys') := by
  refine ⟨by rw [List.length_append, List.length_append, h.len, h'.len], fun i x y h1 h2 => ?_⟩
  by_cases hi : i < xs.length
  · rw [List.getElem?_append_left hi] at h1
    rw [List.getElem?_append_left (by rw [← h.len]; exact hi)] at h2
    exact h.get i x y h1 h2
  · rw [List.getElem?_append_right (by omega)] at h1
    rw [List.getElem?_append_right (by rw [← h.len]; omega), ← h.len] at h2
    exact h'.get _ x y h1 h2
theorem All2.rev {α β : Type} {R : α → β → Prop} {xs : List α} {ys : List β} (h : All2 R xs ys) : All2 R xs.reverse ys.reverse := by
  refine ⟨by rw [List.length_reverse, List.length_reverse, h.len], fun i x y h1 h2 => ?_⟩
  have hi : i < xs.length := by
    have := (List.getElem?_eq_some_iff.mp h1).1
    rwa [List.length_reverse] at this
  rw [List.getElem?_reverse hi] at h1
  rw [List.getElem?_reverse (by rw [← h.len]; exact hi), ← h.len] at h2
  exact h.get _ x y h1 h2
abbrev ThL (K : PySem.W.Frag) (H : Hp) (vs : List V) (ts : List T3) : Prop := All2 (IsT K H) vs ts
abbrev PrL (K : PySem.W.Frag) (H : Hp) (vs : List V) (ps : List (Int × Int)) : Prop := All2 (IsP K H) vs ps
theorem ThL.mono {ts : List T3} (e : SameT K H H') (h : ThL K H xs ts) : ThL K H' xs ts := All2.mono (fun _ _ r => r.mono e) h
theorem PrL.mono {ps : List (Int × Int)} (e : SameT K H H') (h : PrL K H xs ps) : PrL K H' xs ps := All2.mono (fun _ _ r => r.mono e) h
/-- at a stands a list of things -/
def Things (K : PySem.W.Frag) (H : Hp) (a : Addr) (ts : List T3) : Prop := ∃ vs, SqL K H a vs ∧ ThL K H vs ts
theorem Things.mono {ts : List T3} (e : Same H H') (h : Things K H a ts) : Things K H' a ts := let ⟨vs, h1, h2⟩ := h; ⟨vs, e.seq h1, ThL.mono (smT e) h2⟩
theorem Things.at_ {ts : List T3} {k : Nat} {t : T3} (h : Things K H a ts) (e : ts[k]? = some t) : ∃ vs p, SqL K H a vs ∧ atI vs (k : Int) = some (.ref p) ∧ SqT K H p [.int t.1, .int t.2.1, .int t.2.2] := by
  obtain ⟨vs, h1, h2⟩ := h
  obtain ⟨x, ex, p, rfl, hp⟩ := h2.at_ e
  exact ⟨vs, p, h1, atI_nat ex, hp⟩
/-- things[k] -/
theorem i_thing {ts : List T3} {k : Nat} {t : T3} (h : Things K H a ts) (e : ts[k]? = some t) (q : ∀ p, SqT K H p [.int t.1, .int t.2.1, .int t.2.2] → Q (.ref p) H) : rIxL K (.ref a) (.int (k : Int)) H Q := by
  obtain ⟨vs, p, h1, h2, h3⟩ := h.at_ e
  exact i_ixL h1 h2 (q p h3)
theorem zs_at {os : List Nat} {i : Nat} {x : V} (h : ((zs os).map V.int)[i]? = some x) : ∃ k, os[i]? = some k ∧ x = .int (k : Int) := by
  unfold zs at h
  rw [List.map_map, List.getElem?_map] at h
  cases e : os[i]? with
  | none => rw [e] at h; cases h
  | some k => rw [e] at h; exact ⟨k, rfl, (Option.some.inj h).symm⟩
theorem zs_len' (os : List Nat) : ((zs os).map V.int).length = os.length := by rw [List.length_map, zs_len]
end
/-! ### calls of built-ins, their relations by names -/
def rLenB (K : PySem.W.Frag) : List V → Hp → VK → Prop := fun xs H Q => ∃ p ys, xs = [.ref p] ∧ (SqL K H p ys ∨ SqT K H p ys) ∧ Q (.int ys.length) H
def rMax2 : List V → Hp → VK → Prop := fun xs H Q => ∃ i j, xs = [.int i, .int j] ∧ Q (.int (if j > i then j else i)) H
def rListB (K : PySem.W.Frag) : List V → Hp → VK → Prop := fun xs H Q => ∃ p ys, xs = [.ref p] ∧ (SqL K H p ys ∨ SqT K H p ys) ∧ ∀ l, H l = none → Q (.ref l) (upd H l (.lst ys))
def rIns : V → List V → Hp → VK → Prop := fun x vs H Q => ∃ (l : Addr) (xs : List V) (i : Int) (y : V), x = .ref l ∧ vs = [.int i, y] ∧ H l = some (.lst xs) ∧ xs.length < sizeLine ∧ 0 ≤ i ∧ i < 2 ^ 63 ∧ Q .non (upd H l (.lst (xs.take i.toNat ++ [y] ++ xs.drop i.toNat)))
section
variable {X : Cx}
theorem cb_len : CallR X (.builtin "len") (rLenB X.K) := call_len_seq
theorem cb_max2 (hc : X.calm = true) : CallR X (.builtin "max") rMax2 := call_max2 hc
theorem cb_list : CallR X (.type "list") (rListB X.K) := call_list_of
theorem mt_ins : MtR X "list.insert" rIns := mt_insert
end
section
variable {K : PySem.W.Frag} {H : Hp} {Q : VK} {a p : Addr} {xs : List V} {v : V} {m l : Int} {n : Nat}
theorem i_lenL (hs : SqL K H p xs) (h : Q (.int xs.length) H) : rLenB K [.ref p] H Q := ⟨p, xs, rfl, .inl hs, h⟩
theorem i_lenT (hs : SqT K H p xs) (h : Q (.int xs.length) H) : rLenB K [.ref p] H Q := ⟨p, xs, rfl, .inr hs, h⟩
theorem i_lenThings {ts : List T3} (hT : Things K H a ts) (h : Q (.int ts.length) H) : rLenB K [.ref a] H Q := by
  obtain ⟨vs, h1, h2⟩ := hT
  exact ⟨a, vs, rfl, .inl h1, by rw [h2.len]; exact h⟩
theorem i_max2 (h : Q (.int (gr m l)) H) : rMax2 [.int m, .int l] H Q := ⟨m, l, rfl, h⟩
theorem i_listL (hs : SqL K H p xs) (h : ∀ l H', H l = none → Same H H' → H' l = some (.lst xs) → Q (.ref l) H') : rListB K [.ref p] H Q := ⟨p, xs, rfl, .inl hs, i_new h⟩
theorem i_ins {i : Nat} (hp : H p = some (.lst xs)) (hz : xs.length < 100000) (e : m = (i : Int)) (hi : i ≤ 100000) (h : Q .non (upd H p (.lst (xs.take i ++ [v] ++ xs.drop i)))) : rIns (.ref p) [.int m, v] H Q := by
  subst e
  exact ⟨p, xs, _, v, rfl, rfl, hp, sz_lt hz, by omega, by omega, h⟩
theorem i_all {bs : List Bool} (hs : SqL K H a (bs.map V.bl)) (h : Q (.bl (bs.all id)) H) : rAll K [.ref a] H Q := ⟨a, bs, rfl, hs, h⟩
theorem i_any {bs : List Bool} (hs : SqL K H a (bs.map V.bl)) (h : Q (.bl (bs.any id)) H) : rAny K [.ref a] H Q := ⟨a, bs, rfl, hs, h⟩
theorem i_sum {ns : List Int} (hs : SqL K H a (ns.map V.int)) (h : Q (.int ns.sum) H) : rSum K [.ref a] H Q := ⟨a, ns, rfl, hs, h⟩
theorem i_allT {n : Nat} (hs : H a = some (.lst ((List.replicate n true).map V.bl))) (h : Q (.bl true) H) : rAll K [.ref a] H Q := i_all (bs := List.replicate n true) (SqL.of hs) (by
  have e : (List.replicate n true).all id = true := List.all_eq_true.mpr fun b hb => (List.mem_replicate.mp hb).2
  rw [e]; exact h)
/-- sorted of whole numbers -/
theorem i_sortI {ns : List Int} (hs : SqL K H a (ns.map V.int)) (h : ∀ (ns' : List Int) (p : Addr) (H' : Hp), ns'.Perm ns → ns'.Pairwise (· ≤ ·) → H p = none → Same H H' → H' p = some (.lst (ns'.map V.int)) → Q (.ref p) H') : rSortedI K [.ref a] H Q :=
  ⟨a, ns, rfl, hs, fun ns' p h1 h2 np => h ns' p _ h1 h2 np (Same.upd np) upd_same⟩
/-- list(range(n)) -/
def kRg (Q : VK) : VK := fun x H1 => ∃ m, x = .int m ∧ RgOk 0 m ∧ ∀ q, H1 q = none → Q (.ref q) (upd H1 q (.lst (rgV 0 m)))
theorem i_listRg {te : TE} {σ : L2.St} (h : te σ H (kRg Q)) : tLstRg (tRg1 te) σ H Q := h
theorem i_rg (e : m = (n : Int)) (hn : n ≤ 100000) (h : ∀ q H', H q = none → Same H H' → H' q = some (.lst ((rg n).map V.int)) → Q (.ref q) H') : kRg Q (.int m) H := by
  subst e
  refine ⟨(n : Int), rfl, RgOk.of_le (by omega) (by omega) (by omega) (by omega), fun q hq => h q _ hq (Same.upd hq) ?_⟩
  have e : rgV 0 (n : Int) = (rg n).map V.int := by
    unfold rgV rg zs
    rw [List.map_map]
    have e1 : ((n : Int) - 0).toNat = n := by omega
    rw [e1]
    refine List.map_congr_left fun k _ => ?_
    show V.int (0 + (k : Int)) = V.int (k : Int)
    rw [Int.zero_add]
  rw [e]
  exact upd_same
/-- == and != of data -/
theorem i_eqD {x y : V} {d e : PyData} (h1 : Dp K H x d) (h2 : Dp K H y e) (s1 : SeqAt.shaped d = true) (s2 : SeqAt.shaped e = true) (h : Q (.bl (PyData.eqv d e)) H) : rEqD K x y H Q := ⟨d, e, h1, h2, s1, s2, h⟩
theorem i_neD {x y : V} {d e : PyData} (h1 : Dp K H x d) (h2 : Dp K H y e) (s1 : SeqAt.shaped d = true) (s2 : SeqAt.shaped e = true) (h : Q (.bl (!PyData.eqv d e)) H) : rNeD K x y H Q := ⟨d, e, h1, h2, s1, s2, h⟩
end
/-! ### data: lists of whole numbers, lists of tuples of such -/
def sOk (n : Nat) (d : PyData) : Prop := d.canLay0 = true ∧ d.depth ≤ n
theorem sok_all {n : Nat} : ∀ {ds : List PyData}, (∀ x ∈ ds, sOk n x) → PyData.canLayAll0 ds = true ∧ PyData.depthAll ds ≤ n
  | [], _ => ⟨by simp [PyData.canLayAll0], by simp [PyData.depthAll]⟩
  | d :: ds, h => by
    have h1 := h d List.mem_cons_self
    have h2 := sok_all fun x hx => h x (List.mem_cons_of_mem d hx)
    refine ⟨?_, ?_⟩
    · rw [PyData.canLayAll0, h1.1, h2.1]; rfl
    · rw [PyData.depthAll]
      exact Nat.max_le.mpr ⟨h1.2, h2.2⟩
theorem sok_list {n : Nat} {ds : List PyData} (h : ∀ x ∈ ds, sOk n x) : sOk (n + 1) (.list ds) := by
  have h2 := sok_all h
  exact ⟨by rw [PyData.canLay0]; exact h2.1, by rw [PyData.depth]; exact Nat.succ_le_succ h2.2⟩
theorem sok_tup {n : Nat} {ds : List PyData} (h : ∀ x ∈ ds, sOk n x) : sOk (n + 1) (.tuple ds) := by
  have h2 := sok_all h
  exact ⟨by rw [PyData.canLay0]; exact h2.1, by rw [PyData.depth]; exact Nat.succ_le_succ h2.2⟩
theorem sok_int (n : Nat) (i : Int) : sOk n (.int i) := ⟨rfl, Nat.zero_le _⟩
theorem sok_shaped {n : Nat} {d : PyData} (h : sOk n d) (hn : n ≤ 64) : SeqAt.shaped d = true := by
  unfold SeqAt.shaped
  rw [h.1, Bool.true_and, decide_eq_true_eq]
  exact Nat.le_trans h.2 hn
theorem eqv_map {α : Type} [DecidableEq α] (f : α → PyData) (hf : ∀ x y, PyData.eqv (f x) (f y) = decide (x = y)) : ∀ a b : List α, PyData.eqvAll (a.map f) (b.map f) = decide (a = b)
  | [], [] => by simp [PyData.eqvAll]
  | [], _ :: _ => by simp [PyData.eqvAll]
  | _ :: _, [] => by simp [PyData.eqvAll]
  | x :: a, y :: b => by
    rw [List.map_cons, List.map_cons, PyData.eqvAll, hf, eqv_map f hf a b]
    by_cases h : x = y
    · subst h
      simp
    · simp [h]
theorem eqv_int (x y : Int) : PyData.eqv (.int x) (.int y) = decide (x = y) := by
  rw [PyData.eqv]
  exact Bool.beq_eq_decide_eq x y
theorem eqv_list (a b : List PyData) : PyData.eqv (.list a) (.list b) = PyData.eqvAll a b := by rw [PyData.eqv]
theorem eqv_tuple (a b : List PyData) : PyData.eqv (.tuple a) (.tuple b) = PyData.eqvAll a b := by rw [PyData.eqv]
def dI (ns : List Int) : PyData := .list (ns.map PyData.int)
theorem eqv_dI (a b : List Int) : PyData.eqv (dI a) (dI b) = decide (a = b) := by
  unfold dI
  rw [eqv_list, eqv_map _ eqv_int]
theorem sok_dI (ns : List Int) : sOk 1 (dI ns) := sok_list fun x hx => by
  obtain ⟨n, _, rfl⟩ := List.mem_map.mp hx
  exact sok_int 0 n
theorem shaped_dI (ns : List Int) : SeqAt.shaped (dI ns) = true := sok_shaped (sok_dI ns) (by decide)
/-- a triple, a pair as data -/
def d3 (t : T3) : PyData := .tuple [.int t.1, .int t.2.1, .int t.2.2]
def d2 (t : Int × Int) : PyData := .tuple [.int t.1, .int t.2]
theorem eqv_d3 (x y : T3) : PyData.eqv (d3 x) (d3 y) = decide (x = y) := by
  obtain ⟨a, b, c⟩ := x
  obtain ⟨d, e, f⟩ := y
  have h := eqv_map PyData.int eqv_int [a, b, c] [d, e, f]
  show PyData.eqv (.tuple [.int a, .int b, .int c]) (.tuple [.int d, .int e, .int f]) = _
  rw [eqv_tuple]
  refine h.trans ?_
  simp [Prod.mk.injEq]
theorem eqv_d2 (x y : Int × Int) : PyData.eqv (d2 x) (d2 y) = decide (x = y) := by
  obtain ⟨a, b⟩ := x
  obtain ⟨d, e⟩ := y
  have h := eqv_map PyData.int eqv_int [a, b] [d, e]
  show PyData.eqv (.tuple [.int a, .int b]) (.tuple [.int d, .int e]) = _
  rw [eqv_tuple]
  refine h.trans ?_
  simp [Prod.mk.injEq]
def dT (ts : List T3) : PyData := .list (ts.map d3)
def dP (ps : List (Int × Int)) : PyData := .list (ps.map d2)
theorem eqv_dT (a b : List T3) : PyData.eqv (dT a) (dT b) = decide (a = b) := by
  unfold dT
  rw [eqv_list, eqv_map _ eqv_d3]
theorem eqv_dP (a b : List (Int × Int)) : PyData.eqv (dP a) (dP b) = decide (a = b) := by
  unfold dP
  rw [eqv_list, eqv_map _ eqv_d2]
theorem sok_dT (ts : List T3) : sOk 2 (dT ts) := sok_list fun x hx => by
  obtain ⟨t, _, rfl⟩ := List.mem_map.mp hx
  exact sok_tup fun y hy => by
    rcases List.mem_cons.mp hy with rfl | hy
    · exact sok_int 0 _
    · rcases List.mem_cons.mp hy with rfl | hy
      · exact sok_int 0 _
      · rcases List.mem_cons.mp hy with rfl | hy
        · exact sok_int 0 _
        · cases hy
theorem sok_dP (ts : List (Int × Int)) : sOk 2 (dP ts) := sok_list fun x hx => by
  obtain ⟨t, _, rfl⟩ := List.mem_map.mp hx
  exact sok_tup fun y hy => by
    rcases List.mem_cons.mp hy with rfl | hy
    · exact sok_int 0 _
    · rcases List.mem_cons.mp hy with rfl | hy
      · exact sok_int 0 _
      · cases hy
theorem shaped_dT (ts : List T3) : SeqAt.shaped (dT ts) = true := sok_shaped (sok_dT ts) (by decide)
theorem shaped_dP (ts : List (Int × Int)) : SeqAt.shaped (dP ts) = true := sok_shaped (sok_dP ts) (by decide)
section
variable {K : PySem.W.Frag} {H : Hp} {p : Addr} {v : V}
theorem dpAll_ints : ∀ ns : List Int, DpAll K H (ns.map V.int) (ns.map PyData.int)
  | [] => .nil
  | n :: ns => .cons (.int n) (dpAll_ints ns)
theorem dp_ints {ns : List Int} (h : SqL K H p (ns.map V.int)) : Dp K H (.ref p) (dI ns) := .lst h (dpAll_ints ns)
theorem dpAll_of {α : Type} {R : V → α → Prop} {f : α → PyData} (hf : ∀ v x, R v x → Dp K H v (f x)) : ∀ {vs : List V} {xs : List α}, All2 R vs xs → DpAll K H vs (xs.map f)
  | [], [], _ => .nil
  | [], _ :: _, h => absurd h.len (by simp)
  | _ :: _, [], h => absurd h.len (by simp)
  | v :: vs, x :: xs, h => .cons (hf v x (h.get 0 v x rfl rfl)) (dpAll_of hf ⟨by have := h.len; simpa using this, fun i y z h1 h2 => h.get (i + 1) y z (by simpa using h1) (by simpa using h2)⟩)
theorem dp_d3 {t : T3} (h : IsT K H v t) : Dp K H v (d3 t) := by
  obtain ⟨p, rfl, hp⟩ := h
  exact .tup hp (.cons (.int _) (.cons (.int _) (.cons (.int _) .nil)))
theorem dp_d2 {t : Int × Int} (h : IsP K H v t) : Dp K H v (d2 t) := by
  obtain ⟨p, rfl, hp⟩ := h
  exact .tup hp (.cons (.int _) (.cons (.int _) .nil))
theorem dp_things {ts : List T3} (h : Things K H p ts) : Dp K H (.ref p) (dT ts) := by
  obtain ⟨vs, h1, h2⟩ := h
  exact .lst h1 (dpAll_of (f := d3) (fun _ _ => dp_d3) h2)
theorem dp_pairs {vs : List V} {ps : List (Int × Int)} (h1 : SqL K H p vs) (h2 : PrL K H vs ps) : Dp K H (.ref p) (dP ps) := .lst h1 (dpAll_of (f := d2) (fun _ _ => dp_d2) h2)
end
/-! ### more steps -/
def kItc (R : It → Hp → Prop) : List V → Hp → Prop := fun vs H1 => ∃ (i j c : Int) (n : Nat), vs = [.int i, .int j, .int c] ∧ RgC i j c n ∧ R (Itc i c n) H1
def kRev (K : PySem.W.Frag) (Q : VK) : VK := fun x H1 => ∃ a xs, x = .ref a ∧ SqL K H1 a xs ∧ ∀ p, H1 p = none → Q (.ref p) (upd H1 p (.lst xs.reverse))
/-- a statement, then the rest, with a word between them -/
def tMid (t u : TS) : TS := fun D σ H => ∃ M : L2.St → Hp → Prop, t { D with nx := M } σ H ∧ ∀ σ' H', M σ' H' → u D σ' H'
section
variable {X : Cx}
theorem pss_mid {st : Stmt} {rest : List Stmt} {t u : TS} (h1 : PS X st t) (h2 : PSs X rest u) : PSs X (st :: rest) (tMid t u) := by
  refine ⟨fun pins s σ H D I h => ?_⟩
  obtain ⟨M, hm, hu⟩ := h
  refine wpAny_execs_cons (thn (h1.run pins s σ H { D with nx := M } I hm) fun f s1 q => ?_)
  cases f with
  | next =>
    obtain ⟨σ', H', I', q⟩ := q
    exact h2.run pins s1 σ' H' D I' (hu σ' H' q)
  | ret v => exact q
  | brk => exact q
  | cont => exact q
end
section
variable {K : PySem.W.Frag} {σ : L2.St} {H : Hp} {Q : VK} {D : Ends} {te : TE} {ts : TA} {a p q : Addr} {xs ys : List V} {R : It → Hp → Prop} {lo hi : Option Int}
theorem i_iRng3 (h : ts σ H (kItc R)) : iRng3 ts σ H R := h
theorem i_itc {i j c : Int} {n : Nat} (r : RgC i j c n) (h : R (Itc i c n) H) : kItc R [.int i, .int j, .int c] H := ⟨i, j, c, n, rfl, r, h⟩
theorem rg3 {m : Nat} (hm : m ≤ 63) : RgC 0 (m : Int) 3 ((m + 2) / 3) := by
  have k : ∀ m : Fin 64, Builtin.Range.small 0 (m.val : Int) 3 = true ∧ Builtin.Range.rangeSize 0 (m.val : Int) 3 = (((m.val + 2) / 3 : Nat) : Int) := by decide +kernel
  have z := k ⟨m, by omega⟩
  exact ⟨by decide, by decide, z.1, z.2⟩
theorem i_revL (h : te σ H (kRev K Q)) : tRevL K te σ H Q := h
theorem i_revk (hs : SqL K H a xs) (h : ∀ p H', H p = none → Same H H' → H' p = some (.lst xs.reverse) → Q (.ref p) H') : kRev K Q (.ref a) H := ⟨a, xs, rfl, hs, i_new h⟩
theorem i_slL (hs : SqL K H a xs) (h : ∀ p H', H p = none → Same H H' → H' p = some (.lst (cutV xs lo hi)) → Q (.ref p) H') : rSlL K (.ref a) lo hi H Q := ⟨a, xs, rfl, hs, i_new h⟩
theorem i_cat (h1 : H p = some (.lst xs)) (h2 : H q = some (.lst ys)) (hz : xs.length + ys.length ≤ 100000) (h : ∀ r H', H r = none → Same H H' → H' r = some (.lst (xs ++ ys)) → Q (.ref r) H') : rCat (.ref p) (.ref q) H Q := ⟨p, q, xs, ys, rfl, rfl, h1, h2, sz_le hz, i_new h⟩
theorem i_rep {v : V} {n : Nat} {m : Int} (h1 : H p = some (.lst [v])) (e : m = (n : Int)) (hz : n ≤ 100000) (h : ∀ r H', H r = none → Same H H' → H' r = some (.lst (List.replicate n v)) → Q (.ref r) H') : rRep (.ref p) (.int m) H Q := by
  subst e
  refine ⟨p, _, [v], rfl, rfl, h1, by omega, by omega, by rw [List.length_singleton, Int.toNat_natCast, Nat.one_mul]; exact sz_le hz, i_new fun r H' h1 h2 h3 => h r H' h1 h2 ?_⟩
  rw [h3, Int.toNat_natCast, List.flatten_replicate_singleton]
theorem i_mid {t u : TS} (M : L2.St → Hp → Prop) (h1 : t { D with nx := M } σ H) (h2 : ∀ σ' H', M σ' H' → u D σ' H') : tMid t u D σ H := ⟨M, h1, h2⟩
theorem cut_to (xs : List V) (k : Nat) : cutV xs none (some (k : Int)) = xs.take k := by
  unfold cutV
  rw [HT.sIx_none, HT.sIx_nat, List.drop_zero, Nat.sub_zero]
  by_cases h : k ≤ xs.length
  · rw [Nat.min_eq_left h]
  · rw [Nat.min_eq_right (by omega), List.take_length, List.take_of_length_le (by omega)]
theorem cut_from (xs : List V) (k : Nat) : cutV xs (some (k : Int)) none = xs.drop k := by
  unfold cutV
  rw [HT.sIx_none, HT.sIx_nat]
  by_cases h : k ≤ xs.length
  · rw [Nat.min_eq_left h, List.take_of_length_le (by rw [List.length_drop]; exact Nat.le_refl _)]
  · rw [Nat.min_eq_right (by omega), Nat.sub_self, List.take_zero, List.drop_of_length_le (by omega)]
theorem cut_mid (xs : List V) (i j : Nat) (h : i + j ≤ xs.length) : cutV xs (some (i : Int)) (some ((i + j : Nat) : Int)) = (xs.drop i).take j := by
  unfold cutV
  rw [HT.sIx_nat, HT.sIx_nat, Nat.min_eq_left (show i ≤ xs.length by omega), Nat.min_eq_left h, Nat.add_sub_cancel_left]
end
section
variable {σ : L2.St} {H : Hp} {Q : VK} {D : Ends} {t : TS} {g : TG}
theorem i_itdC {c : Prop} [Decidable c] {v1 v2 : V} (h : ∀ v, (v = v1 ∨ v = v2) → Q v H) : if decide c = true then tC v1 σ H Q else tC v2 σ H Q := i_itd (fun _ => h v1 (.inl rfl)) (fun _ => h v2 (.inr rfl))
/-- for k in range(n) -/
theorem for_rng {n : Nat} (Pv : Nat → L2.St → Hp → Prop) (h0 : Pv 0 σ H) (hs : ∀ (i : Nat) σ H, i < n → Pv i σ H → g (.int (i : Int)) σ H fun σ2 H2 => t { D with nx := Pv (i + 1), ct := Pv (i + 1), bk := D.nx } σ2 H2) (hd : ∀ σ H, Pv n σ H → D.nx σ H) :
    ∃ W : Nat → Nat → L2.St → Hp → Prop, (∃ m, W 0 m σ H) ∧ ∀ i m σ H, W i m σ H →
      ((Itr 0 n).stop i H ∧ D.nx σ H) ∨ ((Itr 0 n).go i H ∧ ∃ N : L2.St → Hp → Prop, (∀ σ' H', N σ' H' → ∃ m', m' < m ∧ W (i + 1) m' σ' H') ∧ ∀ x H', (Itr 0 n).yld i H x H' → g x σ H' fun σ2 H2 => t { D with nx := N, ct := N, bk := D.nx } σ2 H2) :=
  for_range (lo := 0) Pv h0 (fun i σ H hi p => by
    have e : (0 : Int) + (i : Int) = (i : Int) := Int.zero_add _
    rw [e]
    exact hs i σ H hi p) hd
theorem log_small {n : Nat} (h : n < 2 ^ 200) : n.log2 < 9000 := by
  by_cases h0 : n = 0
  · subst h0; decide
  · exact Nat.lt_trans ((Nat.log2_lt h0).mpr h) (by decide)
end
end Bp
/-! Benchpair: the set of a list of whole numbers, and such a set sorted, of up to some four thousand members. -/
namespace L2
open PySem PySem.Spec PyProof.Rows
/-- the set object that stands first -/
def bpNew (w : World) : Obj := { cls := .type "set", dict := none, data := .set #[] 0 (.fresh 0 0 (!w.params.followText "set-order")) }
def bpHp (w : World) (h : Heap) : Heap := h.push (bpNew w)
/-- what set.__init__ leaves -/
def BpMade (w : World) (s : Shared) (ns : List Int) (s₂ : Shared) : Prop := ∃ h' tk c, s₂ = { s with heap := h', toks := tk } ∧ SetR w h' s.heap.objs.size (fun j => decide (j ∈ ns)) c ∧ c ≤ ns.length ∧ ∀ b o, s.heap.get? b = some o → h'.get? b = some o
section
variable {P : Program} {w : World} {A : Around} {E : Value → Shared → Prop} {s : Shared}
theorem bp_init {l : Addr} {xs : Array Value} (ns : List Int) (hd : A.handled = none) (hx : s.heap.IsList l xs) (hi : IntsAre xs.toList ns) (room : ns.length + 1 < scanBound) :
    codeAny (model P w) A (.call (.builtin "set.__init__") ⟨[.ref s.heap.objs.size, .ref l], []⟩) (wants (fun r s₂ => r = .none ∧ BpMade w s ns s₂) E) { s with heap := bpHp w s.heap } := by
  have len : xs.size = ns.length := (Array.length_toList (xs := xs)).symm.trans (IntsAre.length hi)
  have me : (bpHp w s.heap).get? s.heap.objs.size = some (bpNew w) := Heap.get?_push_size _ rfl
  have ty : Shared.TypeIs { s with heap := bpHp w s.heap } (.ref s.heap.objs.size) "set" := ⟨_, me, rfl⟩
  refine codeAny_call_builtin F.called_set.init.plain F.entry_set_init (check_set_init_1 ty ?_)
  obtain ⟨o0, g0, k0, n0, d0⟩ := id hx
  obtain ⟨oc, od, oa, os⟩ := o0
  simp only at k0 d0
  subst k0
  subst d0
  have g1 : (bpHp w s.heap).get? l = some { cls := .type "list", dict := od, data := .seq xs n0, slots := os } := Heap.get?_push_of_some _ g0
  have hx1 : (bpHp w s.heap).IsList l xs := ⟨_, g1, rfl, n0, rfl⟩
  have z1 := F.sub_list_set
  have z2 := F.sub_list_frozenset
  have z3 : (Value.type "list" == Value.type "dict") = false := by decide
  unfold Builtin.«set.__init__» noKeywords Builtin.Frozenset.updateFrom
  generalize qq : pyIter = PI
  wp_walk
  subst qq
  refine wpAny_pyIter_list hx1 ?_
  refine wpAny_bind (wpAny_runValue ?_)
  have lts : l < s.heap.objs.size := Heap.lt_size g0
  have hd3 : A.in1.in1.handled = none := by simp [hd]
  have zs : (bpHp w s.heap).objs.size = s.heap.objs.size + 1 := Heap.size_push ..
  have ne1 : l ≠ (bpHp w s.heap).objs.size := by rw [zs]; exact Nat.ne_of_lt (Nat.lt_succ_of_lt lts)
  have out1 : s.heap.objs.size ∉ [(bpHp w s.heap).objs.size, l] := by
    rw [zs]
    intro hm
    rcases List.mem_cons.mp hm with hm | hm
    · exact Nat.ne_of_lt (Nat.lt_succ_self _) hm
    · exact Nat.ne_of_gt lts (List.mem_singleton.mp hm)
  have vals : ∀ (i : Nat) (v : Value), xs[i]? = some v → ∃ k t, ns[i]? = some k ∧ v = .int k t := fun i v hv => by
    have lt : i < ns.length := by rw [← len]; exact (Array.getElem?_eq_some_iff.mp hv).1
    obtain ⟨t, ht⟩ := IntsAre.int_at hi i v ((Array.getElem?_toList (xs := xs)).trans hv)
    refine ⟨ns[i], t, List.getElem?_eq_getElem lt, ht.trans ?_⟩
    rw [List.getD_eq_getElem?_getD, List.getElem?_eq_getElem lt]
    rfl
  refine set_update_ints ((Walks.list hd3 _ l ne1 xs).toS) s.heap.objs.size out1 ns len room vals (xs.size - 0) 0 _ rfl (Nat.zero_le _) ⟨⟨_, Heap.get?_push_size _ rfl, rfl, rfl⟩, hx1.push _⟩ ⟨0, Nat.le_refl 0, setR_new_at (Heap.get?_push_of_some _ me)⟩ fun s' c' hm hc' hS' => ?_
  obtain ⟨h', g', d', tk', os'⟩ := s'
  have q1 : g' = s.gens := hm.gens
  have q2 : d' = s.drawn := hm.drawn
  have q3 : os' = s.os := hm.os
  subst q1
  subst q2
  subst q3
  refine wpAny_pure ?_
  show wpAny _ _ (ret Value.none) _ _ _
  refine wpAny_pure ⟨rfl, h', tk', c', rfl, hS', (by rw [← len]; exact hc'), fun b o e => ?_⟩
  have b0 : b < s.heap.objs.size := Heap.lt_size e
  refine hm.heap b o (fun hb => ?_) (Heap.get?_push_of_some _ (Heap.get?_push_of_some _ e))
  rcases List.mem_cons.mp hb with hb | hb
  · exact Nat.ne_of_lt b0 hb
  · exact Nat.ne_of_lt (Nat.lt_succ_of_lt b0) ((List.mem_singleton.mp hb).trans zs)
theorem bp_set_list {l : Addr} {xs : Array Value} (ns : List Int) {Q : Value → Shared → Prop} (hd : A.handled = none) (hx : s.heap.IsList l xs) (hi : IntsAre xs.toList ns) (room : ns.length + 1 < scanBound)
    (h : ∀ s₂, BpMade w s ns s₂ → Q (.ref s.heap.objs.size) s₂) : wpAny (model P w) A (call (.type "set") [.ref l]) Q E s := by
  obtain ⟨c, tl, hmro⟩ := F.called_set.mro
  have q0 := F.called_set.made
  have q1 := F.called_set.sub
  refine wpAny_call (codeAny_of_tree ?_)
  show wpAny _ _ (callAny (.type "set") _) _ _ _
  refine wpAny_pure ⟨Code.quiet_builtin _ (by decide +kernel), codeAny_builtin F.entry_type_call ?_⟩
  rw [Around.under_plain (weight_type_call_type "set" [.ref l] []) rfl]
  have q2 := F.called_set.notType
  have q3 := F.called_set.canCreate
  have q4 := F.typeCall_set_1 (.ref l)
  repeat (any_goals (first | assumption | wp_step))
  refine codeAny_mono (code_set_led1 (.ref l) (E := E) (Q₁ := fun x s₁ => x = .ref s.heap.objs.size ∧ s₁ = { s with heap := bpHp w s.heap }) ⟨rfl, rfl⟩) fun r s₁ hr => ?_
  cases r with
  | error e => exact hr
  | ok fl =>
    cases fl with
    | ret obj =>
      obtain ⟨rfl, rfl⟩ := hr
      have me : (bpHp w s.heap).get? s.heap.objs.size = some (bpNew w) := Heap.get?_push_size _ rfl
      have ty : Shared.TypeIs { s with heap := bpHp w s.heap } (.ref s.heap.objs.size) "set" := ⟨_, me, rfl⟩
      have i1 := F.called_set.init.lookup
      have i2 := F.called_set.init.bind (.ref s.heap.objs.size)
      repeat (any_goals (first | assumption | wp_step))
      refine codeAny_mono (bp_init (E := E) ns (by simp [hd]) hx hi room) fun r₂ s₂ hr₂ => ?_
      cases r₂ with
      | error e => exact hr₂
      | ok fl₂ =>
        cases fl₂ with
        | ret r =>
          obtain ⟨rfl, hm⟩ := hr₂
          repeat (any_goals (first | assumption | wp_step))
          exact h _ hm
        | _ => exact hr₂.elim
    | _ => exact hr.elim
/-- sorted(set), of any size below the line -/
theorem bp_sorted_set {a : Addr} {S : Int → Bool} {n : Nat} {Q : Value → Shared → Prop} (R : SetR w s.heap a S n) (hd : A.handled = none)
    (q : ∀ s' p (out : List Value) (c : Nat) (ns : List Int), (∀ b o, s.heap.get? b = some o → s'.heap.get? b = some o) → s'.gens = s.gens → s'.os = s.os → s.heap.objs.size ≤ p →
      s'.heap.get? p = some (seqObj "list" out.toArray c) → IntsAre out ns → ns.Pairwise (· < ·) → (∀ k, k ∈ ns ↔ S k = true) → ns.length = n → n < scanBound → Q (.ref p) s') : wpAny (model P w) A (call (.builtin "sorted") [.ref a]) Q E s := by
  obtain ⟨o, es, ep, t, ho, hex, hdt, g, nd, hm, hb, hf, hn, hr, hl⟩ := R
  refine Calls.call_function_entry kind_sorted plain_sorted entry_sorted (args_sorted1 _) ?_
  unfold Builtin.«sorted»
  refine wpAny_bind (m := checkCount "sorted" 1 1 _) (wpAny_pure ?_)
  refine wpAny_bind (collect_set (A := A.in1) hd ⟨o, ho, hex.1, hdt⟩ hf hb hr hl fun s1 vs k1 hz g1 o1 pm => ?_)
  have lv : vs.length = n := (pm.length_eq.trans (by rw [List.length_map, Array.length_toList])).trans hn
  have mem : ∀ v ∈ vs, ∃ k tk, v = Value.int k tk := fun v hv => by
    obtain ⟨e, he, hq⟩ := List.mem_map.mp (pm.mem_iff.mp hv)
    obtain ⟨k, tk, h1, _⟩ := g e he
    exact ⟨k, tk, hq.symm.trans h1⟩
  have hI := SrtO.ints_iv mem
  have pk : (vs.map SrtO.iv).Perm (es.toList.map keyOf) := by
    have z := pm.map SrtO.iv
    rw [List.map_map] at z
    exact z
  have lz : vs.length ≤ sizeLine := by rw [lv, ← hn]; exact fits_of_scanBound hb
  refine wpAny_bind (wpAny_newList ?_ lz)
  have here : (s1.heap.push (seqObj "list" vs.toArray 0)).get? s1.heap.objs.size = some (seqObj "list" vs.toArray 0) := Heap.get?_push_size _ rfl
  refine wpAny_bind (wpAny_holding (wpAny_call_entry slot_list_sort ⟨_, here, rfl⟩ entry_list_sort (SrtO.list_sort_ord SrtO.swo_int here lz (fun h2 => SrtO.ints_sortable hI h2) fun out h1 h2 => ⟨_, rfl, ?_⟩) (args_list_sort _)))
  obtain ⟨a1, a2, a3⟩ := SrtO.ints_out hI h1 h2
  obtain ⟨c, hc⟩ := sortedHeap_at (vs := vs) (out := out.toArray) here
  have pn := a2.trans pk
  refine wpAny_pure ⟨_, rfl, q _ s1.heap.objs.size out c (out.map SrtO.iv) (fun b u e => ?_) g1 o1 hz hc a1 (lt_of_le_nodup _ a3 (pn.nodup_iff.mpr nd)) (fun k => (pn.mem_iff).trans (hm k).symm) ?_ (by rw [← hn]; exact hb)⟩
  · have e1 := k1 b u e
    have lt := Heap.lt_size e1
    exact (sortedHeap_old (Nat.ne_of_lt lt) (by rw [size_push']; exact Nat.lt_succ_of_lt lt)).trans (Heap.get?_push_of_some _ e1)
  · exact (pn.length_eq.trans (by rw [List.length_map, Array.length_toList])).trans hn
end
/-- set(xs) of a list of whole numbers -/
def rSetI (K : PySem.W.Frag) (w : World) : List V → Hp → VK → Prop := fun vs H Q => ∃ (a : Addr) (ns : List Int), vs = [V.ref a] ∧ SqL K H a (ns.map V.int) ∧ ns.length ≤ 1000 ∧
  ∀ (p : Addr) (c : Nat), H p = none → Q (.ref p) (upd H p (SetO w p (fun j => decide (j ∈ ns)) c))
/-- sorted(s) of such a set -/
def rSortS (w : World) : List V → Hp → VK → Prop := fun vs H Q => ∃ (a : Addr) (S : Int → Bool) (n : Nat), vs = [V.ref a] ∧ H a = some (SetO w a S n) ∧
  ∀ (ns : List Int) (p : Addr), ns.Pairwise (· < ·) → (∀ k : Int, k ∈ ns ↔ S k = true) → H p = none → Q (.ref p) (upd H p (.lst (ns.map V.int)))
section
variable {X : Cx}
theorem cr_setI (hc : X.calm = true) : CallR X (.type "set") (rSetI X.K X.w) := by
  intro pins s σ H vs us Q I r h
  obtain ⟨a, ns, rfl, hs, lz, q⟩ := h
  obtain ⟨its, rv, hl, hz⟩ := I.list hs
  rw [Vals.ref1 r]
  refine bp_set_list ns (I.ok.hd hc) hl.isList (by simpa using rv.ints) (by unfold scanBound; omega) fun s₂ hm => ?_
  obtain ⟨h', tk, c, rfl, R, _, k⟩ := hm
  exact ⟨.ref _, upd H s.heap.objs.size (SetO X.w s.heap.objs.size (fun j => decide (j ∈ ns)) c), I.laid (t' := tk) k (Nat.le_refl _) (setO_new R), rfl, q _ c (I.hok.fresh (Nat.le_refl _))⟩
theorem cr_sortS (hc : X.calm = true) : CallR X (.builtin "sorted") (rSortS X.w) := by
  intro pins s σ H vs us Q I r h
  obtain ⟨a, S, n, rfl, ha, q⟩ := h
  rw [Vals.ref1 r]
  refine bp_sorted_set (setO_get I ha) (I.ok.hd hc) fun s' p out c ns k g o hp hg hi hs hm hl hb => ?_
  have lz : (ns.map V.int).length ≤ sizeLine := by rw [List.length_map, hl]; exact fits_of_scanBound hb
  have np : H p = none := I.hok.fresh hp
  cases s' with
  | mk h1 g1 d1 t1 o1 =>
    cases g
    cases o
    have J : Inv X pins σ (upd H p (.lst (ns.map V.int))) { s with heap := h1, drawn := d1, toks := t1 } :=
      I.call (ch := []) (Un.laid k hp np) (I.hok.laid k hp ⟨lz, out, c, vals_of_ints hi, hg⟩) I.bare (fun _ z => nomatch z)
    exact ⟨.ref p, _, J, rfl, q ns p hs hm np⟩
end
end L2
/-! Benchpair: classes made, their methods, isinstance of own classes, is of truths. -/
namespace Bp
open PySem PySem.Spec PyProof.Rows L2
/-- a method of the text's class at C -/
structure DefM (K : PySem.W.Frag) (C : Addr) (m q : Str) (st : Stmt) (ps : List Str) : Prop where
  cls : Cls K C
  ex : ∃ (f : Addr) (fd : FuncData), FunD K m q (defArgs st) (defBody st) (defScope st) [] [] f fd ∧ Meth K C m f ∧ Binds K fd ps []
structure MetX (P : Program) (w : World) (K : PySem.W.Frag) (mg : Str → Option Value) (base : Heap) (k : Nat) (C : Addr) (m : Str) (sp : Sp) : Prop where
  ex : ∃ (f : Addr) (fd : FuncData) (ps : List Str), Cls K C ∧ Meth K C m f ∧ FnOk P w K mg base CX0 k f fd ps sp ∧ Binds K fd ps []
/-- the __init__ of the class at C, named x -/
structure DefI (K : PySem.W.Frag) (mg : Str → Option Value) (x : Str) (C : Addr) (q : Str) (st : Stmt) (ps : List Str) : Prop where
  g : mg x = some (.ref C)
  ex : ∃ (f : Addr) (fd : FuncData), FunD K "__init__" q (defArgs st) (defBody st) (defScope st) [] [] f fd ∧ Mk K C f ∧ Binds K fd ps []
structure MakX (P : Program) (w : World) (K : PySem.W.Frag) (mg : Str → Option Value) (base : Heap) (k : Nat) (x : Str) (C : Addr) (sp : Sp) : Prop where
  ex : ∃ (f : Addr) (fd : FuncData) (ps : List Str), Mk K C f ∧ FnOk P w K mg base CX0 k f fd ps sp ∧ mg x = some (.ref C) ∧ Binds K fd ps []
section
variable {P : Program} {w : World} {K : PySem.W.Frag} {mg : Str → Option Value} {base : Heap} {x m q : Str} {C : Addr} {st : Stmt} {ps N : List Str} {k : Nat} {sp : Sp}
theorem DefM.met (D : DefM K C m q st ps) (S : FnScope N ps (defScope st)) (len : ∀ vs H Q E, sp vs H Q E → vs.length = ps.length)
    (body : ∀ (f : Addr) (cdv : Value) (A : Around) (outer : List Env) (s : Shared) (H : Hp) (vs : List V) (Q : VK) (E : XK), Room k (A.deeper (envOfC q (defScope st) s.heap.objs.size f cdv)) → sp vs H Q E →
      ∃ t, PSs (cxOf CX0 P w K mg base N q (defScope st) f cdv A outer s H E).nox (defBody st) t ∧ t { nx := fun _ H' => Q .non H', rt := Q } (start N vs) H) : MetX P w K mg base (k + 1) C m sp := by
  obtain ⟨f, fd, F, me, b⟩ := D.ex
  refine ⟨f, fd, ps, D.cls, me, F.ok S len fun cdv A outer s H vs Q E hr h => ?_, b⟩
  obtain ⟨t, h1, h2⟩ := body f cdv A outer s H vs Q E hr h
  exact ⟨t, h1.nox, h2⟩
theorem DefI.mak (D : DefI K mg x C q st ps) (S : FnScope N ps (defScope st)) (len : ∀ vs H Q E, sp vs H Q E → vs.length = ps.length)
    (body : ∀ (f : Addr) (cdv : Value) (A : Around) (outer : List Env) (s : Shared) (H : Hp) (vs : List V) (Q : VK) (E : XK), Room k (A.deeper (envOfC q (defScope st) s.heap.objs.size f cdv)) → sp vs H Q E →
      ∃ t, PSs (cxOf CX0 P w K mg base N q (defScope st) f cdv A outer s H E).nox (defBody st) t ∧ t { nx := fun _ H' => Q .non H', rt := Q } (start N vs) H) : MakX P w K mg base (k + 1) x C sp := by
  obtain ⟨f, fd, F, me, b⟩ := D.ex
  refine ⟨f, fd, ps, me, F.ok S len fun cdv A outer s H vs Q E hr h => ?_, D.g, b⟩
  obtain ⟨t, h1, h2⟩ := body f cdv A outer s H vs Q E hr h
  exact ⟨t, h1.nox, h2⟩
end
/-- o.m(e, ..), C(e, ..) by their promises -/
def tMet (C : Addr) (m : Str) (sp : Sp) (ta : TE) (t : TA) : TE := fun σ H Q => ta σ H fun x H1 => ∃ a dx fs, x = .ref a ∧ H1 a = some (.ins C dx fs) ∧ fs.lookup m = none ∧ t σ H1 fun vs H2 => sp (x :: vs) H2 Q E0
def tMak (C : Addr) (sp : Sp) (t : TA) : TE := fun σ H Q => t σ H fun vs H1 => ∀ x dx, H1 x = none → H1 dx = none → dx ≠ x → sp (.ref x :: vs) (upd (upd H1 dx (.own x)) x (.ins C dx [])) (fun v H2 => v = .non ∧ Q (.ref x) H2) E0
theorem tMet_eq (C : Addr) (m : Str) (sp : Sp) (ta : TE) (t : TA) : tMeth C m sp [] E0 ta t = tMet C m sp ta t := by
  funext σ H Q
  unfold tMeth tMet
  simp only [List.append_nil]
theorem tMak_eq (C : Addr) (sp : Sp) (t : TA) : tMake C sp [] E0 t = tMak C sp t := by
  funext σ H Q
  unfold tMake tMak
  simp only [List.append_nil]
section
variable {X : Cx} {k j : Nat} {C : Addr} {x m : Str} {sp : Sp} {p pos apos : Pos} {e o : Expr} {es : List Expr} {ta : TE} {t : TA}
theorem pe_met {pl : Sem Bool} (c : MetX X.prog X.w X.K X.mg X.base k C m sp) (hr : Room j X.A) (hk : k ≤ j) (he : PE X o ta) (ha : PA X (e :: es) t)
    (h1 : starEach (e :: es) X.env = (false, eval e X.env) :: starEach es X.env := by rfl) (h2 : (backTo pos (starEach es X.env)).any (·.1) = false := by rfl)
    (h3 : eval (.Call (.Attribute o m apos) (e :: es) [] pos) X.env = (eval o X.env >>= fun ov => standAt apos.atName >>= fun _ => holding [ov] (getMethod ov m pl) >>= fun r =>
      callWith pos r.1 r.2 (backTo pos (starEach (e :: es) X.env)) (backToKw pos (keywordEach [] X.env))) := by rfl) : PE X (.Call (.Attribute o m apos) (e :: es) [] pos) (tMet C m sp ta t) := by
  obtain ⟨f, fd, ps, hc, hm, F, b⟩ := c.ex
  rw [← tMet_eq]
  exact pe_meth (pl := pl) he hc hm F (hr.mono hk) b .nil pass0 ha h1 h2 h3
theorem pe_mak (c : MakX X.prog X.w X.K X.mg X.base k x C sp) (hr : Room j X.A) (hk : k + 1 ≤ j) (hg : Gl X x) (ha : PA X (e :: es) t) (hdb : (x == ("__debug__" : Str)) = false := by decide)
    (h1 : starEach (e :: es) X.env = (false, eval e X.env) :: starEach es X.env := by rfl) (h2 : (backTo pos (starEach es X.env)).any (·.1) = false := by rfl) : PE X (.Call (.Name x p) (e :: es) [] pos) (tMak C sp t) := by
  obtain ⟨f, fd, ps, M, F, hm, b⟩ := c.ex
  rw [← tMak_eq]
  exact pe_make M F (hr.mono hk) hg hm b .nil pass0 ha hdb h1 h2
/-- an expression that is read in one of two ways -/
theorem pe_or {t1 t2 : TE} (h1 : PE X e t1) (h2 : PE X e t2) : PE X e fun σ H Q => t1 σ H Q ∨ t2 σ H Q := ⟨fun pins s σ H Q I h => by
  rcases h with h | h
  · exact h1.run pins s σ H Q I h
  · exact h2.run pins s σ H Q I h⟩
end
/-! ### is -/
def rIsN : R2 := fun x y H Q => y = .non ∧ Q (.bl (decide (x = .non))) H
def rNotN : R2 := fun x y H Q => y = .non ∧ Q (.bl (!decide (x = .non))) H
def rIsB : R2 := fun x y H Q => ∃ b c, x = .bl b ∧ y = .bl c ∧ Q (.bl (b == c)) H
def rNotB : R2 := fun x y H Q => ∃ b c, x = .bl b ∧ y = .bl c ∧ Q (.bl (!(b == c))) H
def rEqB : R2 := fun x y H Q => ∃ b c, x = .bl b ∧ y = .bl c ∧ Q (.bl (b == c)) H
section
variable {X : Cx}
theorem cp_isN : OpR X (compareOp .Is) rIsN := op_isN
theorem cp_notN : OpR X (compareOp .IsNot) rNotN := op_notN
theorem cp_isB : OpR X (compareOp .Is) rIsB := by
  intro pins s σ H x y v u Q I rx ry h
  obtain ⟨b, c, rfl, rfl, q⟩ := h
  cases rx
  cases ry
  refine (wpAny_bind (wpAny_isSame_plain (by cases b <;> cases c <;> rfl) (wpAny_pure (fin_bl I q ?_))) : wpAny _ _ ((isSame (Value.bool b) (Value.bool c)) >>= fun z => pure (Value.bool z)) _ _ s)
  cases b <;> cases c <;> rfl
theorem cp_notB : OpR X (compareOp .IsNot) rNotB := by
  intro pins s σ H x y v u Q I rx ry h
  obtain ⟨b, c, rfl, rfl, q⟩ := h
  cases rx
  cases ry
  refine (wpAny_bind (wpAny_isSame_plain (by cases b <;> cases c <;> rfl) (wpAny_pure (fin_bl I q ?_))) : wpAny _ _ ((isSame (Value.bool b) (Value.bool c)) >>= fun z => pure (Value.bool (!z))) _ _ s)
  cases b <;> cases c <;> rfl
end
section
variable {K : PySem.W.Frag} {σ : L2.St} {H : Hp} {Q : VK} {D : Ends} {ta tv : TE} {ts : TA} {x : V} {p C CD dx : Addr} {fs : List (Str × V)} {m : Int} {b c r : Bool} {sp : Sp} {f mm : Str} {v : V}
theorem i_isN (h : Q (.bl (decide (x = .non))) H) : rIsN x .non H Q := ⟨rfl, h⟩
theorem i_notNi (h : Q (.bl true) H) : rNotN (.int m) .non H Q := ⟨rfl, h⟩
theorem i_notNn (h : Q (.bl false) H) : rNotN .non .non H Q := ⟨rfl, h⟩
theorem i_isB (h : Q (.bl (b == c)) H) : rIsB (.bl b) (.bl c) H Q := ⟨b, c, rfl, rfl, h⟩
theorem i_notB (h : Q (.bl (!(b == c))) H) : rNotB (.bl b) (.bl c) H Q := ⟨b, c, rfl, rfl, h⟩
def kFld (K : PySem.W.Frag) (f : Str) (Q : VK) : VK := fun x H1 => ∃ a C dx fs v, x = .ref a ∧ H1 a = some (.ins C dx fs) ∧ Cls K C ∧ NoAttr K C f ∧ fs.lookup f = some v ∧ Q v H1
theorem i_fld (h : ta σ H (kFld K f Q)) : tFld K ta f σ H Q := h
theorem i_fldE (e : H p = some (.ins C dx fs)) (c : Cls K C) (n : NoAttr K C f) (l : fs.lookup f = some v) (h : Q v H) : kFld K f Q (.ref p) H := ⟨p, C, dx, fs, v, rfl, e, c, n, l, h⟩
theorem i_sfld (h : tv σ H fun y H1 => ta σ H1 fun x H2 => ∃ a C dx fs, x = .ref a ∧ H2 a = some (.ins C dx fs) ∧ Cls K C ∧ NoAttr K C f ∧ fs.length < 1000 ∧ D.nx σ (upd H2 a (.ins C dx (putF f y fs)))) : sFld K ta tv f D σ H := h
theorem i_sfldE {y : V} {R : Hp → Prop} (e : H p = some (.ins C dx fs)) (c : Cls K C) (n : NoAttr K C f) (l : fs.length < 1000) (h : R (upd H p (.ins C dx (putF f y fs)))) : ∃ a C dx fs, V.ref p = .ref a ∧ H a = some (.ins C dx fs) ∧ Cls K C ∧ NoAttr K C f ∧ fs.length < 1000 ∧ R (upd H a (.ins C dx (putF f y fs))) := ⟨p, C, dx, fs, rfl, e, c, n, l, h⟩
def kMet (C : Addr) (mm : Str) (sp : Sp) (ts : TA) (σ : L2.St) (Q : VK) : VK := fun x H1 => ∃ a dx fs, x = .ref a ∧ H1 a = some (.ins C dx fs) ∧ fs.lookup mm = none ∧ ts σ H1 fun vs H2 => sp (x :: vs) H2 Q E0
theorem i_met (h : ta σ H (kMet C mm sp ts σ Q)) : tMet C mm sp ta ts σ H Q := h
theorem i_metE (e : H p = some (.ins C dx fs)) (l : fs.lookup mm = none) (h : ts σ H fun vs H2 => sp (.ref p :: vs) H2 Q E0) : kMet C mm sp ts σ Q (.ref p) H := ⟨p, dx, fs, rfl, e, l, h⟩
theorem i_mak (h : ts σ H fun vs H1 => ∀ x dx, H1 x = none → H1 dx = none → dx ≠ x → sp (.ref x :: vs) (upd (upd H1 dx (.own x)) x (.ins C dx [])) (fun v H2 => v = .non ∧ Q (.ref x) H2) E0) : tMak C sp ts σ H Q := h
theorem i_eqB (h : Q (.bl (b == c)) H) : rEq (.bl b) (.bl c) H Q := ⟨rfl, by
  have e : decide (V.bl b = V.bl c) = (b == c) := by cases b <;> cases c <;> rfl
  rw [e]; exact h⟩
theorem i_neB (h : Q (.bl (!(b == c))) H) : rNe (.bl b) (.bl c) H Q := ⟨rfl, by
  have e : decide (V.bl b = V.bl c) = (b == c) := by cases b <;> cases c <;> rfl
  rw [e]; exact h⟩
theorem i_not12 (hp : H p = some (.tup [.int 1, .int 2])) (h : Q (.bl (!decide (m = 1 ∨ m = 2))) H) : rIn K true (.int m) (.ref p) H Q := by
  refine ⟨p, _, rfl, .inr (SqT.of hp), rfl, rfl, ?_⟩
  have e : inV (.int m) [.int 1, .int 2] = decide (m = 1 ∨ m = 2) := by
    simp only [inV, List.any_cons, List.any_nil, eqV, Bool.or_false]
    rw [Bool.eq_iff_iff]
    simp only [Bool.or_eq_true, decide_eq_true_eq, beq_iff_eq]
    omega
  rw [e]
  exact h
/-- for x, y in zip(xs, ys) -/
theorem for_zip {a b : Addr} {xs ys : List V} {g : TG} {t : TS} (Pv : Nat → L2.St → Hp → Prop) (h0 : Pv 0 σ H) (hl : ∀ i σ H, Pv i σ H → SqL K H a xs ∧ SqL K H b ys) (hlen : xs.length = ys.length)
    (hs : ∀ (i : Nat) (x y : V) (T : Addr) (σ : L2.St) (H H' : Hp), xs[i]? = some x → ys[i]? = some y → Pv i σ H → H T = none → Same H H' → H' T = some (.tup [x, y]) → g (.ref T) σ H' fun σ2 H2 => t { D with nx := Pv (i + 1), ct := Pv (i + 1), bk := D.nx } σ2 H2)
    (hd : ∀ σ H, Pv xs.length σ H → D.nx σ H) : ∃ W : Nat → Nat → L2.St → Hp → Prop, (∃ m, W 0 m σ H) ∧ ∀ i m σ H, W i m σ H →
      ((Itz K a b).stop i H ∧ D.nx σ H) ∨ ((Itz K a b).go i H ∧ ∃ N : L2.St → Hp → Prop, (∀ σ' H', N σ' H' → ∃ m', m' < m ∧ W (i + 1) m' σ' H') ∧ ∀ v H', (Itz K a b).yld i H v H' → g v σ H' fun σ2 H2 => t { D with nx := N, ct := N, bk := D.nx } σ2 H2) := by
  refine ⟨fun i m σ H => m = xs.length - i ∧ i ≤ xs.length ∧ Pv i σ H, ⟨xs.length, rfl, Nat.zero_le _, h0⟩, ?_⟩
  rintro i m σ H ⟨rfl, hi, pv⟩
  obtain ⟨q1, q2⟩ := hl i σ H pv
  by_cases lt : i < xs.length
  · have e1 := List.getElem?_eq_getElem lt
    have e2 := List.getElem?_eq_getElem (show i < ys.length by omega)
    refine .inr ⟨⟨xs, ys, _, _, q1, q2, e1, e2⟩, Pv (i + 1), fun σ' H' pv' => ⟨xs.length - (i + 1), by omega, rfl, lt, pv'⟩, fun v H' yl => ?_⟩
    obtain ⟨T, x, y, rfl, nT, rfl, f1, f2⟩ := yl
    exact hs i x y T σ H _ (f1 xs q1) (f2 ys q2) pv nT (Same.upd nT) upd_same
  · have e : i = xs.length := by omega
    subst e
    exact .inl ⟨⟨xs, ys, q1, q2, .inl (Nat.le_refl _)⟩, hd σ H pv⟩
/-- isinstance of own classes -/
structure Own (K : PySem.W.Frag) (C : Addr) : Prop where
  cls : Cls K C
  ha : PySem.W.findIn K (.ref C) "__class__" = some (some (.builtin "object.__class__"))
  hn : PySem.W.specialIn K (.builtin "object.__class__") "__get__" = some (some (.builtin "getset_descriptor.__get__"))
  htk : PySem.W.takesIn K (.builtin "object.__class__") = some true
  hm : PySem.W.mroIn K C (.type "object") = some true
theorem i_isC (O : Own K C) (e : H p = some (.ins C dx fs)) (kb : PySem.W.kitOne K (.ref C) (.ref CD) = some r) (h : Q (.bl r) H) : rIsi K [.ref p, .ref CD] H Q :=
  ⟨.ref p, .ref CD, .ref C, .ref CD, r, rfl, .own CD, .base (.ins e O.cls O.ha O.hn O.htk O.hm), kb, h⟩
end
def ownB (K : PySem.W.Frag) (C : Addr) : Bool := decide (PySem.W.findIn K (.ref C) "__class__" = some (some (.builtin "object.__class__"))) && decide (PySem.W.specialIn K (.builtin "object.__class__") "__get__" = some (some (.builtin "getset_descriptor.__get__"))) &&
  decide (PySem.W.takesIn K (.builtin "object.__class__") = some true) && decide (PySem.W.mroIn K C (.type "object") = some true)
theorem ownB_ok {K : PySem.W.Frag} {C : Addr} (c : Cls K C) (h : ownB K C = true) : Own K C := by
  unfold ownB at h
  rw [Bool.and_eq_true, Bool.and_eq_true, Bool.and_eq_true] at h
  exact ⟨c, of_decide_eq_true h.1.1.1, of_decide_eq_true h.1.1.2, of_decide_eq_true h.1.2, of_decide_eq_true h.2⟩
/-- what isinstance tells of two of the text's classes -/
def kitB2 (K : PySem.W.Frag) (t : Str × Str × Bool) : Bool := decide (PySem.W.kitOne K (.ref (He.ga K t.1)) (.ref (He.ga K t.2.1)) = some t.2.2)
/-- the head's further facts -/
def exB (os : List Str) (ks : List (Str × Str × Bool)) (K : PySem.W.Frag) : Bool := (os.all fun x => ownB K (He.ga K x)) && ks.all (kitB2 K)
section
variable {os : List Str} {ks : List (Str × Str × Bool)} {K : PySem.W.Frag}
theorem exB_own (h : exB os ks K = true) (i : Nat) {x : Str} (e : os[i]? = some x) (c : Cls K (He.ga K x)) : Own K (He.ga K x) := by
  unfold exB at h
  rw [Bool.and_eq_true] at h
  exact ownB_ok c (List.all_eq_true.mp h.1 x (List.mem_of_getElem? e))
theorem exB_kit (h : exB os ks K = true) (i : Nat) {x y : Str} {b : Bool} (e : ks[i]? = some (x, y, b)) : PySem.W.kitOne K (.ref (He.ga K x)) (.ref (He.ga K y)) = some b := by
  unfold exB at h
  rw [Bool.and_eq_true] at h
  exact of_decide_eq_true (List.all_eq_true.mp h.2 _ (List.mem_of_getElem? e))
end
/-- the Hook, with further facts -/
def obsX (n : Nat) (fa : List He.Fa) (fn : List He.DefD) (ex : PySem.W.Frag → Bool) (g : Addr → Option Obj) : He.AlD × Bool := (He.obsD fa fn (He.frG g (He.asD g n)), ex (He.frG g (He.asD g n)))
def SaysX (fa : List He.Fa) (fn : List He.DefD) (ex : PySem.W.Frag → Bool) (K : PySem.W.Frag) : Prop := He.SaysD fa fn K ∧ ex K = true
def hookX (n : Nat) (fa : List He.Fa) (fn : List He.DefD) (ex : PySem.W.Frag → Bool) : PySem.W.Hook where
  α := He.AlD × Bool
  obs := fun s => obsX n fa fn ex s.heap.get?
  val := fun _ => (He.valD fn, true)
  says := fun _ h => ∃ K : PySem.W.Frag, K.In h ∧ SaysX fa fn ex K
  of := fun _ _ e => ⟨_, He.frG_in, congrArg (fun z : He.AlD × Bool => z.1) e, congrArg (fun z : He.AlD × Bool => z.2) e⟩
  keeps := fun _ _ _ ⟨K, kin, c⟩ k => ⟨K, PySem.W.Frag.In.keeps kin k, c⟩
theorem obsX_eq {n : Nat} {fa : List He.Fa} {fn : List He.DefD} {ex : PySem.W.Frag → Bool} {g : Addr → Option Obj} {s : Shared} (h : ∀ a, g a = s.heap.get? a) : obsX n fa fn ex g = (hookX n fa fn ex).obs s := by
  rw [show g = s.heap.get? from funext h]
  rfl
end Bp
/-! Benchpair: a list of truths asked by any(..), and isinstance, while an exception is handled. -/
namespace L2
open PySem PySem.Spec PyProof.Rows HotX
section
variable {prog : Program} {w : World} {A : Around} {E : Value → Shared → Prop} {s : Shared}
theorem bp_list_end {it l x1 : Addr} {i : Nat} {items : Array Value} {Q : Option Value → Shared → Prop} (hot : HotAt A x1 s.heap) (ne : x1 ≠ it) (st : s.heap.IsListIter it l i) (hl : s.heap.IsList l items) (hx : items[i]? = none)
    (q : ∀ h', (∀ b o, b ≠ it → s.heap.get? b = some o → h'.get? b = some o) → Q none { s with heap := h' }) : wpAny (model prog w) A (pyNext (.ref it)) Q E s := by
  obtain ⟨oi, gi, ci, di⟩ := id st
  obtain ⟨ol, gl, _, nl, dl⟩ := hl
  obtain ⟨hh, o1, v1, g1, d1, c1⟩ := hot
  unfold pyNext
  refine wpAny_bind (wpAny_attempt (wpAny_callSpecial?_slot (name := Str.ofString "__next__") st.typeIs slot_listiter_next (wpAny_call_entry slot_listiter_next st.typeIs entry_listiter_next ?_ (args_listiter_next _))))
  show wpAny _ _ (field (.ref it) 0 >>= _) _ _ s
  refine wpAny_bind (wpAny_field gi di (x := .ref l) rfl ?_)
  show wpAny _ _ (if (Value.ref l == Value.none) = true then _ else _) _ _ s
  rw [if_neg (show ¬ ((Value.ref l == Value.none) = true) from fun z => nomatch z)]
  show wpAny _ _ (field (.ref it) 1 >>= _) _ _ s
  refine wpAny_bind (wpAny_field gi di (x := .int i 0) rfl ?_)
  show wpAny _ _ (seqItems? (.ref l) >>= _) _ _ s
  refine wpAny_bind (wpAny_seqItems gl dl ?_)
  simp only [Int.toNat_natCast, hx]
  refine wpAny_bind (wpAny_rule (wpAny_bind (wpAny_setField gi di (by simp) ?_)))
  refine wpAny_bind ?_
  show wpAny _ _ (newExc (.type "StopIteration") [] >>= _) _ _ _
  refine wpAny_bind ?_
  simp only [newExc, newTuple]
  refine wpAny_bind (wpAny_newObj_type ?_ (by size_fits))
  refine wpAny_bind (m := firstArgMember _ _) (wpAny_of_eq (a := Value.none) (by simp only [firstArgMember]; rfl) ?_)
  refine wpAny_newObj_type ?_ (by size_fits)
  refine wpAny_pure ?_
  have u1 : (s.heap.update it (Obj.mapFields fun x => x.setIfInBounds 0 Value.none)).get? x1 = some o1 := (Heap.get?_update_other _ _ (Ne.symm ne)).trans g1
  refine raiseNew_hot ⟨hh, o1, v1, Heap.get?_push_of_some _ (Heap.get?_push_of_some _ u1), d1, c1⟩ (Nat.ne_of_lt (Heap.lt_size (Heap.get?_push_of_some _ u1))) (Heap.get?_push_size _ rfl) rfl (by simp; try omega) ?_
  refine wpAny_bind (wpAny_isInstance (T := "StopIteration") (b := true) ⟨_, Heap.get?_update_self _ (Heap.get?_push_size _ rfl) rfl, rfl⟩ isSubtype_stop ?_)
  refine wpAny_pure (q _ fun b o hb e => ?_)
  have u2 : (s.heap.update it (Obj.mapFields fun x => x.setIfInBounds 0 Value.none)).get? b = some o := (Heap.get?_update_other _ _ (Ne.symm hb)).trans e
  rw [Heap.get?_update_other _ _ (Nat.ne_of_gt (Heap.lt_size (Heap.get?_push_of_some _ u2)))]
  exact Heap.get?_push_of_some _ (Heap.get?_push_of_some _ u2)
theorem bp_walks {I ax x1 : Addr} (n1 : x1 ≠ I) (n2 : ax ≠ I) (items : Array Value) (hh : A.handled = some (.ref x1)) {o1 : Obj} {v1 : Array Value} (d1 : o1.data = .fields v1) (c1 : v1[2]? = some .none) :
    Walks prog w A I [I, ax, x1] [I] items.size (fun i v => items[i]? = some v) (fun i h => h.IsListIter I ax i ∧ h.IsList ax items ∧ h.get? x1 = some o1) where
  sub := fun b hb => by
    rw [List.mem_singleton.mp hb]
    exact List.mem_cons_self
  frame := fun _ _ _ st k => ⟨st.1.at fun o e => k I (by simp) o e, st.2.1.at fun o e => k ax (by simp) o e, k x1 (by simp) o1 st.2.2⟩
  item := fun i s Q E hi st hQ => by
    refine wpAny_pyNext_list_item st.1 st.2.1 (x := items[i]) (Array.getElem?_eq_getElem hi) fun h' hit' hs' => ?_
    have keep : ∀ b o, b ∉ [I] → s.heap.get? b = some o → h'.get? b = some o := fun b o hb e => hs'.extBut b o (fun h => hb (by rw [h]; exact List.mem_cons_self)) e
    exact hQ _ h' s.toks (Array.getElem?_eq_getElem hi) ⟨hit', st.2.1.extBut hs'.extBut n2, keep x1 o1 (fun h => n1 (List.mem_singleton.mp h)) st.2.2⟩ keep
  done := fun s Q E st hQ => bp_list_end ⟨hh, o1, v1, st.2.2, d1, c1⟩ n1 st.1 st.2.1 (Array.getElem?_eq_none (Nat.le_refl _)) fun h' k => hQ h' s.toks fun b o hb e => k b o (fun h => hb (by rw [h]; exact List.mem_cons_self)) e
  self := fun _ _ _ _ st hQ => wpAny_pyIter_listiter st.1 hQ
end
section
variable {X : Cx} {a : Addr} {oe : Obj} {pn : List (Addr × Obj)} {cls : Value} {d : Option Addr}
/-- any(xs) in a suite -/
theorem bp_anyH (hz : L2N.Zn cls d oe) (hf : ∃ vs, oe.data = .fields vs) : CallR (X.suite a ((a, oe) :: pn)) (.builtin "any") (rAny X.K) := by
  intro pins s σ H vs us Q I r h
  obtain ⟨p, bs, rfl, hs, q⟩ := h
  obtain ⟨its, rv, hl, _⟩ := I.list hs
  rw [Vals.ref1 r]
  have hb := rv.bls
  obtain ⟨fv, hfv⟩ := hf
  have ctx := hz.2.2 fv hfv
  obtain ⟨ga, _, _, _, _⟩ := I.pin (a, oe) (List.mem_append.mpr (.inl List.mem_cons_self))
  refine call_any_walk (iter_any hl.isList fun s₂ e2 st hne => ?_)
  subst e2
  have na : a ≠ s.heap.objs.size := Nat.ne_of_lt (Heap.lt_size ga)
  refine ⟨_, _, _, _, _, _, _, rfl, bp_walks na hne its.toArray (A := (X.suite a ((a, oe) :: pn)).A.in1) rfl hfv ctx, ⟨st.1, st.2, Heap.get?_push_of_some _ ga⟩, truth_bools hb, fun h' tk hk => ?_⟩
  refine ⟨.bl _, H, I.kept fun b o eo => hk b o (fun hm => ?_) (Heap.get?_push_of_some _ eo), ?_, q⟩
  · exact absurd (Heap.lt_size eo) (by rw [List.mem_singleton.mp hm]; exact Nat.lt_irrefl _)
  · show Value.bool _ = Value.bool _
    rw [← any_range, hb, List.size_toArray, List.length_map]
/-- isinstance(error, c) in a suite, the error's class being told by the wish -/
def rIsX (K : PySem.W.Frag) (a : Addr) (cls : Value) (d : Option Addr) : List V → Hp → VK → Prop := fun xs H Q => ∃ D, cls = .ref D ∧ d = none ∧ ExcC K D ∧ rIsE K D a xs H Q
theorem bp_isX (hz : L2N.Zn cls d oe) (hf : ∃ vs, oe.data = .fields vs) : CallR (X.suite a ((a, oe) :: pn)) (.builtin "isinstance") (rIsX X.K a cls d) := by
  intro pins s σ H vs us Q I r h
  obtain ⟨D, rfl, rfl, C, h⟩ := h
  exact call_isE C hz.zc hf pins s σ H vs us Q I r h
end
end L2
/-! Benchpair: words about texts, max of a tuple, defs that raise an own error. -/
namespace L2
open PySem PySem.Spec PyProof.Rows
/-- max(t), t a tuple of whole numbers -/
def rMaxT (K : PySem.W.Frag) : List V → Hp → VK → Prop := fun vs H Q => ∃ (a : Addr) (ns : List Int), vs = [V.ref a] ∧ SqT K H a (ns.map V.int) ∧ 0 < ns.length ∧ ∀ m, m ∈ ns → (∀ y, y ∈ ns → y ≤ m) → Q (.int m) H
section
variable {X : Cx}
theorem bp_maxT (hc : X.calm = true) : CallR X (.builtin "max") (rMaxT X.K) := by
  intro pins s σ H vs us Q I r h
  obtain ⟨a, ns, rfl, hs, hne, q⟩ := h
  obtain ⟨its, rv, pt, hz⟩ := I.tuple hs
  rw [Vals.ref1 r]
  have hi := rv.ints
  obtain ⟨xs, e⟩ := hi.allInts.items
  have hn : numsOf (intItems xs).toList = ns := by rw [← e]; exact hi.numsOf
  rw [nums_intItems] at hn
  subst hn
  have hT : s.heap.IsTuple a (intItems xs) := by rw [← e]; exact pt
  have hsz : 0 < xs.size := by simpa using hne
  have lt : a < s.heap.objs.size := by
    obtain ⟨_, g, _⟩ := hT
    exact Heap.lt_size g
  refine call_max_walk (wpAny_pyIter_tuple hT ?_)
  refine ⟨_, [_, a], [_], _, _, _, _, rfl, Walks.tuple (A := X.A.in1) (I.ok.hd hc) _ a (Nat.ne_of_lt lt) (intItems xs), ⟨⟨_, Heap.get?_push_size _ rfl, rfl, rfl⟩, hT.push _⟩, fun d hd => ?_, by simpa [intItems] using hsz, CmpOf.ints_gt (numAt xs) (fun _ _ => intItems_at), fun v h' tk hP hk => ?_⟩
  · rw [Heap.size_push]
    rcases List.mem_cons.mp hd with rfl | hd
    · exact Nat.lt_succ_self _
    · rw [List.mem_singleton.mp hd]; exact Nat.lt_succ_of_lt lt
  · have hv : (intItems xs)[argBest (fun i j => decide (numAt xs i > numAt xs j)) (xs.size - 1)]? = some v := by simpa [intItems] using hP
    obtain ⟨t, rfl⟩ := intItems_at hv
    obtain ⟨h1, h2⟩ := argBest_gt (numAt xs) (xs.size - 1)
    refine ⟨.int _, H, I.kept (t' := tk) (fun b o eo => hk b o (fun hm => ?_) (Heap.get?_push_of_some _ eo)), ⟨_, rfl⟩, q _ ?_ fun y hy => ?_⟩
    · exact absurd (Heap.lt_size eo) (by rw [List.mem_singleton.mp hm]; exact Nat.lt_irrefl _)
    · rw [numAt_eq]; exact PySem.getD_mem (by rw [List.length_map, Array.length_toList]; omega)
    · obtain ⟨j, hj, rfl⟩ := mem_getD hy
      rw [List.length_map, Array.length_toList] at hj
      rw [← numAt_eq]; exact h2 j (by omega)
end
end L2
namespace Bp
open PySem PySem.Spec PyProof.Rows L2 SX
/-- a text times a number -/
def rMulS : R2 := fun x y H Q => ∃ (z : Str) (n : Int), x = .str z ∧ y = .int n ∧ MulOk z n ∧ Q (.str (Txt.mul z n)) H
def rAddS : R2 := fun x y H Q => ∃ i j : Str, x = .str i ∧ y = .str j ∧ i.length + j.length ≤ sizeLine ∧ Q (.str (i ++ j)) H
def rLenS : List V → Hp → VK → Prop := fun xs H Q => ∃ z : Str, xs = [.str z] ∧ z.length ≤ sizeLine ∧ Q (.int z.length) H
def rStrI : List V → Hp → VK → Prop := fun xs H Q => ∃ i : Int, xs = [.int i] ∧ i.natAbs.log2 < 1920 ∧ Q (.str (toString i)) H
def rIntS : List V → Hp → VK → Prop := fun xs H Q => ∃ (a : Str) (n : Int), xs = [.str a] ∧ PySem.intText? a = some n ∧ a.length ≤ 640 ∧ Q (.int n) H
def rStripC : V → List V → Hp → VK → Prop := fun x xs H Q => ∃ a b : Str, x = .str a ∧ xs = [.str b] ∧ a.length ≤ sizeLine ∧ Q (.str (Txt.stripChars a b)) H
def rSplitS : V → List V → Hp → VK → Prop := fun x xs H Q => ∃ a b : Str, x = .str a ∧ xs = [.str b] ∧ (b.length == 0) = false ∧ a.length + 2 ≤ sizeLine ∧ rNewStrs (Txt.split a b) H Q
def rJoinS (K : PySem.W.Frag) : V → List V → Hp → VK → Prop := fun x xs H Q => ∃ (a : Str) (p : Addr) (ys : List Str), x = .str a ∧ xs = [.ref p] ∧ (SqL K H p (ys.map V.str) ∨ SqT K H p (ys.map V.str)) ∧ (ys.map (·.length)).sum + ys.length * a.length ≤ 16777216 ∧ Q (.str (Txt.join a ys)) H
section
variable {X : Cx} {o e : Expr} {to te : TE} {apos pos : Pos}
theorem op_mulS : OpR X (binaryOp .Mult) rMulS := by
  intro pins s σ H x y v u Q I rx ry h
  obtain ⟨z, n, rfl, rfl, ok, q⟩ := h
  obtain ⟨t, rfl⟩ := rx
  obtain ⟨t', rfl⟩ := ry
  exact PySem.SB.mul ok fun t'' k => ⟨.str (Txt.mul z n), H, I.tok k, ⟨t'', rfl⟩, q⟩
theorem op_addS : OpR X (binaryOp .Add) rAddS := op_add_str
theorem cs_len : CallR X (.builtin "len") rLenS := call_len_str
theorem cs_str : CallR X (.type "str") rStrI := call_str_int
theorem cs_int : CallR X (.type "int") rIntS := call_int_str
theorem ms_strip : MtR X "str.strip" rStripC := mt_stripChars
theorem pe_splitS (ho : PE X o to) (he : PE X e te) (hs : starEach [e] X.env = [(false, eval e X.env)] := by rfl) (hb : attributeBase o "split" X.env (eval o X.env) = eval o X.env := by rfl) (hl : (apos.endLine == pos.line) = true := by rfl) :
    PE X (.Call (.Attribute o "split" apos) [e] [] pos) (tM1 rSplitS to te) := pe_split ho he hs hb hl
theorem pe_joinS (ho : PE X o to) (he : PE X e te) (hs : starEach [e] X.env = [(false, eval e X.env)] := by rfl) (hb : attributeBase o "join" X.env (eval o X.env) = eval o X.env := by rfl) (hl : (apos.endLine == pos.line) = true := by rfl) :
    PE X (.Call (.Attribute o "join" apos) [e] [] pos) (tM1 (rJoinS X.K) to te) := pe_join ho he hs hb hl
theorem pe_gnum {x : Str} {p : Pos} {i : Int} (hg : Gl X x) (h : ∃ t, X.mg x = some (.int i t)) (hd : (x == ("__debug__" : Str)) = false := by decide) : PE X (.Name x p) (tC (.int i)) := by
  obtain ⟨t, h⟩ := h
  exact pe_glob hg h ⟨t, rfl⟩ hd
theorem pe_gtxt {x z : Str} {p : Pos} (hg : Gl X x) (h : ∃ t, X.mg x = some (.str z t)) (hd : (x == ("__debug__" : Str)) = false := by decide) : PE X (.Name x p) (tC (.str z)) := by
  obtain ⟨t, h⟩ := h
  exact pe_glob hg h ⟨t, rfl⟩ hd
end
section
variable {K : PySem.W.Frag} {H : Hp} {Q : VK} {a b : List Nat} {x y : Str} {p : Addr} {m : Int} {σ : L2.St} {ta tb : TE} {rr : V → List V → Hp → VK → Prop}
theorem i_m1 (h : ta σ H fun x H1 => (∃ a, x = .str a) ∧ tb σ H1 fun y H2 => rr x [y] H2 Q) : tM1 rr ta tb σ H Q := h
theorem i_eqS (h : Q (.bl (decide (x = y))) H) : rEq (.str x) (.str y) H Q := ⟨rfl, by
  have e : decide (V.str x = V.str y) = decide (x = y) := decide_eq_decide.mpr ⟨fun h => V.str.inj h, fun h => by rw [h]⟩
  rw [e]; exact h⟩
theorem i_neS (h : Q (.bl (!decide (x = y))) H) : rNe (.str x) (.str y) H Q := ⟨rfl, by
  have e : decide (V.str x = V.str y) = decide (x = y) := decide_eq_decide.mpr ⟨fun h => V.str.inj h, fun h => by rw [h]⟩
  rw [e]; exact h⟩
theorem i_lenS (hz : x.length ≤ 1000000) (h : Q (.int x.length) H) : rLenS [.str x] H Q := ⟨x, rfl, Nat.le_trans hz (by decide), h⟩
theorem i_addS (hz : x.length + y.length ≤ 1000000) (h : Q (.str (x ++ y)) H) : rAddS (.str x) (.str y) H Q := ⟨x, y, rfl, rfl, Nat.le_trans hz (by decide), h⟩
theorem S_eq {a b : List Nat} : (S a = S b) ↔ a = b := ⟨S_inj, fun h => by rw [h]⟩
theorem tw_all {g : Nat → Bool} : ∀ l : List Nat, (∀ c ∈ l, g c = true) → l.takeWhile g = l
  | [], _ => rfl
  | c :: r, h => by
    rw [List.takeWhile_cons, if_pos (h c List.mem_cons_self), tw_all r fun d hd => h d (List.mem_cons_of_mem c hd)]
theorem tw_len {g : Nat → Bool} : ∀ l : List Nat, (l.takeWhile g).length ≤ l.length ∧ ((l.takeWhile g).length = l.length → ∀ c ∈ l, g c = true)
  | [] => ⟨Nat.le_refl _, fun _ c hc => nomatch hc⟩
  | c :: r => by
    obtain ⟨h1, h2⟩ := tw_len (g := g) r
    rw [List.takeWhile_cons]
    split
    · rename_i hc
      refine ⟨Nat.succ_le_succ h1, fun e d hd => ?_⟩
      rcases List.mem_cons.mp hd with rfl | hd
      · exact hc
      · exact h2 (Nat.succ.inj e) d hd
    · exact ⟨Nat.zero_le _, fun e => nomatch e⟩
theorem tw_next {g : Nat → Bool} : ∀ l : List Nat, (l.takeWhile g).length < l.length → ∃ c r, l.drop (l.takeWhile g).length = c :: r ∧ g c = false
  | [], h => absurd h (Nat.lt_irrefl _)
  | c :: r, h => by
    rw [List.takeWhile_cons] at h ⊢
    split
    · rename_i hc
      rw [if_pos hc] at h
      obtain ⟨d, q, h1, h2⟩ := tw_next (g := g) r (Nat.lt_of_succ_lt_succ h)
      exact ⟨d, q, h1, h2⟩
    · rename_i hc
      exact ⟨c, r, rfl, by simpa using hc⟩
/-- strip of figures leaves nothing just where there are figures alone -/
theorem strip_all (a b : List Nat) : (Txt.stripChars (S a) (S b) = S []) ↔ ∀ c ∈ a, c ∈ b := by
  have hg : ∀ c, (S b).cps.contains c = true ↔ c ∈ b := fun c => by simp
  generalize hgg : (S b).cps.contains = g at hg
  have lo : stripLo g true (S a) = (a.takeWhile g).length := rfl
  have hi : stripHi g true (S a) (a.takeWhile g).length = a.length - ((a.drop (a.takeWhile g).length).reverse.takeWhile g).length := by
    show (S a).length - _ = _
    rw [S_len]
  obtain ⟨l1, l2⟩ := tw_len (g := g) a
  unfold Txt.stripChars Txt.stripBy
  rw [hgg]
  constructor
  · intro h c hc
    by_cases all : (a.takeWhile g).length = a.length
    · exact (hg c).mp (l2 all c hc)
    · exfalso
      obtain ⟨d, r, e1, e2⟩ := tw_next (g := g) a (by omega)
      have dl : (a.drop (a.takeWhile g).length).length = a.length - (a.takeWhile g).length := List.length_drop
      obtain ⟨k1, k2⟩ := tw_len (g := g) (a.drop (a.takeWhile g).length).reverse
      rw [List.length_reverse] at k1 k2
      have kne : ((a.drop (a.takeWhile g).length).reverse.takeWhile g).length ≠ (a.drop (a.takeWhile g).length).length := fun z => by
        have := k2 z d (by rw [List.mem_reverse, e1]; exact List.mem_cons_self)
        rw [e2] at this
        cases this
      split at h
      · have e := S_inj h
        rw [e] at hc
        cases hc
      · unfold stripped at h
        rw [lo, hi] at h
        have e := congrArg (fun z : Str => z.length) h
        simp only [Builtin.Str.strSub, Str.length, Array.size_extract] at e
        have sz : a.toArray.size = a.length := by simp
        simp at e
        omega
  · intro h
    have e := tw_all (g := g) a fun c hc => (hg c).mpr (h c hc)
    split
    · rename_i c
      unfold stripSame at c
      rw [Bool.and_eq_true, lo, e] at c
      have z : a.length = 0 := by simpa using c.1
      rw [List.eq_nil_of_length_eq_zero z]
    · unfold stripped
      rw [lo, hi, e]
      refine TL.ext_tl ?_
      simp [Builtin.Str.strSub, TL.tl]
end
end Bp
/-! Benchpair: defs that raise an own error, and the try around. -/
namespace Bp
open PySem PySem.Spec PyProof.Rows L2 SX
abbrev CalN (P : Program) (w : World) (K : PySem.W.Frag) (mg : Str → Option Value) (base : Heap) (k : Nat) (x : Str) (sp : Sp) : Prop := CalX P w K mg base (L2N.CX P w) k x sp
/-- what is asked of an error's class -/
structure Err (K : PySem.W.Frag) (mg : Str → Option Value) (x : Str) (C : Addr) : Prop where
  g : mg x = some (.ref C)
  q : PySem.W.excIn K C He.veBase "ValueError.__new__" = true
  k : PySem.W.keepIn K (.ref C) = true
  sub : PySem.W.subIn K (.ref C) (.type "BaseException") = some true
  ty : PySem.W.typeIn K (.ref C) = some (.type "type")
section
variable {P : Program} {w : World} {K : PySem.W.Frag} {mg : Str → Option Value} {base : Heap} {x : Str} {st : Stmt} {ps N : List Str} {k : Nat} {sp : Sp}
theorem Def.calN (D : Def K mg x st ps) (S : FnScope N ps (defScope st)) (len : ∀ vs H Q E, sp vs H Q E → vs.length = ps.length)
    (body : ∀ (f : Addr) (cdv : Value) (A : Around) (outer : List Env) (s : Shared) (H : Hp) (vs : List V) (Q : VK) (E : XK), Room k (A.deeper (envOfC x (defScope st) s.heap.objs.size f cdv)) → sp vs H Q E →
      ∃ t, PSs (cxOf (L2N.CX P w) P w K mg base N x (defScope st) f cdv A outer s H E) (defBody st) t ∧ t { nx := fun _ H' => Q .non H', rt := Q } (start N vs) H) : CalN P w K mg base (k + 1) x sp := by
  obtain ⟨f, fd, F, g, b⟩ := D.ex
  exact ⟨f, fd, ps, F.ok S len fun cdv A outer s H vs Q E hr h => body f cdv A outer s H vs Q E hr h, g, F.kp, b⟩
end
/-- raise X('..') -/
def tRaiseN (C : Addr) (W : WX) : TS := fun _ σ H => W (.ref C) none σ H
section
variable {X : Cx} {W : WX} {C : Addr} {x m : Str} {j : Nat} {p p2 pos pos' : Pos} {k : Nat} {sp : Sp} {e : Expr} {es : List Expr} {t : TA} {E : L2.St → XK} {jj : Nat}
theorem ps_raiseN (hc : X.calm = true) (tk : L2N.Takes X W) (T : Err X.K X.mg x C) (hg : Gl X x) (hdb : (x == ("__debug__" : Str)) = false := by decide) : PS X (.Raise (some (.Call (.Name x p) [.Constant (.str m) j p2] [] pos)) none pos') (tRaiseN C W) :=
  L2N.ps_raise hc tk (L2N.pmk_own PySem.F.excBase_ValueError T.q T.g T.k (raises_own T.sub T.ty) hg hdb)
theorem pe_calN (c : CalN X.prog X.w X.K X.mg X.base k x sp) (hr : Room jj X.A) (hk : k ≤ jj) (hg : Gl X x) (tk : L2N.Takes X W) (ha : PA X (e :: es) t) (hdb : (x == ("__debug__" : Str)) = false := by decide)
    (h1 : starEach (e :: es) X.env = (false, eval e X.env) :: starEach es X.env := by rfl) (h2 : (backTo pos (starEach es X.env)).any (·.1) = false := by rfl) : PE X (.Call (.Name x p) (e :: es) [] pos) (tCallS sp (WE W) t) := by
  obtain ⟨f, fd, ps, F, hm, kp, b⟩ := c.ex
  exact pe_callS F (hr.mono hk) hg hm kp b (fun σ => L2N.passAt tk σ) ha hdb h1 h2
end
/-- nothing is let out -/
theorem tkNone {X : Cx} : L2N.Takes X fun _ _ _ _ => False := fun u s' ⟨_, _, _, _, _, _, _, _, _, _, _, _, _, _, _, _, h⟩ => h.elim
section
variable {σ : L2.St} {H : Hp} {Q : VK} {D : Ends} {C a D' : Addr} {W : WX} {ts : TA} {sp : Sp} {K : PySem.W.Frag} {b : Bool}
theorem i_raiseN (h : W (.ref C) none σ H) : tRaiseN C W D σ H := h
theorem i_callN (h : ts σ H fun vs H1 => sp vs H1 Q (WE W σ)) : tCallS sp (WE W) ts σ H Q := h
theorem i_isXC {d : Option Addr} {E : Addr} (O : ExcC K D') (kb : PySem.W.kitOne K (.ref D') (.ref E) = some b) (h : Q (.bl b) H) : rIsX K a (.ref D') none [.ref a, .ref E] H Q := ⟨D', rfl, rfl, O, .ref E, .ref E, b, rfl, fun u r => r, kb, h⟩
theorem i_isXT {n : String} (O : ExcC K D') (kb : PySem.W.kitOne K (.ref D') (.type n) = some b) (h : Q (.bl b) H) : rIsX K a (.ref D') none [.ref a, .ty n] H Q := ⟨D', rfl, rfl, O, .ty n, .type n, b, rfl, fun u r => r, kb, h⟩
end
/-- the further facts of errors -/
def excB (K : PySem.W.Frag) (D : Addr) : Bool := decide (PySem.W.findIn K (.ref D) "__getattribute__" = some (some (.builtin "BaseException.__getattribute__"))) && decide (PySem.W.findIn K (.ref D) "__getattr__" = some none) && decide (PySem.W.subIn K (.ref D) (.type "BaseException") = some true) && PySem.W.hasDictIn K D && ownB K D
theorem excB_ok {K : PySem.W.Frag} {D : Addr} (h : excB K D = true) : ExcC K D := by
  unfold excB ownB at h
  simp only [Bool.and_eq_true, decide_eq_true_eq] at h
  obtain ⟨⟨⟨⟨h1, h2⟩, h3⟩, h4⟩, ⟨⟨h5, h6⟩, h7⟩, h8⟩ := h
  exact ⟨h1, h2, h3, h4, h5, h6, h7, h8⟩
end Bp
namespace Bp
open PySem PySem.Spec PyProof.Rows L2
def topS (i : Nat) : Stmt := PySem.Challenge.pw_benchpair_k05_written.main.body.getD i (.Pass ⟨0, 0, 0, 0⟩)
local macro_rules | `(tactic| walk_at "st") => `(tactic| first
  | with_reducible refine i_seq ?_ | with_reducible refine i_asg ?_ | with_reducible refine i_op ?_ | ((with_reducible refine i_var0 ?_); refine ⟨_, rfl, ?_⟩) | with_reducible refine i_c ?_
  | with_reducible refine i_nm ?_ | with_reducible refine i_I0 ?_ | with_reducible refine i_cons ?_ | with_reducible refine i_nil ?_ | with_reducible refine i_cb ?_ | with_reducible refine i_cal ?_ | with_reducible refine i_calS ?_
  | with_reducible refine i_ifS ?_ | with_reducible refine i_if ?_ | with_reducible refine i_test ?_ | with_reducible refine i_tB ?_ | with_reducible refine i_bl ?_ | with_reducible refine i_int ?_
  | with_reducible refine i_eqI ?_ | with_reducible refine i_neI ?_ | with_reducible refine i_not ?_ | with_reducible refine i_and ?_ | with_reducible refine i_or ?_ | with_reducible refine i_andV ?_ | with_reducible refine i_orV ?_ | with_reducible refine i_notV ?_
  | with_reducible refine i_un ?_ | with_reducible refine i_U ?_ | with_reducible refine i_ipI ?_ | ((with_reducible refine i_aug0 ?_); refine ⟨_, rfl, ?_⟩) | with_reducible refine i_ret ?_ | with_reducible refine i_drop ?_ | with_reducible refine i_next ?_
  | with_reducible refine i_chain ?_ | with_reducible refine i_ifT ?_ | with_reducible refine i_ifF ?_ | with_reducible refine i_ifNT ?_ | with_reducible refine i_ifNF ?_ | with_reducible refine i_par ?_ | with_reducible refine i_par3 ?_ | with_reducible refine i_par_e ?_ | with_reducible refine i_par3_e ?_
  | with_reducible refine i_gcons ?_ | with_reducible refine i_gnil ?_ | with_reducible refine i_gsub ?_ | with_reducible refine i_tupn ?_ | with_reducible refine i_lstn ?_ | with_reducible refine i_bm ?_ | with_reducible refine i_bm0 ?_
  | with_reducible refine i_sl ?_ | with_reducible refine i_noP ?_ | with_reducible refine i_part ?_ | with_reducible refine i_for ?_ | with_reducible refine i_lc ?_ | with_reducible refine i_iList ?_ | with_reducible refine i_iTup ?_ | with_reducible refine i_iRng1 ?_
  | with_reducible refine i_iEnum ?_ | with_reducible refine i_iRng3 ?_ | with_reducible refine i_revL ?_ | with_reducible refine i_iZip ?_ | with_reducible refine i_yes ?_ | with_reducible refine i_listRg ?_ | with_reducible refine i_eqS ?_ | with_reducible refine i_neS ?_ | with_reducible refine i_m1 ?_ | with_reducible refine i_raiseN ?_ | with_reducible refine i_callN ?_ | with_reducible refine i_notNi ?_ | with_reducible refine i_notNn ?_ | with_reducible refine i_isB ?_ | with_reducible refine i_notB ?_ | with_reducible refine i_eqB ?_ | with_reducible refine i_neB ?_ | with_reducible refine i_fld ?_ | with_reducible refine i_sfld ?_ | with_reducible refine i_met ?_ | with_reducible refine i_mak ?_ | with_reducible refine i_max2 ?_)
local macro_rules | `(tactic| walk_at "go") => `(tactic| repeat walk_at "st")
abbrev s_is_whole : Stmt := topS 7
abbrev n_is_whole : List Str := ["thing"]
theorem sc_is_whole : FnScope n_is_whole ["thing"] (defScope s_is_whole) := ⟨rfl, rfl, rfl, by decide +kernel, rfl, by decide +kernel, by decide +kernel⟩
abbrev s_is_triple : Stmt := topS 8
abbrev n_is_triple : List Str := ["thing", "length"]
theorem sc_is_triple : FnScope n_is_triple ["thing"] (defScope s_is_triple) := ⟨rfl, rfl, rfl, by decide +kernel, rfl, by decide +kernel, by decide +kernel⟩
abbrev s_check_things : Stmt := topS 9
abbrev n_check_things : List Str := ["things", "thing"]
theorem sc_check_things : FnScope n_check_things ["things"] (defScope s_check_things) := ⟨rfl, rfl, rfl, by decide +kernel, rfl, by decide +kernel, by decide +kernel⟩
/-- is_whole, of a whole number -/
def sp_whole : Sp := fun vs H Q _ => ∃ m : Int, vs = [.int m] ∧ Q (.bl true) H
/-- is_triple, of a triple -/
def sp_triple (K : PySem.W.Frag) : Sp := fun vs H Q _ => ∃ (v : V) (t : T3), vs = [v] ∧ IsT K H v t ∧ Nn t ∧ ∀ H', Same H H' → Q (.bl true) H'
/-- check_things, of things -/
def sp_check (K : PySem.W.Frag) : Sp := fun vs H Q _ => ∃ (a : Addr) (ts : List T3), vs = [.ref a] ∧ Things K H a ts ∧ (∀ t ∈ ts, Nn t) ∧ ts.length ≤ 95000 ∧ ∀ H', Same H H' → Q .non H'
section
variable {P : Program} {w : World} {K : PySem.W.Frag} {mg : Str → Option Value} {base : Heap}
theorem ok_is_whole (B : Blt mg) (D : Def K mg "is_whole" s_is_whole ["thing"]) : Cal P w K mg base 1 "is_whole" sp_whole := by
  refine D.cal sc_is_whole (fun vs H Q E h => ?_) (fun f cdv A outer s H vs Q E hr h => ?_)
  · obtain ⟨m, rfl, _⟩ := h
    rfl
  · obtain ⟨m, rfl, q⟩ := h
    refine ⟨_, pss_one (ps_ret (pe_and (pe_callB (r := rIsi K) call_isi (by rfl) B.isinstance (by decide +kernel) (pa_cons (pv 0) (pa_cons (pe_bltn (v := .ty "int") (u := .type "int") (by rfl) B.int (by decide +kernel) rfl) pa_nil))) (pe_one (pe_not (pe_callB (r := rIsi K) call_isi (by rfl) B.isinstance (by decide +kernel) (pa_cons (pv 0) (pa_cons (pe_bltn (v := .ty "bool") (u := .type "bool") (by rfl) B.bool (by decide +kernel) rfl) pa_nil))))))), ?_⟩
    walk_at "go"
    refine i_isi (r := true) ty_int (by decide +kernel) ?_
    walk_at "go"
    refine i_isi (r := false) ty_int (by decide +kernel) ?_
    walk_at "go"
    exact q
theorem ok_is_triple (B : Blt mg) (c_is_whole : Cal P w K mg base 1 "is_whole" sp_whole) (D : Def K mg "is_triple" s_is_triple ["thing"]) : Cal P w K mg base 2 "is_triple" (sp_triple K) := by
  refine D.cal sc_is_triple (fun vs H Q E h => ?_) (fun f cdv A outer s H vs Q E hr h => ?_)
  · obtain ⟨v, t, rfl, _⟩ := h
    rfl
  · obtain ⟨v, t, rfl, ⟨p, rfl, hp⟩, ⟨n1, n2, n3⟩, q⟩ := h
    refine ⟨_, pss_cons (ps_if (PW.pt (pw_or (pt_not (pt_val (pe_callB (r := rIsi K) call_isi (by rfl) B.isinstance (by decide +kernel) (pa_cons (pv 0) (pa_cons (pe_bltn (v := .ty "tuple") (u := .type "tuple") (by rfl) B.tuple (by decide +kernel) rfl) pa_nil))))) (pw_or1 (pt_cmpR op_ne (pe_callB (r := rLenB K) cb_len (by rfl) B.len (by decide +kernel) (pa_cons (pv 0) pa_nil)) pe_int (nomark _)))))
      (pss_one (ps_ret pe_bl))
      (pss_nil))
    (pss_one (ps_ret (pe_callB (r := rAll K) (cr_all rfl) (by rfl) B.all (by decide +kernel) (pa_cons (pe_lc (own := [("length", 1)]) rfl sc_is_triple.nd (pi_tup (pv 0)) (blkOk_by (N := n_is_triple) (sc := defScope s_is_triple) (by decide +kernel)) (fun _ _ _ _ _ => (pg_name (i := 1) sc_is_triple.nd rfl (.inl rfl))) (fun _ _ _ _ _ => pts_nil) (fun _ _ _ _ _ => (pe_and (pe_cal c_is_whole hr (by decide) (by rfl) (pa_cons (pv 1) pa_nil)) (pe_one (pe_cmpR op_ge (pv 1) pe_int (nomark _)))))) pa_nil)))), ?_⟩
    walk_at "go"
    refine i_isi (r := true) (ty_sqT hp) (by decide +kernel) ?_
    walk_at "go"
    refine i_lenT hp ?_
    walk_at "go"
    refine iteF ?_
    walk_at "go"
    refine i_itt hp ?_
    refine fun p0 hp0 => lc_map (K := K) (R := fun _ y _ => y = .bl true) (fun _ h => h) sqn_t (fun H e => Same.t e hp) (by show 3 < 100000; decide) hp0 (fun i x H' Qc Qn hx sm k => ?_) (fun ys H' sm hy hl hr => ?_)
    · walk_at "go"
      refine ⟨rfl, ?_⟩
      have hm : ∃ m : Int, x = .int m ∧ 0 ≤ m := by
        rcases i with _ | _ | _ | i
        · exact ⟨_, (Option.some.inj hx).symm, n1⟩
        · exact ⟨_, (Option.some.inj hx).symm, n2⟩
        · exact ⟨_, (Option.some.inj hx).symm, n3⟩
        · cases hx
      obtain ⟨m, rfl, h0⟩ := hm
      walk_at "go"
      refine ⟨m, rfl, ?_⟩
      walk_at "go"
      exact k _ _ (Same.refl _) (by rw [decide_eq_true h0])
    · walk_at "go"
      have e := all_true hl hr
      rw [e] at hy
      exact i_allT hy (q H' sm)
theorem ok_check_things (B : Blt mg) (c_is_triple : Cal P w K mg base 2 "is_triple" (sp_triple K)) (D : Def K mg "check_things" s_check_things ["things"]) : Cal P w K mg base 3 "check_things" (sp_check K) := by
  refine D.cal sc_check_things (fun vs H Q E h => ?_) (fun f cdv A outer s H vs Q E hr h => ?_)
  · obtain ⟨a, ts, rfl, _⟩ := h
    rfl
  · obtain ⟨a, ts, rfl, ⟨vs, hs, hT⟩, hn, hz, q⟩ := h
    refine ⟨_, pss_one (ps_if (PW.pt (pw_or (pt_not (pt_val (pe_callB (r := rIsi K) call_isi (by rfl) B.isinstance (by decide +kernel) (pa_cons (pv 0) (pa_cons (pe_bltn (v := .ty "list") (u := .type "list") (by rfl) B.list (by decide +kernel) rfl) pa_nil))))) (pw_or1 (pt_not (pt_val (pe_callB (r := rAll K) (cr_all rfl) (by rfl) B.all (by decide +kernel) (pa_cons (pe_lc (own := [("thing", 1)]) rfl sc_check_things.nd (pi_list (pv 0)) (blkOk_by (N := n_check_things) (sc := defScope s_check_things) (by decide +kernel)) (fun _ _ _ _ _ => (pg_name (i := 1) sc_check_things.nd rfl (.inl rfl))) (fun _ _ _ _ _ => pts_nil) (fun _ _ _ _ _ => (pe_cal c_is_triple hr (by decide) (by rfl) (pa_cons (pv 1) pa_nil)))) pa_nil)))))))
      (pss_one (ps_never))
      (pss_nil)), ?_⟩
    walk_at "go"
    refine i_isi (r := true) (ty_sqL hs) (by decide +kernel) ?_
    walk_at "go"
    refine i_itl hs ?_
    refine fun p0 hp0 => lc_map (K := K) (R := fun _ y _ => y = .bl true) (fun _ h => h) sqn_l (fun H' e => e.seq hs) (by rw [hT.len]; omega) hp0 (fun i x H' Qc Qn hx sm k => ?_) (fun ys H' sm hy hl hr => ?_)
    · obtain ⟨t, ht, hx'⟩ := hT.at' hx
      walk_at "go"
      refine ⟨rfl, ?_⟩
      walk_at "go"
      exact ⟨_, t, rfl, hx'.mono (smT sm), hn t (List.mem_of_getElem? ht), fun H'' s' => k _ _ s' rfl⟩
    · have e := all_true hl hr
      rw [e] at hy
      walk_at "go"
      refine i_allT hy ?_
      walk_at "go"
      exact q H' sm
end
abbrev s__law_cell_at : Stmt := topS 17
abbrev n__law_cell_at : List Str := ["_law_script", "_law_k"]
theorem sc__law_cell_at : FnScope n__law_cell_at ["_law_script", "_law_k"] (defScope s__law_cell_at) := ⟨rfl, rfl, rfl, by decide +kernel, rfl, by decide +kernel, by decide +kernel⟩
abbrev s__law_draw : Stmt := topS 18
abbrev n__law_draw : List Str := ["_law_cell", "_law_k", "_law_many", "_law_primes"]
theorem sc__law_draw : FnScope n__law_draw ["_law_cell", "_law_k", "_law_many"] (defScope s__law_draw) := ⟨rfl, rfl, rfl, by decide +kernel, rfl, by decide +kernel, by decide +kernel⟩
abbrev s__law_things : Stmt := topS 19
abbrev n__law_things : List Str := ["_law_script", "_law_kind", "_law_found", "_law_k", "_law_three", "_law_most", "_law_cell", "_law_one", "_law_rest", "_law_dry", "_law_other"]
theorem sc__law_things : FnScope n__law_things ["_law_script"] (defScope s__law_things) := ⟨rfl, rfl, rfl, by decide +kernel, rfl, by decide +kernel, by decide +kernel⟩
/-- _law_cell_at -/
def sp_cell (K : PySem.W.Frag) : Sp := fun vs H Q _ => ∃ (a : Addr) (ns : List Int) (k : Nat), vs = [.ref a, .int (k : Int)] ∧ SqL K H a (ns.map V.int) ∧ Q (.int (ns.getD k 0)) H
/-- _law_draw: some number below many -/
def sp_draw : Sp := fun vs H Q _ => ∃ (c k m : Int), vs = [.int c, .int k, .int m] ∧ 0 ≤ k ∧ 0 < m ∧ ∀ r H', Same H H' → 0 ≤ r → r < m → Q (.int r) H'
section
variable {P : Program} {w : World} {K : PySem.W.Frag} {mg : Str → Option Value} {base : Heap}
theorem ok__law_cell_at (B : Blt mg) (D : Def K mg "_law_cell_at" s__law_cell_at ["_law_script", "_law_k"]) : Cal P w K mg base 1 "_law_cell_at" (sp_cell K) := by
  refine D.cal sc__law_cell_at (fun vs H Q E h => ?_) (fun f cdv A outer s H vs Q E hr h => ?_)
  · obtain ⟨a, ns, k, rfl, _⟩ := h
    rfl
  · obtain ⟨a, ns, k, rfl, hs, q⟩ := h
    refine ⟨_, pss_cons (ps_if (pt_cmpR op_lt (pv 1) (pe_callB (r := rLenB K) cb_len (by rfl) B.len (by decide +kernel) (pa_cons (pv 0) pa_nil)) (nomark _))
      (pss_one (ps_ret (pe_ix (r := rIxL K) ix_list (pv 0) (pv 1) (fun _ _ => rfl))))
      (pss_nil))
    (pss_one (ps_ret pe_int)), ?_⟩
    walk_at "go"
    refine i_lenL hs ?_
    walk_at "go"
    rw [List.length_map]
    refine i_itd (fun c => ?_) (fun c => ?_)
    · walk_at "go"
      have hk : k < ns.length := by omega
      refine i_ixL hs (v := .int (ns.getD k 0)) (atI_nat ?_) ?_
      · rw [List.getElem?_map, List.getD_eq_getElem?_getD, List.getElem?_eq_getElem hk]; rfl
      · exact q
    · walk_at "go"
      have e : ns.getD k 0 = 0 := by
        rw [List.getD_eq_getElem?_getD, List.getElem?_eq_none (by omega)]; rfl
      rw [e] at q
      exact q
def primes : List Int := [1000003, 1000033, 1000037, 1000039, 1000081, 1000099, 1000117, 1000121, 1000133, 1000151, 1000159, 1000171, 1000183, 1000187, 1000193, 1000199]
theorem ok__law_draw (B : Blt mg) (D : Def K mg "_law_draw" s__law_draw ["_law_cell", "_law_k", "_law_many"]) : Cal P w K mg base 1 "_law_draw" sp_draw := by
  refine D.cal sc__law_draw (fun vs H Q E h => ?_) (fun f cdv A outer s H vs Q E hr h => ?_)
  · obtain ⟨c, k, m, rfl, _⟩ := h
    rfl
  · obtain ⟨c, k, m, rfl, hk, hm, q⟩ := h
    refine ⟨_, pss_cons (ps_set (i := 3) sc__law_draw.nd rfl (.inl rfl) (pe_tup (pa_cons pe_int (pa_cons pe_int (pa_cons pe_int (pa_cons pe_int (pa_cons pe_int (pa_cons pe_int (pa_cons pe_int (pa_cons pe_int (pa_cons pe_int (pa_cons pe_int (pa_cons pe_int (pa_cons pe_int (pa_cons pe_int (pa_cons pe_int (pa_cons pe_int (pa_cons pe_int pa_nil))))))))))))))))))
    (pss_one (ps_ret (pe_op op_mod (pe_op op_mod (pe_op op_add (pe_op op_mul (pv 0) pe_int) (pe_op op_mul (pv 1) pe_int)) (pe_ix (r := rIxT K) ix_tup (pv 3) (pe_op op_mod (pv 1) pe_int) (fun _ _ => rfl))) (pv 2)))), ?_⟩
    walk_at "go"
    refine i_tupk (xs := primes.map V.int) (by show 16 ≤ 100000; decide) fun p H1 np s1 h1 => ?_
    walk_at "go"
    refine i_I (.inr ⟨by decide, by decide⟩) ?_
    walk_at "go"
    refine i_I (.inr ⟨by decide, by decide⟩) ?_
    walk_at "go"
    refine i_I (by show (0 : Int) < 16; decide) ?_
    walk_at "go"
    have hj : (k % 16).toNat < primes.length := by show (k % 16).toNat < 16; omega
    have ej : k % 16 = (((k % 16).toNat : Nat) : Int) := by omega
    have hpos : ∀ x ∈ primes, 0 < x := by decide
    obtain ⟨pr, hpr⟩ : ∃ pr, primes[(k % 16).toNat]? = some pr := ⟨_, List.getElem?_eq_getElem hj⟩
    refine i_ixT (SqT.of h1) (v := .int pr) (by rw [ej]; exact atI_nat (by rw [List.getElem?_map, hpr]; rfl)) ?_
    refine i_I (hpos pr (List.mem_of_getElem? hpr)) ?_
    walk_at "go"
    refine i_I hm ?_
    exact q _ _ s1 (Int.emod_nonneg _ (by omega)) (Int.emod_lt_of_pos _ hm)
/-- lengths of at most sixty figures -/
def Sm (t : T3) : Prop := Nn t ∧ t.1 < 10 ^ 60 ∧ t.2.1 < 10 ^ 60 ∧ t.2.2 < 10 ^ 60
def sp_things (K : PySem.W.Frag) : Sp := fun vs H Q _ => ∃ (a : Addr) (ns : List Int), vs = [.ref a] ∧ SqL K H a (ns.map V.int) ∧ ns.length ≤ 63 ∧
  ∀ H' p vs' ts, Same H H' → H p = none → H' p = some (.lst vs') → ThL K H' vs' ts → (∀ t ∈ ts, Sm t) → ts.length ≤ 189 → Q (.ref p) H'
theorem p60_59 {r : Int} (h : r < (10 : Int) ^ (59 : Int).toNat) : r < 10 ^ 60 := Int.lt_trans h (by decide)
theorem p60_20 {r m : Int} (h : r < m) (hm : m ≤ 10 ^ 20) : r < 10 ^ 60 := Int.lt_trans (Int.lt_of_lt_of_le h hm) (by decide)
theorem dr_bound {r m : Int} (h0 : 0 ≤ r) (h1 : r < 200) (hm : 0 < m) (hm1 : m ≤ 10 ^ 20) : 0 ≤ r * m / 9 ∧ r * m / 9 < 10 ^ 60 := by
  have a := Int.mul_nonneg h0 (Int.le_of_lt hm)
  have b : r * m ≤ 200 * 10 ^ 20 := Int.mul_le_mul (Int.le_of_lt h1) hm1 (Int.le_of_lt hm) (by decide)
  have c : (200 : Int) * 10 ^ 20 < 10 ^ 60 := by decide
  generalize r * m = z at *
  omega
def mosts : List Int := [3, 10, (10 : Int) ^ (20 : Int).toNat]
def drys : List Int := [1, 30, 200]
theorem ok__law_things (B : Blt mg) (c__law_cell_at : Cal P w K mg base 1 "_law_cell_at" (sp_cell K)) (c__law_draw : Cal P w K mg base 1 "_law_draw" sp_draw) (D : Def K mg "_law_things" s__law_things ["_law_script"]) : Cal P w K mg base 2 "_law_things" (sp_things K) := by
  refine D.cal sc__law_things (fun vs H Q E h => ?_) (fun f cdv A outer s H vs Q E hr h => ?_)
  · obtain ⟨a, ns, rfl, _⟩ := h
    rfl
  · obtain ⟨a, ns, rfl, hs, hz, q⟩ := h
    refine ⟨_, pss_cons (ps_set (i := 0) sc__law_things.nd rfl (.inl rfl) (pe_slice (r := rSlL K) sl_list (pv 0) po_none (po_some pe_int)))
    (pss_cons (ps_par (i := 1) (j := 2) rfl sc__law_things.nd rfl rfl (by decide) rfl rfl (pa_cons (pe_cal c__law_draw hr (by decide) (by rfl) (pa_cons (pe_cal c__law_cell_at hr (by decide) (by rfl) (pa_cons (pv 0) (pa_cons pe_int pa_nil))) (pa_cons pe_int (pa_cons pe_int pa_nil)))) (pa_cons (pe_lst pa_nil) pa_nil)) (by rfl))
    (pss_cons (ps_if (pt_cmpR op_eq (pe_op op_mod (pe_callB (r := rLenB K) cb_len (by rfl) B.len (by decide +kernel) (pa_cons (pv 0) pa_nil)) pe_int) pe_int (nomark _))
      (pss_cons (ps_for PassesOwn.never rfl (pi_range3 (by rfl) B.range (pa_cons pe_int (pa_cons (pe_callB (r := rLenB K) cb_len (by rfl) B.len (by decide +kernel) (pa_cons (pv 0) pa_nil)) (pa_cons pe_int pa_nil)))) (pg_name (i := 3) sc__law_things.nd rfl (.inl rfl))
          (pss_cons (ps_setLc (i := 4) (own := [("_law_cell", 6)]) rfl sc__law_things.nd rfl rfl (sw_true rfl rfl rfl (by decide +kernel)) (pi_list (pe_slice (r := rSlL K) sl_list (pv 0) (po_some (pv 3)) (po_some (pe_op op_add (pv 3) pe_int)))) (blkOk_by (N := n__law_things) (sc := defScope s__law_things) (by decide +kernel)) (fun _ _ _ _ _ => (pg_name (i := 6) sc__law_things.nd rfl (.inl rfl))) (fun _ _ _ _ _ => pts_nil) (fun _ _ _ _ _ => (pe_op op_mod (pv 6) (pe_op op_pow pe_int pe_int))))
            (pss_one (ps_expr (pe_bm PySem.F.plainAttrs_list PySem.F.slot_list_append PySem.F.type_list_append mt_append (pv 2) (pa_cons (pe_tup (pa_cons (pe_ix (r := rIxL K) ix_list (pv 4) pe_int (fun _ _ => rfl)) (pa_cons (pe_ix (r := rIxL K) ix_list (pv 4) pe_int (fun _ _ => rfl)) (pa_cons (pe_ix (r := rIxL K) ix_list (pv 4) pe_int (fun _ _ => rfl)) pa_nil)))) pa_nil))))))
        (pss_one (ps_ret (pv 2))))
      (pss_nil))
    (pss_cons (ps_set (i := 5) sc__law_things.nd rfl (.inl rfl) (pe_ix (r := rIxT K) ix_tup (pe_tup (pa_cons pe_int (pa_cons pe_int (pa_cons (pe_op op_pow pe_int pe_int) pa_nil)))) (pe_cal c__law_draw hr (by decide) (by rfl) (pa_cons (pe_cal c__law_cell_at hr (by decide) (by rfl) (pa_cons (pv 0) (pa_cons pe_int pa_nil))) (pa_cons pe_int (pa_cons pe_int pa_nil)))) (fun _ _ => rfl)))
    (pss_cons (ps_for PassesOwn.never rfl (pi_range1 (by rfl) B.range (pa_cons (pe_op op_mul (pe_callB (r := rLenB K) cb_len (by rfl) B.len (by decide +kernel) (pa_cons (pv 0) pa_nil)) (pe_ifExp (pt_cmpR op_eq (pv 1) pe_int (nomark _)) pe_int pe_int)) pa_nil)) (pg_name (i := 3) sc__law_things.nd rfl (.inl rfl))
      (pss_cons (ps_set (i := 6) sc__law_things.nd rfl (.inl rfl) (pe_op op_add (pe_ix (r := rIxL K) ix_list (pv 0) (pe_op op_mod (pv 3) (pe_callB (r := rLenB K) cb_len (by rfl) B.len (by decide +kernel) (pa_cons (pv 0) pa_nil))) (fun _ _ => rfl)) (pe_op op_mul pe_int (pe_op op_fdivW (pv 3) (pe_callB (r := rLenB K) cb_len (by rfl) B.len (by decide +kernel) (pa_cons (pv 0) pa_nil))))))
        (pss_cons (ps_par (i := 7) (j := 8) rfl sc__law_things.nd rfl rfl (by decide) rfl rfl (pa_cons (pe_op op_mod (pv 6) (pv 5)) (pa_cons (pe_op op_fdivW (pv 6) (pv 5)) pa_nil)) (by rfl))
        (pss_cons (ps_par (i := 9) (j := 10) rfl sc__law_things.nd rfl rfl (by decide) rfl rfl (pa_cons (pe_op op_mod (pv 8) (pv 5)) (pa_cons (pe_op op_mod (pe_op op_fdivW (pv 8) (pv 5)) (pv 5)) pa_nil)) (by rfl))
        (pss_mid (ps_if (pt_cmpR op_gt (pv 1) pe_int (nomark _))
          (pss_cons (ps_set (i := 7) sc__law_things.nd rfl (.inl rfl) (pe_op op_fdivW (pe_op op_mul (pe_cal c__law_draw hr (by decide) (by rfl) (pa_cons (pv 6) (pa_cons (pe_op op_add (pe_op op_mod (pv 3) pe_int) pe_int) (pa_cons pe_int pa_nil)))) (pv 5)) pe_int))
            (pss_cons (ps_set (i := 9) sc__law_things.nd rfl (.inl rfl) (pe_op op_fdivW (pe_op op_mul (pe_cal c__law_draw hr (by decide) (by rfl) (pa_cons (pe_op op_add (pe_op op_mul (pv 6) pe_int) (pv 3)) (pa_cons (pe_op op_add (pe_op op_mod (pv 3) pe_int) pe_int) (pa_cons (pe_ix (r := rIxT K) ix_tup (pe_tup (pa_cons pe_int (pa_cons pe_int (pa_cons pe_int pa_nil)))) (pe_cal c__law_draw hr (by decide) (by rfl) (pa_cons (pv 6) (pa_cons pe_int (pa_cons pe_int pa_nil)))) (fun _ _ => rfl)) pa_nil)))) (pv 5)) pe_int))
            (pss_one (ps_set (i := 10) sc__law_things.nd rfl (.inl rfl) (pe_op op_fdivW (pe_op op_mul (pe_cal c__law_draw hr (by decide) (by rfl) (pa_cons (pe_op op_add (pe_op op_mul (pv 6) pe_int) pe_int) (pa_cons (pe_op op_add (pe_op op_mod (pv 3) pe_int) pe_int) (pa_cons pe_int pa_nil)))) (pv 5)) pe_int)))))
          (pss_nil))
        (pss_mid (ps_if (pt_cmpR op_eq (pv 1) pe_int (nomark _))
          (pss_one (ps_set (i := 9) sc__law_things.nd rfl (.inl rfl) pe_int))
          (pss_nil))
        (pss_mid (ps_if (PW.pt (pw_and (pt_cmpR op_eq (pv 1) pe_int (nomark _)) (pw_and1 (pt_cmpR op_lt (pv 7) (pv 10) (nomark _)))))
          (pss_one (ps_par (i := 7) (j := 10) rfl sc__law_things.nd rfl rfl (by decide) rfl rfl (pa_cons (pv 10) (pa_cons (pv 7) pa_nil)) (by rfl)))
          (pss_nil))
        (pss_one (ps_expr (pe_bm PySem.F.plainAttrs_list PySem.F.slot_list_append PySem.F.type_list_append mt_append (pv 2) (pa_cons (pe_tup (pa_cons (pv 7) (pa_cons (pv 9) (pa_cons (pv 10) pa_nil)))) pa_nil)))))))))))
    (pss_one (ps_ret (pv 2))))))), ?_⟩
    walk_at "go"
    refine i_slL hs fun p1 H1 np1 s1 h1 => ?_
    rw [show (63 : Int) = ((63 : Nat) : Int) from rfl, cut_to, List.take_of_length_le (by rw [List.length_map]; exact hz)] at h1
    walk_at "go"
    refine ⟨p1, ns, 0, rfl, SqL.of h1, ?_⟩
    walk_at "go"
    refine ⟨_, 6, 6, rfl, by decide, by decide, fun kind H2 s2 hk0 hk1 => ?_⟩
    walk_at "go"
    refine i_lstk (Nat.zero_le _) fun pf H3 npf s3 h3 => ?_
    have sl : ∀ {H'}, Same H2 H' → SqL K H' p1 (ns.map V.int) := fun e => e.seq (s2.seq (SqL.of h1))
    have nf : H pf = none := (s1.trans s2).free npf
    walk_at "go"
    refine i_lenL (sl s3) ?_
    walk_at "go"
    refine i_I (by show (0 : Int) < 3; decide) ?_
    walk_at "go"
    rw [List.length_map]
    refine i_itd (fun c3 => ?_) (fun c3 => ?_)
    · walk_at "go"
      refine i_lenL (sl s3) ?_
      walk_at "go"
      rw [List.length_map]
      refine i_itc (rg3 hz) ?_
      refine for_rangeC (fun i σ' H' => ∃ y3 y4 vs' ts, σ' = [some (.ref p1), some (.int kind), some (.ref pf), y3, y4, none, none, none, none, none, none] ∧ Same H2 H' ∧ H' pf = some (.lst vs') ∧ ThL K H' vs' ts ∧ (∀ t ∈ ts, Sm t) ∧ ts.length = i) ?_ ?_ ?_
      · exact ⟨_, _, [], [], rfl, s3, h3, All2.nil, (fun t h => by cases h), rfl⟩
      · rintro i σ' H' hi ⟨y3, y4, vs', ts, rfl, sm, hf, hT, hS, hl⟩
        walk_at "go"
        refine i_slL (sl sm) fun p4 H4 np4 s4 h4 => ?_
        have hi3 : i * 3 + 3 ≤ ns.length := by omega
        rw [show (0 : Int) + (i : Nat) * 3 = ((i * 3 : Nat) : Int) by omega, show ((i * 3 : Nat) : Int) + 3 = ((i * 3 + 3 : Nat) : Int) by omega, cut_mid _ _ _ (by rw [List.length_map]; exact hi3)] at h4
        walk_at "go"
        refine i_itl (SqL.of h4) ?_
        have l3 : (((ns.map V.int).drop (i * 3)).take 3).length = 3 := by rw [List.length_take, List.length_drop, List.length_map]; omega
        refine fun p5 np5 => lc_map (K := K) (R := fun _ y _ => ∃ r : Int, y = .int r ∧ 0 ≤ r ∧ r < (10 : Int) ^ (59 : Int).toNat) (fun _ h => h) sqn_l (fun H' e => e.seq (SqL.of h4)) (by rw [l3]; decide) np5 (fun j x H' Qc Qn hx sm k => ?_) (fun ys H5 s5 hy hl5 hr5 => ?_)
        · obtain ⟨m, rfl⟩ : ∃ m : Int, x = .int m := by
            have hm := List.mem_of_mem_drop (List.mem_of_mem_take (List.mem_of_getElem? hx))
            obtain ⟨m, _, e⟩ := List.mem_map.mp hm
            exact ⟨m, e.symm⟩
          walk_at "go"
          refine ⟨rfl, ?_⟩
          walk_at "go"
          refine i_I (⟨by decide, by decide, by decide⟩ : CPow 10 59) ?_
          have pp : (0 : Int) < (10 : Int) ^ (59 : Int).toNat := by decide
          refine i_I pp ?_
          exact k _ _ (Same.refl _) ⟨_, rfl, Int.emod_nonneg _ (by omega), Int.emod_lt_of_pos _ pp⟩
        · rw [l3] at hl5
          obtain ⟨r0, e0, b0, c0⟩ := hr5 0 ys[0] (List.getElem?_eq_getElem (by omega))
          obtain ⟨r1, e1, b1, c1⟩ := hr5 1 ys[1] (List.getElem?_eq_getElem (by omega))
          obtain ⟨r2, e2, b2, c2⟩ := hr5 2 ys[2] (List.getElem?_eq_getElem (by omega))
          have nf5 : H5 pf = some (.lst vs') := s5 _ _ (s4 _ _ hf)
          walk_at "go"
          refine ⟨ty_lst nf5, ?_⟩
          walk_at "go"
          refine i_ixL (SqL.of hy) (v := .int r0) (atI_nat (j := 0) (by rw [← e0]; exact List.getElem?_eq_getElem (by omega))) ?_
          walk_at "go"
          refine i_ixL (SqL.of hy) (v := .int r1) (atI_nat (j := 1) (by rw [← e1]; exact List.getElem?_eq_getElem (by omega))) ?_
          walk_at "go"
          refine i_ixL (SqL.of hy) (v := .int r2) (atI_nat (j := 2) (by rw [← e2]; exact List.getElem?_eq_getElem (by omega))) ?_
          walk_at "go"
          refine i_tupk (by show 3 ≤ 100000; decide) fun p6 H6 np6 s6 h6 => ?_
          walk_at "go"
          refine i_app (s6 _ _ nf5) (by rw [hT.len, hl]; omega) ?_
          walk_at "go"
          refine ⟨_, _, vs' ++ [.ref p6], ts ++ [(r0, r1, r2)], rfl, Same.mut (((sm.trans s4).trans s5).trans s6) npf, upd_same, ThL.mono (sameT_lst (s6 _ _ nf5)) (All2.snoc (ThL.mono (smT ((s4.trans s5).trans s6)) hT) ⟨p6, rfl, SqT.of h6⟩), fun t ht => ?_, by rw [List.length_append, hl]; rfl⟩
          rcases List.mem_append.mp ht with ht | ht
          · exact hS t ht
          · rw [List.mem_singleton.mp ht]
            exact ⟨⟨b0, b1, b2⟩, p60_59 c0, p60_59 c1, p60_59 c2⟩
      · rintro σ' H' ⟨y3, y4, vs', ts, rfl, sm, hf, hT, hS, hl⟩
        walk_at "go"
        exact q H' pf vs' ts ((s1.trans s2).trans sm) nf hf hT hS (by omega)
    · walk_at "go"
      refine i_I (⟨by decide, by decide, by decide⟩ : CPow 10 20) ?_
      walk_at "go"
      refine i_tupk (xs := mosts.map V.int) (by show 3 ≤ 100000; decide) fun pt H4 npt s4 h4 => ?_
      walk_at "go"
      refine ⟨p1, ns, 1, rfl, sl (s3.trans s4), ?_⟩
      walk_at "go"
      refine ⟨_, 7, 3, rfl, by decide, by decide, fun r H5 s5 r0 r1 => ?_⟩
      have er : r = ((r.toNat : Nat) : Int) := by omega
      obtain ⟨most, hmost⟩ : ∃ m, mosts[r.toNat]? = some m := ⟨_, List.getElem?_eq_getElem (by show r.toNat < 3; omega)⟩
      have hm : 0 < most ∧ most ≤ 10 ^ 20 := (by decide : ∀ x ∈ mosts, 0 < x ∧ x ≤ 10 ^ 20) most (List.mem_of_getElem? hmost)
      have hml : most.natAbs.log2 < 9000 := log_small (by
        have h1 := hm.2
        have h2 : (10 : Int) ^ 20 < 2 ^ 200 := by decide
        have h3 : ((most.natAbs : Nat) : Int) < ((2 ^ 200 : Nat) : Int) := by
          rw [show ((2 ^ 200 : Nat) : Int) = (2 : Int) ^ 200 by decide]
          omega
        exact Int.ofNat_lt.mp h3)
      refine i_ixT (SqT.of (s5 _ _ h4)) (v := .int most) (by rw [er]; exact atI_nat (by rw [List.getElem?_map, hmost]; rfl)) ?_
      walk_at "go"
      have sq5 : Same H2 H5 := (s3.trans s4).trans s5
      refine i_lenL (sl sq5) ?_
      walk_at "go"
      rw [List.length_map]
      refine i_itdC fun v hv => ?_
      obtain ⟨c, rfl, hc⟩ : ∃ c : Nat, v = .int (c : Int) ∧ c ≤ 3 := by
        rcases hv with rfl | rfl
        · exact ⟨3, rfl, by decide⟩
        · exact ⟨1, rfl, by decide⟩
      refine i_I (.inl ⟨by omega, by omega⟩) ?_
      walk_at "go"
      have hmul : ns.length * c ≤ 189 := Nat.mul_le_mul hz hc
      refine i_itr (m := ns.length * c) (by rw [Int.natCast_mul]) (by omega) ?_
      refine for_rng (fun i σ' H' => ∃ y3 y6 y7 y8 y9 y10 vs' ts, σ' = [some (.ref p1), some (.int kind), some (.ref pf), y3, none, some (.int most), y6, y7, y8, y9, y10] ∧ Same H2 H' ∧ H' pf = some (.lst vs') ∧ ThL K H' vs' ts ∧ (∀ t ∈ ts, Sm t) ∧ ts.length = i) ?_ ?_ ?_
      · exact ⟨_, _, _, _, _, _, [], [], rfl, sq5, s5 _ _ (s4 _ _ h3), All2.nil, (fun t h => by cases h), rfl⟩
      · rintro i σ' H' hi ⟨y3, y6, y7, y8, y9, y10, vs', ts, rfl, sm, hf, hT, hS, hl⟩
        have hpos : 0 < ns.length := by
          rcases Nat.eq_zero_or_pos ns.length with e | e
          · rw [e, Nat.zero_mul] at hi; omega
          · exact e
        walk_at "go"
        refine i_lenL (sl sm) ?_
        rw [List.length_map]
        refine i_I (by omega) ?_
        have hix : ((i : Int) % (ns.length : Int)) = ((i % ns.length : Nat) : Int) := by omega
        obtain ⟨n0, hn0⟩ : ∃ m, ns[i % ns.length]? = some m := ⟨_, List.getElem?_eq_getElem (Nat.mod_lt _ hpos)⟩
        refine i_ixL (sl sm) (v := .int n0) (by rw [hix]; exact atI_nat (by rw [List.getElem?_map, hn0]; rfl)) ?_
        walk_at "go"
        refine i_lenL (sl sm) ?_
        rw [List.length_map]
        refine i_I (⟨by omega, log_small (by rw [Int.natAbs_natCast]; exact Nat.lt_of_le_of_lt hz (by decide))⟩ : CDivW _ _) ?_
        refine i_I (.inl ⟨by decide, by decide⟩) ?_
        walk_at "go"
        generalize n0 + 977 * ((i : Int) / (ns.length : Int)) = cell
        refine i_I hm.1 ?_
        walk_at "go"
        refine i_I (⟨hm.1, hml⟩ : CDivW _ _) ?_
        walk_at "go"
        refine i_I hm.1 ?_
        walk_at "go"
        refine i_I (⟨hm.1, hml⟩ : CDivW _ _) ?_
        walk_at "go"
        refine i_I hm.1 ?_
        walk_at "go"
        have md : ∀ x : Int, 0 ≤ x % most ∧ x % most < 10 ^ 60 := fun x => ⟨Int.emod_nonneg _ (by omega), p60_20 (Int.emod_lt_of_pos _ hm.1) hm.2⟩
        have b1 := md cell
        have b2 := md (cell / most)
        have b3 := md (cell / most / most)
        generalize cell % most = one0 at b1
        generalize cell / most % most = dry0 at b2
        generalize cell / most / most % most = oth0 at b3
        generalize cell / most = rest0
        let W : L2.St → Hp → Prop := fun σ'' H'' => ∃ one dry oth : Int, σ'' = [some (.ref p1), some (.int kind), some (.ref pf), some (.int (i : Int)), none, some (.int most), some (.int cell), some (.int one), some (.int rest0), some (.int dry), some (.int oth)] ∧ Same H' H'' ∧ (0 ≤ one ∧ one < 10 ^ 60) ∧ (0 ≤ dry ∧ dry < 10 ^ 60) ∧ (0 ≤ oth ∧ oth < 10 ^ 60)
        refine i_mid W ?_ ?_
        · walk_at "go"
          refine i_itd (fun c2 => ?_) (fun c2 => ?_)
          · walk_at "go"
            refine i_I (by show (0 : Int) < 5; decide) ?_
            walk_at "go"
            refine ⟨_, _, 30, rfl, by omega, by decide, fun d1 H6 s6 d10 d11 => ?_⟩
            walk_at "go"
            refine i_I (.inl ⟨by omega, by omega⟩) ?_
            walk_at "go"
            refine i_I (⟨by decide, by decide⟩ : CDivW _ 9) ?_
            walk_at "go"
            refine i_I (.inr ⟨by decide, by decide⟩) ?_
            walk_at "go"
            refine i_I (by show (0 : Int) < 7; decide) ?_
            walk_at "go"
            refine i_tupk (xs := drys.map V.int) (by show 3 ≤ 100000; decide) fun pd H7 npd s7 h7 => ?_
            walk_at "go"
            refine ⟨_, 3, 3, rfl, by decide, by decide, fun r2 H8 s8 r20 r21 => ?_⟩
            have er2 : r2 = ((r2.toNat : Nat) : Int) := by omega
            obtain ⟨dm, hdm⟩ : ∃ m, drys[r2.toNat]? = some m := ⟨_, List.getElem?_eq_getElem (by show r2.toNat < 3; omega)⟩
            have hd : 0 < dm ∧ dm ≤ 200 := (by decide : ∀ x ∈ drys, 0 < x ∧ x ≤ 200) dm (List.mem_of_getElem? hdm)
            refine i_ixT (SqT.of (s8 _ _ h7)) (v := .int dm) (by rw [er2]; exact atI_nat (by rw [List.getElem?_map, hdm]; rfl)) ?_
            walk_at "go"
            refine ⟨_, _, dm, rfl, by omega, hd.1, fun d2 H9 s9 d20 d21 => ?_⟩
            walk_at "go"
            refine i_I (.inl ⟨by omega, by omega⟩) ?_
            walk_at "go"
            refine i_I (⟨by decide, by decide⟩ : CDivW _ 9) ?_
            walk_at "go"
            refine i_I (.inr ⟨by decide, by decide⟩) ?_
            walk_at "go"
            refine i_I (by show (0 : Int) < 3; decide) ?_
            walk_at "go"
            refine ⟨_, _, 30, rfl, by omega, by decide, fun d3 H10 s10 d30 d31 => ?_⟩
            walk_at "go"
            refine i_I (.inl ⟨by omega, by omega⟩) ?_
            walk_at "go"
            refine i_I (⟨by decide, by decide⟩ : CDivW _ 9) ?_
            walk_at "go"
            exact ⟨_, _, _, rfl, (((s6.trans s7).trans s8).trans s9).trans s10, dr_bound d10 (by omega) hm.1 hm.2, dr_bound d20 (by omega) hm.1 hm.2, dr_bound d30 (by omega) hm.1 hm.2⟩
          · walk_at "go"
            exact ⟨one0, dry0, oth0, rfl, Same.refl _, b1, b2, b3⟩
        · rintro σ2 H6 ⟨one, dry, oth, rfl, s6, c1, c2, c3'⟩
          refine i_mid W ?_ ?_
          · walk_at "go"
            refine i_itd (fun c2 => ?_) (fun c2 => ?_)
            · walk_at "go"
              exact ⟨one, 0, oth, rfl, s6, c1, ⟨by decide, by decide⟩, c3'⟩
            · walk_at "go"
              exact ⟨one, dry, oth, rfl, s6, c1, by assumption, c3'⟩
          · rintro σ3 H7 ⟨one, dry, oth, rfl, s7, c1, c2, c3'⟩
            refine i_mid W ?_ ?_
            · walk_at "go"
              refine i_itd (fun k4 => ?_) (fun k4 => ?_)
              · walk_at "go"
                refine i_itd (fun k5 => ?_) (fun k5 => ?_)
                · walk_at "go"
                  exact ⟨oth, dry, one, rfl, s7, c3', c2, c1⟩
                · walk_at "go"
                  exact ⟨one, dry, oth, rfl, s7, c1, c2, c3'⟩
              · walk_at "go"
                exact ⟨one, dry, oth, rfl, s7, c1, c2, c3'⟩
            · rintro σ4 H8 ⟨one, dry, oth, rfl, s8, c1, c2, c3'⟩
              have hf8 := s8 _ _ hf
              walk_at "go"
              refine ⟨ty_lst hf8, ?_⟩
              walk_at "go"
              refine i_tupk (by show 3 ≤ 100000; decide) fun p6 H9 np6 s9 h9 => ?_
              walk_at "go"
              refine i_app (s9 _ _ hf8) (by rw [hT.len, hl]; omega) ?_
              walk_at "go"
              refine ⟨_, _, _, _, _, _, vs' ++ [.ref p6], ts ++ [(one, dry, oth)], rfl, Same.mut ((sm.trans s8).trans s9) npf, upd_same, ThL.mono (sameT_lst (s9 _ _ hf8)) (All2.snoc (ThL.mono (smT (s8.trans s9)) hT) ⟨p6, rfl, SqT.of h9⟩), fun t ht => ?_, by rw [List.length_append, hl]; rfl⟩
              rcases List.mem_append.mp ht with ht | ht
              · exact hS t ht
              · rw [List.mem_singleton.mp ht]
                exact ⟨⟨c1.1, c2.1, c3'.1⟩, c1.2, c2.2, c3'.2⟩
      · rintro σ' H' ⟨y3, y6, y7, y8, y9, y10, vs', ts, rfl, sm, hf, hT, hS, hl⟩
        walk_at "go"
        exact q H' pf vs' ts ((s1.trans s2).trans sm) nf hf hT hS (by omega)
end
open SX
abbrev s_written : Stmt := topS 13
abbrev n_written : List Str := ["things", "thing", "length"]
theorem sc_written : FnScope n_written ["things"] (defScope s_written) := ⟨rfl, rfl, rfl, by decide +kernel, rfl, by decide +kernel, by decide +kernel⟩
abbrev s_number_in : Stmt := topS 14
abbrev n_number_in : List Str := ["word"]
theorem sc_number_in : FnScope n_number_in ["word"] (defScope s_number_in) := ⟨rfl, rfl, rfl, by decide +kernel, rfl, by decide +kernel, by decide +kernel⟩
abbrev s_read : Stmt := topS 15
abbrev n_read : List Str := ["text", "found", "word", "parts"]
theorem sc_read : FnScope n_read ["text"] (defScope s_read) := ⟨rfl, rfl, rfl, by decide +kernel, rfl, by decide +kernel, by decide +kernel⟩
def figs : List Nat := [48, 49, 50, 51, 52, 53, 54, 55, 56, 57]
theorem figs_mem {c : Nat} : c ∈ figs ↔ (48 ≤ c ∧ c ≤ 57) := by
  unfold figs
  simp only [List.mem_cons, List.not_mem_nil, or_false]
  omega
theorem num_yes {w : List Nat} (h1 : 1 ≤ w.length) (h2 : w.length ≤ 60) (h3 : ∀ c ∈ w, c ∈ figs) (h4 : ¬ (w.head? = some 48 ∧ w ≠ [48])) : num? w = some ((PySem.NumText.digitsVal w : Nat) : Int) := by
  unfold num?
  rw [if_pos]
  unfold numOk
  rw [decide_eq_true h1, decide_eq_true h2, Bool.true_and, Bool.true_and, Bool.and_eq_true]
  refine ⟨List.all_eq_true.mpr fun c hc => ?_, ?_⟩
  · obtain ⟨k1, k2⟩ := figs_mem.mp (h3 c hc)
    unfold dig
    rw [decide_eq_true k1, decide_eq_true k2]; rfl
  · by_cases e1 : w.head? = some 48
    · rw [decide_eq_false (fun e2 => h4 ⟨e1, e2⟩), Bool.and_false]; rfl
    · rw [decide_eq_false e1]; rfl
theorem num_no {w : List Nat} (h : ¬ (1 ≤ w.length ∧ w.length ≤ 60 ∧ (∀ c ∈ w, c ∈ figs) ∧ ¬ (w.head? = some 48 ∧ w ≠ [48]))) : num? w = none := by
  unfold num?
  rw [if_neg]
  intro k
  obtain ⟨k1, k2, k3, k4⟩ := numOk_all k
  exact h ⟨k1, k2, fun c hc => figs_mem.mpr (k3 c hc), k4⟩
theorem e_nil : Str.ofString "" = S [] := rfl
theorem e_zero : Str.ofString "0" = S [48] := rfl
def sp_numin (cT : Addr) : Sp := fun vs H Q E => ∃ w : List Nat, vs = [.str (S w)] ∧ w.length ≤ 500000 ∧ (∀ z, num? w = some z → Q (.int z) H) ∧ (num? w = none → E (.ref cT) none H)
theorem spl_mem (c : Nat) : ∀ (a acc : List Nat), ∀ p ∈ TL.spl [c] 0 acc a, p.length ≤ acc.length + a.length
  | [], acc, p, h => by
    have e : p = acc := by simpa [TL.spl] using h
    rw [e]; omega
  | x :: r, acc, p, h => by
    unfold TL.spl at h
    split at h
    · rcases List.mem_cons.mp h with e | h
      · rw [e]; omega
      · have := spl_mem c r [] p h
        rw [List.length_cons]
        simp at this
        omega
    · have := spl_mem c r (acc ++ [x]) p h
      rw [List.length_append] at this
      rw [List.length_cons]
      simp at this
      omega
theorem words_fail {w : List Nat} : ∀ {ws : List (List Nat)} {i : Nat}, ws[i]? = some w → three? (TL.spl [47] 0 [] w) = none → words? ws = none
  | [], i, h, _ => by simp at h
  | x :: r, 0, h, k => by
    have e : x = w := by simpa using h
    subst e
    unfold words?
    rw [k]
  | x :: r, i + 1, h, k => by
    have ih := words_fail (ws := r) (i := i) (by simpa using h) k
    unfold words?
    rw [ih]
    cases three? (TL.spl [47] 0 [] x) <;> rfl
theorem words_snoc {w : List Nat} {t : T3} : ∀ {l : List (List Nat)} {ts : List T3}, words? l = some ts → three? (TL.spl [47] 0 [] w) = some t → words? (l ++ [w]) = some (ts ++ [t])
  | [], ts, h, k => by
    have e := Option.some.inj h
    subst e
    show (match three? (TL.spl [47] 0 [] w), words? [] with
      | some t, some ts => some (t :: ts)
      | _, _ => none) = _
    rw [k]; rfl
  | x :: r, ts, h, k => by
    unfold words? at h
    split at h
    · rename_i u us h1 h2
      have e := Option.some.inj h
      subst e
      have ih := words_snoc h2 k
      show (match three? (TL.spl [47] 0 [] x), words? (r ++ [w]) with
        | some t, some ts => some (t :: ts)
        | _, _ => none) = _
      rw [h1, ih]; rfl
    · cases h
theorem e_sp : Str.ofString " " = S [32] := rfl
theorem e_sl : Str.ofString "/" = S [47] := rfl
theorem e_mi : Str.ofString "-" = S [45] := rfl
theorem i_splitS {H : Hp} {Q : VK} {a : List Nat} {c : Nat} {x : Str} (ex : x = S [c]) (hc : c < 256) (hz : a.length ≤ 500000) (h : ∀ p H', H p = none → Same H H' → H' p = some (.lst (((TL.spl [c] 0 [] a).map S).map V.str)) → Q (.ref p) H') : rSplitS (.str (S a)) [.str x] H Q := by
  subst ex
  refine ⟨S a, S [c], rfl, rfl, rfl, by rw [S_len]; exact Nat.le_trans (Nat.add_le_add_right hz 2) (by decide), fun p np => ?_⟩
  have e := split_S (a := a) (b := [c]) (by simp) (by simpa using hc)
  exact h p _ np (Same.upd np) (by rw [upd_same, e])
def sp_read (K : PySem.W.Frag) (cT : Addr) : Sp := fun vs H Q E => ∃ v, vs = [v] ∧ ((∃ a, v = .str (S a) ∧ a.length ≤ 90000 ∧ (∀ ts, prs a = some ts → ∀ H' p vs', Same H H' → H p = none → H' p = some (.lst vs') → ThL K H' vs' ts → Q (.ref p) H') ∧ (prs a = none → ∀ H', Same H H' → E (.ref cT) none H')) ∨
  (∃ T, TyX K H v (.type T) ∧ kitB T "str" = some false ∧ E (.ref cT) none H))
section
variable {P : Program} {ww : World} {K : PySem.W.Frag} {mg : Str → Option Value} {base : Heap} {cT : Addr}
theorem ok_number_in (B : Blt mg) (X_FIG : ∃ t, mg "FIGURES" = some (.str (S figs) t)) (X_BadText : Err K mg "BadText" cT) (D : Def K mg "number_in" s_number_in ["word"]) : CalN P ww K mg base 1 "number_in" (sp_numin cT) := by
  refine D.calN sc_number_in (fun vs H Q E h => ?_) (fun f cdv A outer s H vs Q E hr h => ?_)
  · obtain ⟨w, rfl, _⟩ := h
    rfl
  · obtain ⟨w, rfl, hl, q1, q2⟩ := h
    have tk : L2N.Takes (cxOf (L2N.CX P ww) P ww K mg base n_number_in "number_in" (defScope s_number_in) f cdv A outer s H E) (fun cls d _ H => E cls d H) := L2N.takes_of rfl rfl rfl rfl
    refine ⟨_, pss_cons (ps_if (PW.pt (pw_or (pt_not (pt_chain op_le op_le pe_int (pe_callB cs_len (by rfl) B.len (by decide +kernel) (pa_cons (pv 0) pa_nil)) pe_int)) (pw_or (pt_cmpR op_ne (pe_bm PySem.F.plainAttrs_str PySem.F.slot_str_strip PySem.F.type_str_strip ms_strip (pv 0) (pa_cons ((pe_gtxt (by rfl) X_FIG)) pa_nil)) pe_str (nomark _)) (pw_or1 (PW.pt (pw_and (pt_cmpR op_eq (pe_ix ix_str (pv 0) pe_int (fun _ _ => rfl)) pe_str (nomark _)) (pw_and1 (pt_cmpR op_ne (pv 0) pe_str (nomark _)))))))))
      (pss_one (ps_raiseN rfl tk X_BadText (by rfl)))
      (pss_nil))
    (pss_one (ps_ret (pe_callTy cs_int (by rfl) B.int (by decide +kernel) (pa_cons (pv 0) pa_nil)))), ?_⟩
    walk_at "go"
    refine i_lenS (by rw [S_len]; omega) ?_
    walk_at "go"
    rw [S_len]
    refine i_itd (fun c1 => ?_) (fun c1 => ?_)
    · walk_at "go"
      refine i_itdn (fun c2 => ?_) (fun c2 => ?_)
      · walk_at "go"
        exact q2 (num_no fun h => by have := h.2.1; omega)
      · walk_at "go"
        refine ⟨rfl, ?_⟩
        walk_at "go"
        refine ⟨S w, S figs, rfl, rfl, by rw [S_len]; exact Nat.le_trans hl (by decide), ?_⟩
        walk_at "go"
        rw [e_nil]
        refine i_itdn (fun c3 => ?_) (fun c3 => ?_)
        · walk_at "go"
          exact q2 (num_no fun h => c3 ((strip_all w figs).mpr h.2.2.1))
        · have a3 := (strip_all w figs).mp c3
          obtain ⟨c0, r, rfl⟩ : ∃ c0 r, w = c0 :: r := by
            cases w with
            | nil => simp at c1
            | cons c0 r => exact ⟨c0, r, rfl⟩
          walk_at "go"
          refine ⟨S (c0 :: r), 0, c0, rfl, rfl, by rw [S_len]; exact Nat.le_trans hl (by decide), atI_nat (j := 0) rfl, ?_⟩
          walk_at "go"
          rw [e_zero]
          have fin : ¬ (c0 = 48 ∧ c0 :: r ≠ [48]) → rIntS [.str (S (c0 :: r))] H Q := fun h4 => by
            have k4 : ¬ ((c0 :: r).head? = some 48 ∧ c0 :: r ≠ [48]) := fun h => h4 ⟨Option.some.inj h.1, h.2⟩
            refine ⟨S (c0 :: r), _, rfl, int_S (List.all_eq_true.mpr fun c hc => ?_) (by simp) (by omega), by rw [S_len]; omega, q1 _ (num_yes (by omega) (by omega) a3 k4)⟩
            obtain ⟨k1, k2⟩ := figs_mem.mp (a3 c hc)
            rw [decide_eq_true k1, decide_eq_true k2]; rfl
          refine i_itd (fun c4 => ?_) (fun c4 => ?_)
          · have d4 : c0 = 48 := by
              have e : [c0] = [48] := S_inj c4
              exact (List.cons.inj e).1
            walk_at "go"
            refine i_itdn (fun c5 => ?_) (fun c5 => ?_)
            · walk_at "go"
              exact q2 (num_no fun h => h.2.2.2 ⟨by rw [d4]; rfl, fun e => c5 (by rw [e])⟩)
            · walk_at "go"
              exact fin fun h => h.2 (S_inj c5)
          · walk_at "go"
            exact fin fun h => c4 (by rw [h.1])
    · walk_at "go"
      exact q2 (num_no fun h => by have := h.1; omega)
theorem ok_read (B : Blt mg) (X_BadText : Err K mg "BadText" cT) (c_number_in : CalN P ww K mg base 1 "number_in" (sp_numin cT)) (D : Def K mg "read" s_read ["text"]) : CalN P ww K mg base 2 "read" (sp_read K cT) := by
  refine D.calN sc_read (fun vs H Q E h => ?_) (fun f cdv A outer s H vs Q E hr h => ?_)
  · obtain ⟨v, rfl, _⟩ := h
    rfl
  · obtain ⟨v, rfl, h⟩ := h
    have tk : L2N.Takes (cxOf (L2N.CX P ww) P ww K mg base n_read "read" (defScope s_read) f cdv A outer s H E) (fun cls d _ H => E cls d H) := L2N.takes_of rfl rfl rfl rfl
    refine ⟨_, pss_cons (ps_if (pt_not (pt_val (pe_callB (r := rIsi K) call_isi (by rfl) B.isinstance (by decide +kernel) (pa_cons (pv 0) (pa_cons (pe_bltn (v := .ty "str") (u := .type "str") (by rfl) B.str (by decide +kernel) rfl) pa_nil)))))
      (pss_one (ps_raiseN rfl tk X_BadText (by rfl)))
      (pss_nil))
    (pss_cons (ps_if (pt_cmpR op_eq (pv 0) pe_str (nomark _))
      (pss_one (ps_ret (pe_lst pa_nil)))
      (pss_nil))
    (pss_cons (ps_set (i := 1) sc_read.nd rfl (.inl rfl) (pe_lst pa_nil))
    (pss_cons (ps_for (passes_of rfl) rfl (pi_list (pe_splitS (pv 0) pe_str)) (pg_name (i := 2) sc_read.nd rfl (.inl rfl))
      (pss_cons (ps_set (i := 3) sc_read.nd rfl (.inl rfl) (pe_splitS (pv 2) pe_str))
        (pss_cons (ps_if (pt_cmpR op_ne (pe_callB (r := rLenB K) cb_len (by rfl) B.len (by decide +kernel) (pa_cons (pv 3) pa_nil)) pe_int (nomark _))
          (pss_one (ps_raiseN rfl tk X_BadText (by rfl)))
          (pss_nil))
        (pss_one (ps_expr (pe_bm PySem.F.plainAttrs_list PySem.F.slot_list_append PySem.F.type_list_append mt_append (pv 1) (pa_cons (pe_tup (pa_cons (pe_calN c_number_in hr (by decide) (by rfl) tk (pa_cons (pe_ix (r := rIxL K) ix_list (pv 3) pe_int (fun _ _ => rfl)) pa_nil)) (pa_cons (pe_calN c_number_in hr (by decide) (by rfl) tk (pa_cons (pe_ix (r := rIxL K) ix_list (pv 3) pe_int (fun _ _ => rfl)) pa_nil)) (pa_cons (pe_calN c_number_in hr (by decide) (by rfl) tk (pa_cons (pe_ix (r := rIxL K) ix_list (pv 3) pe_int (fun _ _ => rfl)) pa_nil)) pa_nil)))) pa_nil)))))))
    (pss_one (ps_ret (pv 1)))))), ?_⟩
    walk_at "go"
    rcases h with ⟨a, rfl, hl, q1, q2⟩ | ⟨T, ty, kb, q⟩
    · refine i_isi (r := true) (.base (.str _)) (by decide +kernel) ?_
      walk_at "go"
      rw [e_mi]
      refine i_itd (fun c => ?_) (fun c => ?_)
      · walk_at "go"
        refine i_lstk (Nat.zero_le _) fun p H1 np s1 h1 => ?_
        exact q1 [] (by unfold prs; rw [if_pos (S_inj c)]) H1 p [] s1 np h1 All2.nil
      · have na : ¬ a = [45] := fun e => c (by rw [e])
        have pe : prs a = words? (TL.spl [32] 0 [] a) := by unfold prs; rw [if_neg na]
        walk_at "go"
        refine i_lstk (Nat.zero_le _) fun pf H1 nf s1 h1 => ?_
        walk_at "go"
        refine ⟨⟨_, rfl⟩, ?_⟩
        walk_at "go"
        refine i_splitS e_sp (by decide) (by omega) fun pw H2 nw s2 h2 => ?_
        refine i_itl (SqL.of h2) ?_
        have sl := spl_mem 32 a []
        have sn := spl_len 32 a []
        generalize TL.spl [32] 0 [] a = ws at pe h2 sl sn ⊢
        refine for_list (K := K) (a := pw) (xs := (ws.map S).map V.str) (fun i σ' H' => ∃ (y2 y3 : Option V) (us : List V) (ts : List T3), σ' = [some (.str (S a)), some (.ref pf), y2, y3] ∧ Same H H' ∧ H' pw = some (.lst ((ws.map S).map V.str)) ∧ H' pf = some (.lst us) ∧ words? (ws.take i) = some ts ∧ ThL K H' us ts) ?_ ?_ ?_ ?_
        · exact ⟨_, _, [], [], rfl, s1.trans s2, h2, s2 _ _ h1, rfl, All2.nil⟩
        · rintro i σ' H' _ ⟨_, _, _, _, _, _, hw, _⟩
          exact SqL.of hw
        · rintro i x σ' H3 hx ⟨y2, y3, us, ts, rfl, s3, hpw, h3, hw, hT⟩
          have npw : pf ≠ pw := fun z => by rw [← z, h1] at nw; cases nw
          rw [List.getElem?_map] at hx
          obtain ⟨sx, hsx, rfl⟩ := Option.map_eq_some_iff.mp hx
          rw [List.getElem?_map] at hsx
          obtain ⟨w, hwi, rfl⟩ := Option.map_eq_some_iff.mp hsx
          have lw := sl w (List.mem_of_getElem? hwi)
          have lw2 : w.length ≤ 90000 := by simp at lw; omega
          have bad : three? (TL.spl [47] 0 [] w) = none → ∀ H', Same H H' → E (.ref cT) none H' := fun k => q2 (by rw [pe]; exact words_fail hwi k)
          walk_at "go"
          refine ⟨⟨_, rfl⟩, ?_⟩
          walk_at "go"
          refine i_splitS e_sl (by decide) (by omega) fun pp H4 n4 s4 h4 => ?_
          walk_at "go"
          refine i_lenL (SqL.of h4) ?_
          walk_at "go"
          rw [List.length_map, List.length_map]
          have sl2 := spl_mem 47 w []
          generalize hps : TL.spl [47] 0 [] w = ps at h4 bad sl2 ⊢
          refine i_itdn (fun c3 => ?_) (fun c3 => ?_)
          · walk_at "go"
            refine bad ?_ H4 (s3.trans s4)
            match ps, c3 with
            | [], _ => rfl
            | [_], _ => rfl
            | [_, _], _ => rfl
            | [_, _, _], c3 => exact absurd rfl c3
            | _ :: _ :: _ :: _ :: _, _ => rfl
          · obtain ⟨x, y, z, rfl⟩ : ∃ x y z, ps = [x, y, z] := by
              match ps, c3 with
              | [x, y, z], _ => exact ⟨x, y, z, rfl⟩
              | [], c3 => simp at c3
              | [_], c3 => simp at c3
              | [_, _], c3 => simp at c3
              | _ :: _ :: _ :: _ :: _, c3 => simp at c3; omega
            have lx := sl2 x (by simp)
            have ly := sl2 y (by simp)
            have lz := sl2 z (by simp)
            simp at lx ly lz
            have s34 := s3.trans s4
            have f4 := s4 _ _ h3
            walk_at "go"
            refine ⟨ty_lst f4, ?_⟩
            walk_at "go"
            refine i_ixL (SqL.of h4) (v := .str (S x)) (atI_nat (j := 0) rfl) ?_
            refine ⟨x, rfl, by omega, fun zx kx => ?_, fun kx => ?_⟩
            · walk_at "go"
              refine i_ixL (SqL.of h4) (v := .str (S y)) (atI_nat (j := 1) rfl) ?_
              refine ⟨y, rfl, by omega, fun zy ky => ?_, fun ky => ?_⟩
              · walk_at "go"
                refine i_ixL (SqL.of h4) (v := .str (S z)) (atI_nat (j := 2) rfl) ?_
                refine ⟨z, rfl, by omega, fun zz kz => ?_, fun kz => ?_⟩
                · walk_at "go"
                  refine i_tupk (by show 3 ≤ 100000; decide) fun tp H5 n5 s5 h5 => ?_
                  walk_at "go"
                  have il := (List.getElem?_eq_some_iff.mp hwi).1
                  have wl : ts.length ≤ i := by
                    obtain ⟨_, k2⟩ := words_back hw
                    have := congrArg List.length k2
                    rw [List.length_map, List.length_take] at this
                    omega
                  have f5 := s5 _ _ f4
                  refine i_app f5 (by rw [hT.len]; omega) ?_
                  walk_at "go"
                  have k3 : three? (TL.spl [47] 0 [] w) = some (zx, zy, zz) := by
                    rw [hps]
                    show (match num? x, num? y, num? z with
                      | some x, some y, some z => some (x, y, z)
                      | _, _, _ => none) = _
                    rw [kx, ky, kz]
                  refine ⟨_, _, _, ts ++ [(zx, zy, zz)], rfl, Same.mut (s34.trans s5) nf, (upd_ne (Ne.symm npw)).trans (s5 _ _ (s4 _ _ hpw)), upd_same, by rw [take_snoc hwi]; exact words_snoc hw k3, ?_⟩
                  refine ThL.mono (sameT_lst f5) (All2.snoc (ThL.mono (smT (s4.trans s5)) hT) ⟨tp, rfl, SqT.of h5⟩)
                · refine bad ?_ _ s34
                  show (match num? x, num? y, num? z with
                      | some x, some y, some z => some (x, y, z)
                      | _, _, _ => none) = _
                  rw [kx, ky, kz]
              · refine bad ?_ _ s34
                show (match num? x, num? y, num? z with
                      | some x, some y, some z => some (x, y, z)
                      | _, _, _ => none) = _
                rw [kx, ky]
            · refine bad ?_ _ s34
              show (match num? x, num? y, num? z with
                      | some x, some y, some z => some (x, y, z)
                      | _, _, _ => none) = _
              rw [kx]
        · rintro σ' H3 ⟨y2, y3, us, ts, rfl, s3, hpw, h3, hw, hT⟩
          rw [List.length_map, List.length_map, List.take_length] at hw
          walk_at "go"
          exact q1 ts (by rw [pe, hw]) H3 pf us s3 nf h3 hT
    · refine i_isi (r := false) ty kb ?_
      walk_at "go"
      exact q
end
def sp_written (K : PySem.W.Frag) : Sp := fun vs H Q _ => ∃ (a : Addr) (ts : List T3), vs = [.ref a] ∧ Things K H a ts ∧ (∀ t ∈ ts, Small t) ∧ ts.length ≤ 95000 ∧ (wtx ts).length ≤ 100000 ∧ ∀ H', Same H H' → Q (.str (S (wtx ts))) H'
theorem joinL_len (c : Nat) : ∀ {L : List (List Nat)}, L ≠ [] → (TL.joinL [c] L).length + 1 = (L.map (·.length)).sum + L.length
  | [], h => absurd rfl h
  | [p], _ => by simp [TL.joinL]
  | p :: q :: r, _ => by
    have ih := joinL_len c (L := q :: r) (by simp)
    rw [joinL_cons c p (by simp), List.length_append, List.length_cons, List.map_cons, List.sum_cons, List.length_cons]
    omega
theorem lens_S (L : List (List Nat)) : (L.map S).map (fun z : Str => z.length) = L.map (·.length) := lens L
/-- c.join(texts) -/
theorem i_joinS {K : PySem.W.Frag} {H : Hp} {Q : VK} {p : Addr} {c : Nat} {x : Str} {L : List (List Nat)} (ex : x = S [c]) (hp : SqL K H p ((L.map S).map V.str)) (hz : (L.map (·.length)).sum + L.length ≤ 1000000) (h : Q (.str (S (TL.joinL [c] L))) H) : rJoinS K (.str x) [.ref p] H Q := by
  subst ex
  refine ⟨S [c], p, L.map S, rfl, rfl, .inl hp, ?_, by rw [join_S]; exact h⟩
  rw [lens_S, List.length_map, S_len]
  show (L.map (·.length)).sum + L.length * 1 ≤ 16777216
  omega
theorem wnum_len {m : Int} (h0 : 0 ≤ m) (h1 : m < 10 ^ 60) : (wnum m).length ≤ 60 := by
  unfold wnum
  refine TL.numL_len (by decide) ?_
  have : ((m.toNat : Nat) : Int) < ((10 ^ 60 : Nat) : Int) := by rw [Int.toNat_of_nonneg h0]; exact_mod_cast h1
  exact_mod_cast this
theorem i_strI {H : Hp} {Q : VK} {m : Int} (h0 : 0 ≤ m) (h1 : m < 10 ^ 60) (h : Q (.str (S (wnum m))) H) : rStrI [.int m] H Q := by
  refine ⟨m, rfl, ?_, ?_⟩
  · by_cases z : m.natAbs = 0
    · rw [z]; decide
    · refine Nat.lt_trans ((Nat.log2_lt z).mpr (show m.natAbs < 2 ^ 200 from ?_)) (by decide)
      have : m.natAbs < 10 ^ 60 := by omega
      exact Nat.lt_trans this (by decide)
  · have e : m = ((m.toNat : Nat) : Int) := (Int.toNat_of_nonneg h0).symm
    have e2 := num_S m.toNat
    rw [← e] at e2
    unfold wnum at h
    rw [← e2] at h
    exact h
theorem wthg_len {t : T3} (h : Small t) : (wthg t).length ≤ 182 := by
  have j := joinL_len 47 (L := [wnum t.1, wnum t.2.1, wnum t.2.2]) (by simp)
  have a := wnum_len h.1.1 h.2.1
  have b := wnum_len h.1.2.1 h.2.2.1
  have c := wnum_len h.1.2.2 h.2.2.2
  unfold wthg
  simp at j ⊢
  omega
section
variable {P : Program} {ww : World} {K : PySem.W.Frag} {mg : Str → Option Value} {base : Heap} {cT : Addr}
theorem ok_written (B : Blt mg) (X_MOST : ∃ t, mg "MOST" = some (.int (10 ^ 60) t)) (c_check_things : Cal P ww K mg base 3 "check_things" (sp_check K)) (D : Def K mg "written" s_written ["things"]) : Cal P ww K mg base 4 "written" (sp_written K) := by
  refine D.cal sc_written (fun vs H Q E h => ?_) (fun f cdv A outer s H vs Q E hr h => ?_)
  · obtain ⟨a, ts, rfl, _⟩ := h
    rfl
  · obtain ⟨a, ts, rfl, hT, hS, hz, hw, q⟩ := h
    refine ⟨_, pss_cons (ps_expr (pe_cal c_check_things hr (by decide) (by rfl) (pa_cons (pv 0) pa_nil)))
    (pss_cons (ps_if (pt_not (pt_val (pe_callB (r := rAll K) (cr_all rfl) (by rfl) B.all (by decide +kernel) (pa_cons (pe_lc (own := [("thing", 1)]) rfl sc_written.nd (pi_list (pv 0)) (blkOk_by (N := n_written) (sc := defScope s_written) (by decide +kernel)) (fun _ _ _ _ _ => (pg_name (i := 1) sc_written.nd rfl (.inl rfl))) (fun _ _ _ _ _ => pts_nil) (fun _ _ _ _ _ => (pe_cmpR op_lt (pe_callB (r := rMaxT K) (bp_maxT rfl) (by rfl) B.max (by decide +kernel) (pa_cons (pv 1) pa_nil)) ((pe_gnum (by rfl) X_MOST)) (nomark _)))) pa_nil))))
      (pss_one (ps_never))
      (pss_nil))
    (pss_cons (ps_if (pt_cmpR op_eq (pe_callB (r := rLenB K) cb_len (by rfl) B.len (by decide +kernel) (pa_cons (pv 0) pa_nil)) pe_int (nomark _))
      (pss_one (ps_ret pe_str))
      (pss_nil))
    (pss_one (ps_ret (pe_joinS pe_str (pe_lc (own := [("thing", 1)]) rfl sc_written.nd (pi_list (pv 0)) (blkOk_by (N := n_written) (sc := defScope s_written) (by decide +kernel)) (fun _ _ _ _ _ => (pg_name (i := 1) sc_written.nd rfl (.inl rfl))) (fun _ _ _ _ _ => pts_nil) (fun _ _ _ _ _ => (pe_joinS pe_str (pe_lc (own := [("length", 2)]) rfl sc_written.nd (pi_tup (pv 1) : PI _ _ _ (iTup K _)) (blkOk_by (by rfl)) (fun _ _ _ _ _ => (pg_name (i := 2) sc_written.nd rfl (.inl rfl))) (fun _ _ _ _ _ => pts_nil) (fun _ _ _ _ _ => (pe_callTy cs_str (by rfl) B.str (by decide +kernel) (pa_cons (pv 2) pa_nil)))) : PE _ _ (tM1 (rJoinS K) _ _)))) : PE _ _ (tM1 (rJoinS K) _ _)))))), ?_⟩
    walk_at "go"
    refine ⟨a, ts, rfl, hT, fun t ht => (hS t ht).1, hz, fun H1 s1 => ?_⟩
    walk_at "go"
    obtain ⟨vs, hs, hT1⟩ := hT.mono s1
    refine i_itl hs ?_
    refine fun p0 hp0 => lc_map (K := K) (R := fun _ y _ => y = .bl true) (fun _ h => h) sqn_l (fun H' e => e.seq hs) (by rw [hT1.len]; omega) hp0 (fun i x H' Qc Qn hx sm k => ?_) (fun ys H2 s2 hy hl hr2 => ?_)
    · obtain ⟨t, ht, hx'⟩ := hT1.at' hx
      obtain ⟨pt, rfl, hpt⟩ := hx'.mono (smT sm)
      have st := hS t (List.mem_of_getElem? ht)
      walk_at "go"
      refine ⟨rfl, ?_⟩
      walk_at "go"
      refine ⟨pt, [t.1, t.2.1, t.2.2], rfl, hpt, Nat.zero_lt_succ _, fun m hm _ => ?_⟩
      have lt : m < 10 ^ 60 := by
        rcases List.mem_cons.mp hm with rfl | hm
        · exact st.2.1
        rcases List.mem_cons.mp hm with rfl | hm
        · exact st.2.2.1
        rcases List.mem_cons.mp hm with rfl | hm
        · exact st.2.2.2
        cases hm
      walk_at "go"
      exact k _ _ (Same.refl _) (by rw [decide_eq_true lt])
    · have e := all_true hl hr2
      rw [e] at hy
      walk_at "go"
      refine i_allT hy ?_
      walk_at "go"
      have s12 := s1.trans s2
      refine i_lenThings (hT.mono s12) ?_
      walk_at "go"
      refine i_itd (fun c => ?_) (fun c => ?_)
      · have t0 : ts = [] := List.eq_nil_of_length_eq_zero (by omega)
        walk_at "go"
        have z := q H2 s12
        rw [t0] at z
        exact z
      · have tne : ts ≠ [] := fun z => c (by rw [z]; rfl)
        have ew : wtx ts = TL.joinL [32] (ts.map wthg) := by unfold wtx; rw [if_neg tne]
        have jl := joinL_len 32 (L := ts.map wthg) (fun z => tne (List.map_eq_nil_iff.mp z))
        rw [ew] at hw
        walk_at "go"
        refine ⟨⟨_, rfl⟩, ?_⟩
        obtain ⟨vs2, hs2, hT2⟩ := hT.mono s12
        walk_at "go"
        refine i_itl hs2 ?_
        refine fun p3 hp3 => lc_map (K := K) (R := fun i y _ => ∀ t, ts[i]? = some t → y = .str (S (wthg t))) (fun _ h => h) sqn_l (fun H' e => e.seq hs2) (by rw [hT2.len]; omega) hp3 (fun i x H' Qc Qn hx sm k => ?_) (fun ys3 H3 s3 hy3 hl3 hr3 => ?_)
        · obtain ⟨t, ht, hx'⟩ := hT2.at' hx
          obtain ⟨pt, rfl, hpt⟩ := hx'.mono (smT sm)
          have st := hS t (List.mem_of_getElem? ht)
          walk_at "go"
          refine ⟨rfl, ?_⟩
          walk_at "go"
          refine ⟨⟨_, rfl⟩, ?_⟩
          walk_at "go"
          refine i_itt hpt ?_
          refine fun p4 hp4 => lc_map (K := K) (R := fun i y _ => ∀ m, ([t.1, t.2.1, t.2.2] : List Int)[i]? = some m → y = .str (S (wnum m))) (fun _ h => h) sqn_t (fun H' e => Same.t e hpt) (by show 3 < 100000; decide) hp4 (fun j x H5 Qc5 Qn5 hx5 sm5 k5 => ?_) (fun ys5 H5 s5 hy5 hl5 hr5 => ?_)
          · obtain ⟨m, hm, hb⟩ : ∃ m, ([t.1, t.2.1, t.2.2] : List Int)[j]? = some m ∧ x = .int m := by
              rcases j with _ | _ | _ | j
              · exact ⟨_, rfl, (Option.some.inj hx5).symm⟩
              · exact ⟨_, rfl, (Option.some.inj hx5).symm⟩
              · exact ⟨_, rfl, (Option.some.inj hx5).symm⟩
              · cases hx5
            subst hb
            have b : 0 ≤ m ∧ m < 10 ^ 60 := by
              have hm2 := List.mem_of_getElem? hm
              rcases List.mem_cons.mp hm2 with rfl | hm2
              · exact ⟨st.1.1, st.2.1⟩
              rcases List.mem_cons.mp hm2 with rfl | hm2
              · exact ⟨st.1.2.1, st.2.2.1⟩
              rcases List.mem_cons.mp hm2 with rfl | hm2
              · exact ⟨st.1.2.2, st.2.2.2⟩
              cases hm2
            walk_at "go"
            refine ⟨rfl, ?_⟩
            walk_at "go"
            refine i_strI b.1 b.2 ?_
            exact k5 _ _ (Same.refl _) fun m' hm' => by
              rw [hm] at hm'
              cases hm'
              rfl
          · have e5 : ys5 = ([wnum t.1, wnum t.2.1, wnum t.2.2].map S).map V.str := by
              match ys5, hl5, hr5 with
              | [y0, y1, y2], _, hr5 =>
                rw [hr5 0 y0 rfl t.1 rfl, hr5 1 y1 rfl t.2.1 rfl, hr5 2 y2 rfl t.2.2 rfl]
                rfl
            rw [e5] at hy5
            have wl := wthg_len st
            have j3 := joinL_len 47 (L := [wnum t.1, wnum t.2.1, wnum t.2.2]) (by simp)
            refine i_joinS e_sl (SqL.of hy5) (by unfold wthg at wl; omega) ?_
            exact k _ _ s5 fun t' ht' => by
              rw [ht] at ht'
              cases ht'
              rfl
        · have e3 : ys3 = ((ts.map wthg).map S).map V.str := by
            rw [List.map_map, List.map_map]
            refine List.ext_getElem? fun i => ?_
            rw [List.getElem?_map]
            cases e : ts[i]? with
            | none => exact List.getElem?_eq_none (by rw [hl3, hT2.len]; exact List.getElem?_eq_none_iff.mp e)
            | some t =>
              have hi : i < ys3.length := by rw [hl3, hT2.len]; exact (List.getElem?_eq_some_iff.mp e).1
              rw [List.getElem?_eq_getElem hi, hr3 i _ (List.getElem?_eq_getElem hi) t e]
              rfl
          rw [e3] at hy3
          refine i_joinS e_sp (SqL.of hy3) (by omega) ?_
          rw [← ew]
          exact q H3 (s12.trans s3)
end
abbrev s__law_number : Stmt := topS 24
abbrev n__law_number : List Str := ["_law_text"]
theorem sc__law_number : FnScope n__law_number ["_law_text"] (defScope s__law_number) := ⟨rfl, rfl, rfl, by decide +kernel, rfl, by decide +kernel, by decide +kernel⟩
abbrev s__law_in : Stmt := topS 25
abbrev n__law_in : List Str := ["_law_text", "_law_found", "_law_word", "_law_parts", "_law_part"]
theorem sc__law_in : FnScope n__law_in ["_law_text"] (defScope s__law_in) := ⟨rfl, rfl, rfl, by decide +kernel, rfl, by decide +kernel, by decide +kernel⟩
abbrev s__law_refused : Stmt := topS 26
abbrev n__law_refused : List Str := ["_law_text", "error", "_law_others"]
theorem sc__law_refused : FnScope n__law_refused ["_law_text"] (defScope s__law_refused) := ⟨rfl, rfl, rfl, by decide +kernel, rfl, by decide +kernel, by decide +kernel⟩
abbrev s__law_right : Stmt := topS 27
abbrev n__law_right : List Str := ["_law_text", "_law_due", "_law_found"]
theorem sc__law_right : FnScope n__law_right ["_law_text"] (defScope s__law_right) := ⟨rfl, rfl, rfl, by decide +kernel, rfl, by decide +kernel, by decide +kernel⟩
def sp_lnum : Sp := fun vs H Q _ => ∃ w : List Nat, vs = [.str (S w)] ∧ w.length ≤ 500000 ∧ Q (match num? w with | none => .non | some z => .int z) H
def numV (w : List Nat) : V := match num? w with | none => .non | some z => .int z
theorem pe_own {X : Cx} {x : Str} {C : Addr} {p : Pos} (hg : Gl X x) (hm : X.mg x = some (.ref C)) (hdb : (x == ("__debug__" : Str)) = false := by decide) : PE X (.Name x p) (tC (.ref C)) := pe_glob hg hm rfl hdb
/-- _law_in: the things that a text tells, or None -/
def sp_lin (K : PySem.W.Frag) : Sp := fun vs H Q _ => ∃ a : List Nat, vs = [.str (S a)] ∧ a.length ≤ 90000 ∧ (prs a = none → ∀ H', Same H H' → Q .non H') ∧ (∀ ts, prs a = some ts → ∀ H' p vs', Same H H' → H p = none → H' p = some (.lst vs') → ThL K H' vs' ts → Q (.ref p) H')
/-- what is asked of the errors' classes -/
structure ErrA (K : PySem.W.Frag) (mg : Str → Option Value) (cB cO cH cI cT : Addr) : Prop where
  gB : mg "BenchError" = some (.ref cB)
  gO : mg "BadOrder" = some (.ref cO)
  gH : mg "BadThings" = some (.ref cH)
  gI : mg "BadTime" = some (.ref cI)
  gT : mg "BadText" = some (.ref cT)
  exc : ExcC K cT
  exm : PySem.W.exmOne K (.ref cT) (.ref cB) = some true
  kO : PySem.W.kitOne K (.ref cT) (.ref cO) = some false
  kH : PySem.W.kitOne K (.ref cT) (.ref cH) = some false
  kI : PySem.W.kitOne K (.ref cT) (.ref cI) = some false
  kT : PySem.W.kitOne K (.ref cT) (.ref cT) = some true
  kV : PySem.W.kitOne K (.ref cT) (.type "ValueError") = some true
structure GG (mg : Str → Option Value) (x : Str) (C : Addr) : Prop where
  g : mg x = some (.ref C)
def sp_refd (K : PySem.W.Frag) : Sp := fun vs H Q _ => ∃ v, vs = [v] ∧ ((∃ a, v = .str (S a) ∧ a.length ≤ 90000 ∧ prs a = none) ∨ (∃ T, TyX K H v (.type T) ∧ kitB T "str" = some false)) ∧ ∀ H', Same H H' → Q (.bl true) H'
theorem read_ref {K : PySem.W.Frag} {cT : Addr} {v : V} {H : Hp} {Q : VK} {E : XK} (h : (∃ a, v = .str (S a) ∧ a.length ≤ 90000 ∧ prs a = none) ∨ (∃ T, TyX K H v (.type T) ∧ kitB T "str" = some false)) (k : ∀ H', Same H H' → E (.ref cT) none H') : sp_read K cT [v] H Q E := by
  refine ⟨v, rfl, ?_⟩
  rcases h with ⟨a, rfl, hl, hp⟩ | ⟨T, h1, h2⟩
  · exact .inl ⟨a, rfl, hl, (fun ts e => by rw [hp] at e; cases e), fun _ => k⟩
  · exact .inr ⟨T, h1, h2, k H (Same.refl _)⟩
section
variable {P : Program} {ww : World} {K : PySem.W.Frag} {mg : Str → Option Value} {base : Heap} {cT cBenchError cO cH cI : Addr}
theorem ok__law_number (B : Blt mg) (D : Def K mg "_law_number" s__law_number ["_law_text"]) : Cal P ww K mg base 1 "_law_number" sp_lnum := by
  refine D.cal sc__law_number (fun vs H Q E h => ?_) (fun f cdv A outer s H vs Q E hr h => ?_)
  · obtain ⟨w, rfl, _⟩ := h
    rfl
  · obtain ⟨w, rfl, hl, q⟩ := h
    have q2 : num? w = none → Q .non H := fun e => by rw [e] at q; exact q
    have q1 : ∀ z, num? w = some z → Q (.int z) H := fun z e => by rw [e] at q; exact q
    refine ⟨_, pss_cons (ps_if (PW.pt (pw_or (pt_cmpR op_eq (pv 0) pe_str (nomark _)) (pw_or (pt_cmpR op_gt (pe_callB cs_len (by rfl) B.len (by decide +kernel) (pa_cons (pv 0) pa_nil)) pe_int (nomark _)) (pw_or (pt_cmpR op_ne (pe_bm PySem.F.plainAttrs_str PySem.F.slot_str_strip PySem.F.type_str_strip ms_strip (pv 0) (pa_cons pe_str pa_nil)) pe_str (nomark _)) (pw_or1 (PW.pt (pw_and (pt_cmpR op_eq (pe_ix ix_str (pv 0) pe_int (fun _ _ => rfl)) pe_str (nomark _)) (pw_and1 (pt_cmpR op_ne (pv 0) pe_str (nomark _))))))))))
      (pss_one (ps_ret pe_non))
      (pss_nil))
    (pss_one (ps_ret (pe_callTy cs_int (by rfl) B.int (by decide +kernel) (pa_cons (pv 0) pa_nil)))), ?_⟩
    walk_at "go"
    rw [e_nil]
    refine i_itd (fun c1 => ?_) (fun c1 => ?_)
    · walk_at "go"
      have e := S_inj c1
      subst e
      exact q2 (num_no fun h => by have := h.1; simp at this)
    · have w1 : 1 ≤ w.length := by
        cases w with
        | nil => exact absurd rfl c1
        | cons c r => simp
      walk_at "go"
      refine i_lenS (by rw [S_len]; omega) ?_
      walk_at "go"
      rw [S_len]
      refine i_itd (fun c2 => ?_) (fun c2 => ?_)
      · walk_at "go"
        exact q2 (num_no fun h => by have := h.2.1; omega)
      · walk_at "go"
        refine ⟨rfl, ?_⟩
        walk_at "go"
        refine ⟨S w, S figs, rfl, rfl, by rw [S_len]; exact Nat.le_trans hl (by decide), ?_⟩
        walk_at "go"
        refine i_itdn (fun c3 => ?_) (fun c3 => ?_)
        · walk_at "go"
          exact q2 (num_no fun h => c3 ((strip_all w figs).mpr h.2.2.1))
        · have a3 := (strip_all w figs).mp c3
          obtain ⟨c0, r, rfl⟩ : ∃ c0 r, w = c0 :: r := by
            cases w with
            | nil => simp at w1
            | cons c0 r => exact ⟨c0, r, rfl⟩
          walk_at "go"
          refine ⟨S (c0 :: r), 0, c0, rfl, rfl, by rw [S_len]; exact Nat.le_trans hl (by decide), atI_nat (j := 0) rfl, ?_⟩
          walk_at "go"
          rw [e_zero]
          have fin : ¬ (c0 = 48 ∧ c0 :: r ≠ [48]) → rIntS [.str (S (c0 :: r))] H Q := fun h4 => by
            have k4 : ¬ ((c0 :: r).head? = some 48 ∧ c0 :: r ≠ [48]) := fun h => h4 ⟨Option.some.inj h.1, h.2⟩
            refine ⟨S (c0 :: r), _, rfl, int_S (List.all_eq_true.mpr fun c hc => ?_) (by simp) (by omega), by rw [S_len]; omega, q1 _ (num_yes (by omega) (by omega) a3 k4)⟩
            obtain ⟨k1, k2⟩ := figs_mem.mp (a3 c hc)
            rw [decide_eq_true k1, decide_eq_true k2]; rfl
          refine i_itd (fun c4 => ?_) (fun c4 => ?_)
          · have d4 : c0 = 48 := by
              have e : [c0] = [48] := S_inj c4
              exact (List.cons.inj e).1
            walk_at "go"
            refine i_itdn (fun c5 => ?_) (fun c5 => ?_)
            · walk_at "go"
              exact q2 (num_no fun h => h.2.2.2 ⟨by rw [d4]; rfl, fun e => c5 (by rw [e])⟩)
            · walk_at "go"
              exact fin fun h => h.2 (S_inj c5)
          · walk_at "go"
            exact fin fun h => c4 (by rw [h.1])
theorem ok__law_refused (B : Blt mg) (X_E : ErrA K mg cBenchError cO cH cI cT) (c_read : CalN P ww K mg base 2 "read" (sp_read K cT)) (D : Def K mg "_law_refused" s__law_refused ["_law_text"]) : Cal P ww K mg base 3 "_law_refused" (sp_refd K) := by
  have X_BenchError : GG mg "BenchError" cBenchError := ⟨X_E.gB⟩
  have g_BadOrder := X_E.gO
  have g_BadThings := X_E.gH
  have g_BadTime := X_E.gI
  have g_BadText := X_E.gT
  refine D.cal sc__law_refused (fun vs H Q E h => ?_) (fun f cdv A outer s H vs Q E hr h => ?_)
  · obtain ⟨v, rfl, _⟩ := h
    rfl
  · obtain ⟨v, rfl, h, q⟩ := h
    refine ⟨_, pss_cons (L2N.ps_try_as (i := 1) (c := .ref cBenchError) rfl rfl sc__law_refused.nd rfl rfl ⟨by rfl, by decide, .inl X_BenchError.g⟩ tkNone (fun W pn xe tk hp => pss_one (ps_expr (pe_calN c_read hr (by decide) (by rfl) tk (pa_cons (pv 0) pa_nil)))) (fun a oe cls d pn hz hf => pss_cons (ps_set (i := 2) sc__law_refused.nd rfl (.inl rfl) (pe_lst (pa_cons (pe_callB (r := rIsX K a cls d) (bp_isX hz hf) (by rfl) B.isinstance (by decide +kernel) (pa_cons (pv 1) (pa_cons (pe_own (by rfl) g_BadOrder) pa_nil))) (pa_cons (pe_callB (r := rIsX K a cls d) (bp_isX hz hf) (by rfl) B.isinstance (by decide +kernel) (pa_cons (pv 1) (pa_cons (pe_own (by rfl) g_BadThings) pa_nil))) (pa_cons (pe_callB (r := rIsX K a cls d) (bp_isX hz hf) (by rfl) B.isinstance (by decide +kernel) (pa_cons (pv 1) (pa_cons (pe_own (by rfl) g_BadTime) pa_nil))) pa_nil)))))
        (pss_one (ps_ret (pe_and (pe_callB (r := rIsX K a cls d) (bp_isX hz hf) (by rfl) B.isinstance (by decide +kernel) (pa_cons (pv 1) (pa_cons (pe_own (by rfl) g_BadText) pa_nil))) (pe_and (pe_callB (r := rIsX K a cls d) (bp_isX hz hf) (by rfl) B.isinstance (by decide +kernel) (pa_cons (pv 1) (pa_cons (pe_bltn (v := .ty "ValueError") (u := .type "ValueError") (by rfl) B.ValueError (by decide +kernel) rfl) pa_nil))) (pe_one (pe_not (pe_callB (r := rAny K) (bp_anyH hz hf) (by rfl) B.any (by decide +kernel) (pa_cons (pv 2) pa_nil))))))))))
    (pss_one (ps_ret pe_bl)), ?_⟩
    walk_at "go"
    refine read_ref h fun H1 s1 => ?_
    refine ⟨true, X_E.exm, fun _ a na => ?_, fun z => nomatch z⟩
    walk_at "go"
    refine i_isXC (d := none) X_E.exc X_E.kO ?_
    walk_at "go"
    refine i_isXC (d := none) X_E.exc X_E.kH ?_
    walk_at "go"
    refine i_isXC (d := none) X_E.exc X_E.kI ?_
    walk_at "go"
    refine i_lstk (xs := [false, false, false].map V.bl) (by show 3 ≤ 100000; decide) fun p2 H2 n2 s2 h2 => ?_
    walk_at "go"
    refine i_isXC (d := none) X_E.exc X_E.kT ?_
    refine ⟨_, rfl, ?_⟩
    walk_at "go"
    refine i_isXT X_E.exc X_E.kV ?_
    refine ⟨_, rfl, ?_⟩
    walk_at "go"
    refine i_any (SqL.of h2) ?_
    refine ⟨_, rfl, ?_⟩
    exact q H2 (s1.trans s2)
theorem three_parts (ps : List (List Nat)) : three? ps = none ↔ (ps.any fun p => (num? p).isNone) = true ∨ ps.length ≠ 3 := by
  match ps with
  | [] => simp [three?]
  | [_] => simp [three?]
  | [_, _] => simp [three?]
  | [x, y, z] =>
    show (match num? x, num? y, num? z with
      | some x, some y, some z => some (x, y, z)
      | _, _, _ => none) = none ↔ _
    cases hx : num? x <;> cases hy : num? y <;> cases hz : num? z <;> simp [hx, hy, hz]
  | _ :: _ :: _ :: _ :: _ => simp [three?]
theorem ok__law_in (B : Blt mg) (c__law_number : Cal P ww K mg base 1 "_law_number" sp_lnum) (D : Def K mg "_law_in" s__law_in ["_law_text"]) : Cal P ww K mg base 2 "_law_in" (sp_lin K) := by
  refine D.cal sc__law_in (fun vs H Q E h => ?_) (fun f cdv A outer s H vs Q E hr h => ?_)
  · obtain ⟨a, rfl, _⟩ := h
    rfl
  · obtain ⟨a, rfl, hl, q2, q1⟩ := h
    refine ⟨_, pss_cons (ps_set (i := 1) sc__law_in.nd rfl (.inl rfl) (pe_lst pa_nil))
    (pss_cons (ps_for PassesOwn.never rfl (pi_list (pe_ifExp (pt_cmpR op_ne (pv 0) pe_str (nomark _)) (pe_splitS (pv 0) pe_str) (pe_lst pa_nil))) (pg_name (i := 2) sc__law_in.nd rfl (.inl rfl))
      (pss_cons (ps_setLc (i := 3) (own := [("_law_part", 4)]) rfl sc__law_in.nd rfl rfl (sw_true rfl rfl rfl (by decide +kernel)) (pi_list (pe_splitS (pv 2) pe_str)) (blkOk_by (N := n__law_in) (sc := defScope s__law_in) (by decide +kernel)) (fun _ _ _ _ _ => (pg_name (i := 4) sc__law_in.nd rfl (.inl rfl))) (fun _ _ _ _ _ => pts_nil) (fun _ _ _ _ _ => (pe_cal c__law_number hr (by decide) (by rfl) (pa_cons (pv 4) pa_nil))))
        (pss_cons (ps_if (PW.pt (pw_or (pt_cmpR (r := rIn K false) op_in_seq pe_non (pv 3) (by rfl)) (pw_or1 (pt_cmpR op_ne (pe_callB (r := rLenB K) cb_len (by rfl) B.len (by decide +kernel) (pa_cons (pv 3) pa_nil)) pe_int (nomark _)))))
          (pss_one (ps_ret pe_non))
          (pss_nil))
        (pss_one (ps_expr (pe_bm PySem.F.plainAttrs_list PySem.F.slot_list_append PySem.F.type_list_append mt_append (pv 1) (pa_cons (pe_tup (pa_cons (pe_ix (r := rIxL K) ix_list (pv 3) pe_int (fun _ _ => rfl)) (pa_cons (pe_ix (r := rIxL K) ix_list (pv 3) pe_int (fun _ _ => rfl)) (pa_cons (pe_ix (r := rIxL K) ix_list (pv 3) pe_int (fun _ _ => rfl)) pa_nil)))) pa_nil)))))))
    (pss_one (ps_ret (pv 1)))), ?_⟩
    walk_at "go"
    refine i_lstk (Nat.zero_le _) fun pf H1 nf s1 h1 => ?_
    walk_at "go"
    rw [e_mi]
    refine i_itdn (fun c => ?_) (fun c => ?_)
    · have na : ¬ a = [45] := fun e => c (by rw [e])
      have pe : prs a = words? (TL.spl [32] 0 [] a) := by unfold prs; rw [if_neg na]
      walk_at "go"
      refine ⟨⟨_, rfl⟩, ?_⟩
      walk_at "go"
      refine i_splitS e_sp (by decide) (by omega) fun pw H2 nw s2 h2 => ?_
      refine i_itl (SqL.of h2) ?_
      have sl := spl_mem 32 a []
      have sn := spl_len 32 a []
      generalize TL.spl [32] 0 [] a = ws at pe h2 sl sn ⊢
      refine for_list (K := K) (a := pw) (xs := (ws.map S).map V.str) (fun i σ' H' => ∃ (y2 y3 : Option V) (us : List V) (ts : List T3), σ' = [some (.str (S a)), some (.ref pf), y2, y3, none] ∧ Same H H' ∧ H' pw = some (.lst ((ws.map S).map V.str)) ∧ H' pf = some (.lst us) ∧ words? (ws.take i) = some ts ∧ ThL K H' us ts) ?_ ?_ ?_ ?_
      · exact ⟨_, _, [], [], rfl, s1.trans s2, h2, s2 _ _ h1, rfl, All2.nil⟩
      · rintro i σ' H' _ ⟨_, _, _, _, _, _, hw, _⟩
        exact SqL.of hw
      · rintro i x σ' H3 hx ⟨y2, y3, us, ts, rfl, s3, hpw, h3, hw, hT⟩
        have npw : pf ≠ pw := fun z => by rw [← z, h1] at nw; cases nw
        rw [List.getElem?_map] at hx
        obtain ⟨sx, hsx, rfl⟩ := Option.map_eq_some_iff.mp hx
        rw [List.getElem?_map] at hsx
        obtain ⟨w, hwi, rfl⟩ := Option.map_eq_some_iff.mp hsx
        have lw := sl w (List.mem_of_getElem? hwi)
        have lw2 : w.length ≤ 90000 := by simp at lw; omega
        have bad : three? (TL.spl [47] 0 [] w) = none → ∀ H', Same H H' → Q .non H' := fun k => q2 (by rw [pe]; exact words_fail hwi k)
        walk_at "go"
        refine ⟨⟨_, rfl⟩, ?_⟩
        walk_at "go"
        refine i_splitS e_sl (by decide) (by omega) fun pp H4 n4 s4 h4 => ?_
        have sl2 := spl_mem 47 w []
        have sn2 := spl_len 47 w []
        generalize hps : TL.spl [47] 0 [] w = ps at h4 bad sl2 sn2 ⊢
        refine i_itl (SqL.of h4) ?_
        refine fun p5 n5 => lc_map (K := K) (R := fun i y _ => ∀ p, ps[i]? = some p → y = numV p) (fun _ h => h) sqn_l (fun H' e => e.seq (SqL.of h4)) (by rw [List.length_map, List.length_map]; omega) n5 (fun j x H' Qc Qn hx sm k => ?_) (fun ys H5 s5 h5 hl5 hr5 => ?_)
        · rw [List.getElem?_map] at hx
          obtain ⟨sx, hsx, rfl⟩ := Option.map_eq_some_iff.mp hx
          rw [List.getElem?_map] at hsx
          obtain ⟨p, hpj, rfl⟩ := Option.map_eq_some_iff.mp hsx
          have lp := sl2 p (List.mem_of_getElem? hpj)
          walk_at "go"
          refine ⟨rfl, ?_⟩
          walk_at "go"
          refine ⟨p, rfl, by simp at lp; omega, ?_⟩
          exact k _ _ (Same.refl _) fun p' hp' => by
            rw [hpj] at hp'
            cases hp'
            rfl
        · have e5 : ys = ps.map numV := by
            refine List.ext_getElem? fun j => ?_
            rw [List.getElem?_map]
            cases e : ps[j]? with
            | none => exact List.getElem?_eq_none (by rw [hl5, List.length_map, List.length_map]; exact List.getElem?_eq_none_iff.mp e)
            | some p =>
              have hj : j < ys.length := by rw [hl5, List.length_map, List.length_map]; exact (List.getElem?_eq_some_iff.mp e).1
              rw [List.getElem?_eq_getElem hj, hr5 j _ (List.getElem?_eq_getElem hj) p e]
              rfl
          rw [e5] at h5
          have s35 := (s3.trans s4).trans s5
          have flat : (ps.map numV).all flatV = true := List.all_eq_true.mpr fun x hx => by
            obtain ⟨p, _, rfl⟩ := List.mem_map.mp hx
            unfold numV
            cases num? p <;> rfl
          have non : inV .non (ps.map numV) = ps.any fun p => (num? p).isNone := by
            unfold inV
            rw [List.any_map]
            congr 1
            funext p
            show eqV (numV p) .non = _
            unfold numV
            cases num? p <;> rfl
          walk_at "go"
          refine ⟨p5, _, rfl, .inl (SqL.of h5), rfl, flat, ?_⟩
          rw [non]
          refine ⟨_, rfl, ?_⟩
          refine i_ite (fun cn => ?_) (fun cn => ?_)
          · walk_at "go"
            exact bad ((three_parts ps).mpr (.inl cn)) _ s35
          · walk_at "go"
            refine i_lenL (SqL.of h5) ?_
            walk_at "go"
            rw [List.length_map]
            refine i_itdn (fun c3 => ?_) (fun c3 => ?_)
            · walk_at "go"
              exact bad ((three_parts ps).mpr (.inr fun z => c3 (by rw [z]; rfl))) _ s35
            · obtain ⟨x, y, z, rfl⟩ : ∃ x y z, ps = [x, y, z] := by
                match ps, c3 with
                | [x, y, z], _ => exact ⟨x, y, z, rfl⟩
                | [], c3 => simp at c3
                | [_], c3 => simp at c3
                | [_, _], c3 => simp at c3
                | _ :: _ :: _ :: _ :: _, c3 => simp at c3; omega
              obtain ⟨zx, kx⟩ : ∃ zx, num? x = some zx := by
                cases e : num? x with
                | some v => exact ⟨v, rfl⟩
                | none => simp [e] at cn
              obtain ⟨zy, ky⟩ : ∃ zy, num? y = some zy := by
                cases e : num? y with
                | some v => exact ⟨v, rfl⟩
                | none => simp [e] at cn
              obtain ⟨zz, kz⟩ : ∃ zz, num? z = some zz := by
                cases e : num? z with
                | some v => exact ⟨v, rfl⟩
                | none => simp [e] at cn
              have e6 : [x, y, z].map numV = [V.int zx, .int zy, .int zz] := by
                show [numV x, numV y, numV z] = _
                unfold numV
                rw [kx, ky, kz]
              rw [e6] at h5
              have f5 := s5 _ _ (s4 _ _ h3)
              walk_at "go"
              refine ⟨ty_lst f5, ?_⟩
              walk_at "go"
              refine i_ixL (SqL.of h5) (v := .int zx) (atI_nat (j := 0) rfl) ?_
              walk_at "go"
              refine i_ixL (SqL.of h5) (v := .int zy) (atI_nat (j := 1) rfl) ?_
              walk_at "go"
              refine i_ixL (SqL.of h5) (v := .int zz) (atI_nat (j := 2) rfl) ?_
              walk_at "go"
              refine i_tupk (by show 3 ≤ 100000; decide) fun tp H6 n6 s6 h6 => ?_
              walk_at "go"
              have il := (List.getElem?_eq_some_iff.mp hwi).1
              have wl : ts.length ≤ i := by
                obtain ⟨_, k2⟩ := words_back hw
                have := congrArg List.length k2
                rw [List.length_map, List.length_take] at this
                omega
              have f6 := s6 _ _ f5
              refine i_app f6 (by rw [hT.len]; omega) ?_
              walk_at "go"
              have k3 : three? (TL.spl [47] 0 [] w) = some (zx, zy, zz) := by
                rw [hps]
                show (match num? x, num? y, num? z with
                  | some x, some y, some z => some (x, y, z)
                  | _, _, _ => none) = _
                rw [kx, ky, kz]
              refine ⟨_, _, _, ts ++ [(zx, zy, zz)], rfl, Same.mut (s35.trans s6) nf, (upd_ne (Ne.symm npw)).trans (s6 _ _ (s5 _ _ (s4 _ _ hpw))), upd_same, by rw [take_snoc hwi]; exact words_snoc hw k3, ?_⟩
              exact ThL.mono (sameT_lst f6) (All2.snoc (ThL.mono (smT ((s4.trans s5).trans s6)) hT) ⟨tp, rfl, SqT.of h6⟩)
      · rintro σ' H3 ⟨y2, y3, us, ts, rfl, s3, hpw, h3, hw, hT⟩
        rw [List.length_map, List.length_map, List.take_length] at hw
        walk_at "go"
        exact q1 ts (by rw [pe, hw]) H3 pf us s3 nf h3 hT
    · walk_at "go"
      refine i_lstk (Nat.zero_le _) fun p2 H2 n2 s2 h2 => ?_
      refine i_itl (SqL.of h2) ?_
      refine for_list (K := K) (a := p2) (xs := []) (fun i σ' H' => ∃ (y2 y3 : Option V), σ' = [some (.str (S a)), some (.ref pf), y2, y3, none] ∧ H' = H2) ?_ ?_ ?_ ?_
      · exact ⟨_, _, rfl, rfl⟩
      · rintro i σ' H' _ ⟨_, _, _, rfl⟩
        exact SqL.of h2
      · rintro i x σ' H' hx _
        simp at hx
      · rintro σ' H' ⟨y2, y3, rfl, rfl⟩
        walk_at "go"
        exact q1 [] (by unfold prs; rw [if_pos (S_inj c)]) _ pf [] (s1.trans s2) nf (s2 _ _ h1) All2.nil
end
abbrev s__law_few : Stmt := topS 28
abbrev n__law_few : List Str := ["_law_some"]
theorem sc__law_few : FnScope n__law_few [] (defScope s__law_few) := ⟨rfl, rfl, rfl, by decide +kernel, rfl, by decide +kernel, by decide +kernel⟩
abbrev s_law : Stmt := topS 29
abbrev n_law : List Str := ["_law_script", "_law_things_here", "_law_words", "_law_text", "_law_handed", "_law_cell", "_law_k", "_law_at", "_law_sign", "_law_one", "_law_dry", "_law_other", "_law_thing"]
theorem sc_law : FnScope n_law ["_law_script"] (defScope s_law) := ⟨rfl, rfl, rfl, by decide +kernel, rfl, by decide +kernel, by decide +kernel⟩
def sp_rite : Sp := fun vs H Q _ => ∃ a : List Nat, vs = [.str (S a)] ∧ a.length ≤ 90000 ∧ ∀ H', Same H H' → Q (.bl true) H'
section
variable {P : Program} {ww : World} {K : PySem.W.Frag} {mg : Str → Option Value} {base : Heap} {cT cBenchError cO cH cI : Addr}
theorem ok__law_right (B : Blt mg) (c__law_in : Cal P ww K mg base 2 "_law_in" (sp_lin K)) (c__law_refused : Cal P ww K mg base 3 "_law_refused" (sp_refd K)) (c_read : CalN P ww K mg base 2 "read" (sp_read K cT)) (c_written : Cal P ww K mg base 4 "written" (sp_written K)) (D : Def K mg "_law_right" s__law_right ["_law_text"]) : Cal P ww K mg base 5 "_law_right" sp_rite := by
  refine D.cal sc__law_right (fun vs H Q E h => ?_) (fun f cdv A outer s H vs Q E hr h => ?_)
  · obtain ⟨a, rfl, _⟩ := h
    rfl
  · obtain ⟨a, rfl, hl, q⟩ := h
    refine ⟨_, pss_cons (ps_set (i := 1) sc__law_right.nd rfl (.inl rfl) (pe_cal c__law_in hr (by decide) (by rfl) (pa_cons (pv 0) pa_nil)))
    (pss_cons (ps_if (pt_cmpR cp_isN (pv 1) pe_non (nomark _))
      (pss_one (ps_ret (pe_cal c__law_refused hr (by decide) (by rfl) (pa_cons (pv 0) pa_nil))))
      (pss_nil))
    (pss_cons (ps_set (i := 2) sc__law_right.nd rfl (.inl rfl) (pe_calN c_read hr (by decide) (by rfl) tkNone (pa_cons (pv 0) pa_nil)))
    (pss_cons (ps_if (PW.pt (pw_or (pt_not (pt_val (pe_callB (r := rIsi K) call_isi (by rfl) B.isinstance (by decide +kernel) (pa_cons (pv 2) (pa_cons (pe_bltn (v := .ty "list") (u := .type "list") (by rfl) B.list (by decide +kernel) rfl) pa_nil))))) (pw_or (pt_cmpR (r := rNeD K) (op_neD hr.units) (pv 2) (pv 1) (nomark _)) (pw_or1 (pt_cmpR op_ne (pe_cal c_written hr (by decide) (by rfl) (pa_cons (pv 2) pa_nil)) (pv 0) (nomark _))))))
      (pss_one (ps_ret pe_bl))
      (pss_nil))
    (pss_cons (ps_expr (pe_bm PySem.F.plainAttrs_list PySem.F.slot_list_append PySem.F.type_list_append mt_append (pv 2) (pa_cons (pe_tup (pa_cons pe_int (pa_cons pe_int (pa_cons pe_int pa_nil)))) pa_nil)))
    (pss_one (ps_ret (pe_cmpR (r := rEqD K) (op_eqD hr.units) (pe_calN c_read hr (by decide) (by rfl) tkNone (pa_cons (pv 0) pa_nil)) (pv 1) (nomark _)))))))), ?_⟩
    walk_at "go"
    cases hp : prs a with
    | none =>
      refine ⟨a, rfl, hl, fun _ H1 s1 => ?_, fun ts e => by rw [hp] at e; cases e⟩
      walk_at "go"
      refine i_isN ?_
      refine ⟨true, rfl, ?_⟩
      walk_at "go"
      exact ⟨_, rfl, .inl ⟨a, rfl, hl, hp⟩, fun H' s' => q H' (s1.trans s')⟩
    | some ts =>
      obtain ⟨sm, wt, tl⟩ := prs_back hp
      refine ⟨a, rfl, hl, (fun e => by rw [hp] at e; cases e), fun ts' e H1 p1 v1 s1 n1 h1 T1 => ?_⟩
      rw [hp] at e
      cases e
      walk_at "go"
      refine i_isN ?_
      refine ⟨false, rfl, ?_⟩
      walk_at "go"
      refine ⟨_, rfl, .inl ⟨a, rfl, hl, fun ts' e H2 p2 v2 s2 n2 h2 T2 => ?_, (fun e => by rw [hp] at e; cases e)⟩⟩
      rw [hp] at e
      cases e
      walk_at "go"
      refine i_isi (r := true) (ty_sqL (SqL.of h2)) (by decide +kernel) ?_
      walk_at "go"
      have W2 : Things K H2 p2 ts := ⟨v2, SqL.of h2, T2⟩
      have W1 : Things K H2 p1 ts := ⟨v1, SqL.of (s2 _ _ h1), ThL.mono (smT s2) T1⟩
      refine i_neD (d := dT ts) (e := dT ts) (dp_things W2) (dp_things W1) (shaped_dT _) (shaped_dT _) ?_
      rw [eqv_dT, decide_eq_true rfl]
      walk_at "go"
      refine ⟨p2, ts, rfl, W2, sm, by omega, by rw [wt]; omega, fun H3 s3 => ?_⟩
      walk_at "go"
      rw [wt, decide_eq_true rfl]
      walk_at "go"
      have h3 := s3 _ _ h2
      refine ⟨ty_lst h3, ?_⟩
      walk_at "go"
      refine i_tupk (by show 3 ≤ 100000; decide) fun tp H4 n4 s4 h4 => ?_
      walk_at "go"
      refine i_app (s4 _ _ h3) (by rw [T2.len]; omega) ?_
      walk_at "go"
      have s5 : Same H1 (upd H4 p2 (.lst (v2 ++ [.ref tp]))) := Same.mut ((s2.trans s3).trans s4) n2
      generalize upd H4 p2 (.lst (v2 ++ [.ref tp])) = H5 at s5 ⊢
      refine ⟨_, rfl, .inl ⟨a, rfl, hl, fun ts' e H6 p6 v6 s6 n6 h6 T6 => ?_, (fun e => by rw [hp] at e; cases e)⟩⟩
      rw [hp] at e
      cases e
      walk_at "go"
      have s16 := s5.trans s6
      refine i_eqD (d := dT ts) (e := dT ts) (dp_things ⟨v6, SqL.of h6, T6⟩) (dp_things ⟨v1, SqL.of (s16 _ _ h1), ThL.mono (smT s16) T1⟩) (shaped_dT _) (shaped_dT _) ?_
      rw [eqv_dT, decide_eq_true rfl]
      exact q H6 (s1.trans s16)
def isT (v : V) : Prop := ∃ z : Str, v = .str z ∧ z.length ≤ 10000
def allT (ys : List V) : Prop := ∀ y ∈ ys, isT y
theorem allT_n : allT [] := fun y h => nomatch h
theorem allT_c {z : Str} {ys : List V} (h : z.length ≤ 10000) (k : allT ys) : allT (.str z :: ys) := fun y hy => by
  rcases List.mem_cons.mp hy with rfl | hy
  · exact ⟨z, rfl, h⟩
  · exact k y hy
theorem allT_a {xs ys : List V} (h : allT xs) (k : allT ys) : allT (xs ++ ys) := fun y hy => by
  rcases List.mem_append.mp hy with hy | hy
  · exact h y hy
  · exact k y hy
theorem app_len (x y : Str) : (x ++ y).length = x.length + y.length := by
  have e := congrArg List.length (TL.tl_append x y)
  rw [List.length_append] at e
  simpa [TL.tl, Str.length] using e
theorem i_nine {H : Hp} {Q : VK} {n : Int} (ok : MulOk (Str.ofString "9") n) (hl : (Txt.mul (Str.ofString "9") n).length ≤ 4000) (h : ∀ z : Str, z.length ≤ 4000 → Q (.str z) H) : rMulS (.str (Str.ofString "9")) (.int n) H Q := ⟨_, n, rfl, rfl, ok, h _ hl⟩
theorem i_addT {x y : Str} {H : Hp} {Q : VK} (hz : x.length + y.length ≤ 9000) (h : ∀ z : Str, z.length ≤ 9000 ∧ z.length = x.length + y.length → Q (.str z) H) : rAddS (.str x) (.str y) H Q := ⟨x, y, rfl, rfl, Nat.le_trans hz (by decide), h _ ⟨by rw [app_len]; exact hz, app_len x y⟩⟩
def sp_few : Sp := fun vs H Q _ => vs = [] ∧ ∀ H' p ys, Same H H' → H' p = some (.lst ys) → ys.length ≤ 100 → (∀ y ∈ ys, isT y) → Q (.ref p) H'
theorem ok__law_few (B : Blt mg) (D : Def K mg "_law_few" s__law_few []) : Cal P ww K mg base 1 "_law_few" sp_few := by
  refine D.cal sc__law_few (fun vs H Q E h => ?_) (fun f cdv A outer s H vs Q E hr h => ?_)
  · obtain ⟨rfl, _⟩ := h
    rfl
  · obtain ⟨rfl, q⟩ := h
    refine ⟨_, pss_cons (ps_set (i := 0) sc__law_few.nd rfl (.inl rfl) (pe_lst (pa_cons pe_str (pa_cons pe_str (pa_cons pe_str (pa_cons pe_str (pa_cons pe_str (pa_cons pe_str (pa_cons pe_str (pa_cons pe_str (pa_cons pe_str (pa_cons pe_str (pa_cons pe_str (pa_cons pe_str (pa_cons pe_str (pa_cons pe_str (pa_cons pe_str pa_nil)))))))))))))))))
    (pss_cons (ps_set (i := 0) sc__law_few.nd rfl (.inl rfl) (pe_op op_cat (pv 0) (pe_lst (pa_cons pe_str (pa_cons pe_str (pa_cons pe_str (pa_cons pe_str (pa_cons pe_str (pa_cons pe_str (pa_cons pe_str (pa_cons pe_str (pa_cons pe_str pa_nil))))))))))))
    (pss_cons (ps_set (i := 0) sc__law_few.nd rfl (.inl rfl) (pe_op op_cat (pv 0) (pe_lst (pa_cons pe_str (pa_cons pe_str (pa_cons pe_str (pa_cons pe_str (pa_cons pe_str (pa_cons pe_str (pa_cons pe_str (pa_cons pe_str (pa_cons pe_str pa_nil))))))))))))
    (pss_cons (ps_expr (pe_bm PySem.F.plainAttrs_list PySem.F.slot_list_append PySem.F.type_list_append mt_append (pv 0) (pa_cons pe_str pa_nil)))
    (pss_cons (ps_set (i := 0) sc__law_few.nd rfl (.inl rfl) (pe_op op_cat (pv 0) (pe_lst (pa_cons pe_str (pa_cons pe_str (pa_cons pe_str (pa_cons pe_str (pa_cons pe_str (pa_cons (pe_op op_addS (pe_op op_mulS pe_str pe_int) pe_str) (pa_cons (pe_op op_addS (pe_op op_mulS pe_str pe_int) pe_str) pa_nil))))))))))
    (pss_one (ps_ret (pe_op op_cat (pv 0) (pe_lst (pa_cons (pe_op op_addS (pe_op op_addS pe_str (pe_op op_mulS pe_str pe_int)) pe_str) (pa_cons (pe_op op_addS pe_str (pe_op op_mulS pe_str pe_int)) (pa_cons (pe_op op_addS (pe_op op_mulS pe_str pe_int) pe_str) pa_nil))))))))))), ?_⟩
    walk_at "go"
    have len9 : ∀ {z : Str}, z.length ≤ 9000 → z.length ≤ 10000 := fun h => Nat.le_trans h (by decide)
    refine i_lstk (by show 15 ≤ 100000; decide) fun p1 H1 _ s1 h1 => ?_
    walk_at "go"
    refine i_lstk (by show 9 ≤ 100000; decide) fun p2 H2 _ s2 h2 => ?_
    refine i_cat (s2 _ _ h1) h2 (by show 24 ≤ 100000; decide) fun p3 H3 n3 s3 h3 => ?_
    walk_at "go"
    refine i_lstk (by show 9 ≤ 100000; decide) fun p4 H4 _ s4 h4 => ?_
    refine i_cat (s4 _ _ h3) h4 (by show 33 ≤ 100000; decide) fun p5 H5 n5 s5 h5 => ?_
    walk_at "go"
    refine ⟨ty_lst h5, ?_⟩
    walk_at "go"
    refine i_app h5 (by show 33 < 100000; decide) ?_
    walk_at "go"
    have s15 := (((s1.trans s2).trans s3).trans s4)
    have s6 : ∀ o, Same H (upd H5 p5 o) := fun o => Same.mut (s15.trans s5) (s15.free n5)
    refine i_nine ⟨by decide, fun _ _ => by decide, fun _ _ => by decide⟩ (by decide +kernel) fun z1 l1 => ?_
    walk_at "go"
    refine i_addT (Nat.le_trans (Nat.add_le_add_right l1 _) (by decide +kernel)) fun z2 l2 => ?_
    walk_at "go"
    refine i_nine ⟨by decide, fun _ _ => by decide, fun _ _ => by decide⟩ (by decide +kernel) fun z3 l3 => ?_
    walk_at "go"
    refine i_addT (Nat.le_trans (Nat.add_le_add_right l3 _) (by decide +kernel)) fun z4 l4 => ?_
    walk_at "go"
    refine i_lstk (by show 7 ≤ 100000; decide) fun p7 H7 _ s7 h7 => ?_
    refine i_cat (s7 _ _ upd_same) h7 (by show 34 + 7 ≤ 100000; decide) fun p8 H8 _ s8 h8 => ?_
    walk_at "go"
    refine i_nine ⟨by decide, fun _ _ => by decide, fun _ _ => by decide⟩ (by decide +kernel) fun z5 l5 => ?_
    refine i_addT (Nat.le_trans (Nat.add_le_add_left l5 _) (by decide +kernel)) fun z6 l6 => ?_
    walk_at "go"
    refine i_addT (by rw [l6.2]; exact Nat.le_trans (Nat.add_le_add_right (Nat.add_le_add_left l5 _) _) (by decide +kernel)) fun z7 l7 => ?_
    walk_at "go"
    refine i_nine ⟨by decide, fun _ _ => by decide, fun _ _ => by decide⟩ (by decide +kernel) fun z8 l8 => ?_
    refine i_addT (Nat.le_trans (Nat.add_le_add_left l8 _) (by decide +kernel)) fun z9 l9 => ?_
    walk_at "go"
    refine i_nine ⟨by decide, fun _ _ => by decide, fun _ _ => by decide⟩ (by decide +kernel) fun z10 l10 => ?_
    walk_at "go"
    refine i_addT (Nat.le_trans (Nat.add_le_add_right l10 _) (by decide +kernel)) fun z11 l11 => ?_
    walk_at "go"
    refine i_lstk (by show 3 ≤ 100000; decide) fun p9 H9 _ s9 h9 => ?_
    refine i_cat (s9 _ _ h8) h9 (by show 41 + 3 ≤ 100000; decide) fun p10 H10 _ s10 h10 => ?_
    refine q H10 p10 _ ((((s6 _).trans s7).trans s8).trans (s9.trans s10)) h10 (by show 44 ≤ 100; decide) ?_
    show allT _
    refine allT_a (allT_a (allT_a (allT_a (allT_a ?_ ?_) ?_) ?_) ?_) ?_
    all_goals repeat first | exact allT_n | refine allT_c (by decide +kernel) ?_ | refine allT_c (len9 l2.1) ?_ | refine allT_c (len9 l4.1) ?_ | refine allT_c (len9 l7.1) ?_ | refine allT_c (len9 l9.1) ?_ | refine allT_c (len9 l11.1) ?_
theorem i_pick {K : PySem.W.Frag} {H : Hp} {Q : VK} {p : Addr} {xs : List V} {r : Int} (hp : SqT K H p xs) (r0 : 0 ≤ r) (r1 : r < xs.length) (h : ∀ x ∈ xs, Q x H) : rIxT K (.ref p) (.int r) H Q := by
  obtain ⟨j, rfl⟩ : ∃ j : Nat, r = (j : Int) := ⟨r.toNat, by omega⟩
  have e := List.getElem?_eq_getElem (show j < xs.length by omega)
  exact i_ixT hp (atI_nat e) (h _ (List.mem_of_getElem? e))
theorem i_addL {a b : List Nat} {x y : Str} {H : Hp} {Q : VK} (ex : x = S a) (ey : y = S b) (hz : a.length + b.length ≤ 1000000) (h : Q (.str (S (a ++ b))) H) : rAddS (.str x) (.str y) H Q := by
  subst ex ey
  refine i_addS (by rw [S_len, S_len]; exact hz) ?_
  rw [S_cat]
  exact h
def dS (L : List (List Nat)) : PyData := .list (L.map fun w => PyData.str (S w))
theorem dp_strs {K : PySem.W.Frag} {H : Hp} {p : Addr} {L : List (List Nat)} (h : SqL K H p ((L.map S).map V.str)) : Dp K H (.ref p) (dS L) := by
  refine .lst h ?_
  rw [List.map_map]
  clear h
  induction L with
  | nil => exact .nil
  | cons w r ih => exact .cons (.str _) ih
theorem chr_lt (c : Char) : c.toNat < 1114112 := by
  rcases c.valid with h | ⟨_, h⟩
  · exact Nat.lt_trans h (by decide)
  · exact h
theorem wthg_lt (t : T3) : ∀ c ∈ wthg t, c < 1114112 := by
  have n : ∀ m, ∀ c ∈ wnum m, c < 1114112 := fun m c hc => by
    obtain ⟨ch, _, rfl⟩ := List.mem_map.mp hc
    exact chr_lt ch
  intro c hc
  have e : wthg t = wnum t.1 ++ ([47] ++ (wnum t.2.1 ++ ([47] ++ wnum t.2.2))) := rfl
  rw [e] at hc
  simp only [List.mem_append, List.mem_singleton] at hc
  rcases hc with h | h | h | h | h
  · exact n _ c h
  · omega
  · exact n _ c h
  · omega
  · exact n _ c h
theorem shaped_dS {L : List (List Nat)} (h : ∀ w ∈ L, ∀ c ∈ w, c < 1114112) : SeqAt.shaped (dS L) = true := sok_shaped (n := 1) (sok_list fun x hx => by
  obtain ⟨w, hw, rfl⟩ := List.mem_map.mp hx
  refine ⟨?_, Nat.zero_le _⟩
  simp only [PyData.canLay0, PyData.strOk]
  rw [← Array.all_toList, List.all_eq_true]
  intro c hc
  exact decide_eq_true (h w hw c hc)) (by decide)
theorem eqv_dS (L : List (List Nat)) : PyData.eqv (dS L) (dS []) = decide (L = []) := by
  unfold dS
  rw [eqv_list]
  cases L <;> simp [PyData.eqvAll]
theorem sum_le {L : List (List Nat)} {m : Nat} (h : ∀ w ∈ L, w.length ≤ m) : (L.map (·.length)).sum ≤ m * L.length := by
  induction L with
  | nil => simp
  | cons w r ih =>
    have h1 := h w List.mem_cons_self
    have h2 := ih fun x hx => h x (List.mem_cons_of_mem w hx)
    rw [List.map_cons, List.sum_cons, List.length_cons, Nat.mul_add]
    omega
def sp_law (K : PySem.W.Frag) : Sp := fun vs H Q _ => ∃ (a : Addr) (ns : List Int), vs = [.ref a] ∧ SqL K H a (ns.map V.int) ∧ ns.length ≤ 63 ∧ ∀ H', Q (.bl true) H'
theorem ok_law (B : Blt mg) (c__law_cell_at : Cal P ww K mg base 1 "_law_cell_at" (sp_cell K)) (c__law_draw : Cal P ww K mg base 1 "_law_draw" sp_draw) (c__law_things : Cal P ww K mg base 2 "_law_things" (sp_things K)) (c_written : Cal P ww K mg base 4 "written" (sp_written K)) (c__law_right : Cal P ww K mg base 5 "_law_right" sp_rite) (c__law_few : Cal P ww K mg base 1 "_law_few" sp_few) (c__law_refused : Cal P ww K mg base 3 "_law_refused" (sp_refd K)) {f : Addr} {fd : FuncData} (F : FnP K "law" s_law f fd) : FnOk P ww K mg base CX0 6 f fd ["_law_script"] (sp_law K) := by
  refine fn_law F sc_law (fun vs H Q E h => ?_) (fun cdv A outer s H vs Q E hr h => ?_)
  · obtain ⟨a, ns, rfl, _⟩ := h
    rfl
  · obtain ⟨a, ns, rfl, hs, hz, q⟩ := h
    refine ⟨_, pss_cons (ps_set (i := 1) sc_law.nd rfl (.inl rfl) (pe_cal c__law_things hr (by decide) (by rfl) (pa_cons (pv 0) pa_nil)))
    (pss_cons (ps_setLc (i := 2) (own := [("_law_one", 9), ("_law_dry", 10), ("_law_other", 11)]) rfl sc_law.nd rfl rfl (sw_true rfl rfl rfl (by decide +kernel)) (pi_list (pv 1)) (blkOk_by (N := n_law) (sc := defScope s_law) (by decide +kernel)) (fun _ _ _ _ _ => (pg_tup (n := 3) rfl (pgs_cons (pg_name (i := 9) sc_law.nd rfl (.inl rfl)) (pgs_cons (pg_name (i := 10) sc_law.nd rfl (.inl rfl)) (pgs_cons (pg_name (i := 11) sc_law.nd rfl (.inl rfl)) pgs_nil))) : PG _ _ (gTup K 3 (gCons (gName 9) (gCons (gName 10) (gCons (gName 11) gNil)))))) (fun _ _ _ _ _ => pts_nil) (fun _ _ _ _ _ => (pe_op op_addS (pe_op op_addS (pe_op op_addS (pe_op op_addS (pe_callTy cs_str (by rfl) B.str (by decide +kernel) (pa_cons (pv 9) pa_nil)) pe_str) (pe_callTy cs_str (by rfl) B.str (by decide +kernel) (pa_cons (pv 10) pa_nil))) pe_str) (pe_callTy cs_str (by rfl) B.str (by decide +kernel) (pa_cons (pv 11) pa_nil)))))
    (pss_mid (ps_set (i := 3) sc_law.nd rfl (.inl rfl) (pe_ifExp (pt_cmpR (r := rNeD K) (op_neD hr.units) (pv 2) (pe_lst pa_nil) (nomark _)) (pe_joinS pe_str (pv 2) : PE _ _ (tM1 (rJoinS K) _ _)) pe_str))
    (pss_cons (ps_set (i := 4) sc_law.nd rfl (.inl rfl) (pe_callTy (r := rListB K) cb_list (by rfl) B.list (by decide +kernel) (pa_cons (pv 1) pa_nil)))
    (pss_cons (ps_if (PW.pt (pw_or (pt_cmpR op_ne (pe_cal c_written hr (by decide) (by rfl) (pa_cons (pv 4) pa_nil)) (pv 3) (nomark _)) (pw_or (pt_cmpR (r := rNeD K) (op_neD hr.units) (pv 4) (pv 1) (nomark _)) (pw_or1 (pt_not (pt_val (pe_cal c__law_right hr (by decide) (by rfl) (pa_cons (pv 3) pa_nil))))))))
      (pss_one (ps_ret pe_bl))
      (pss_nil))
    (pss_cons (ps_set (i := 5) sc_law.nd rfl (.inl rfl) (pe_op op_add (pe_cal c__law_cell_at hr (by decide) (by rfl) (pa_cons (pv 0) (pa_cons pe_int pa_nil))) (pe_op op_mul pe_int (pe_cal c__law_cell_at hr (by decide) (by rfl) (pa_cons (pv 0) (pa_cons pe_int pa_nil))))))
    (pss_cons (ps_for PassesOwn.never rfl (pi_range1 (by rfl) B.range (pa_cons pe_int pa_nil)) (pg_name (i := 6) sc_law.nd rfl (.inl rfl))
      (pss_cons (ps_set (i := 7) sc_law.nd rfl (.inl rfl) (pe_cal c__law_draw hr (by decide) (by rfl) (pa_cons (pe_op op_add (pv 5) (pv 6)) (pa_cons pe_int (pa_cons (pe_op op_add (pe_callB cs_len (by rfl) B.len (by decide +kernel) (pa_cons (pv 3) pa_nil)) pe_int) pa_nil)))))
        (pss_cons (ps_set (i := 8) sc_law.nd rfl (.inl rfl) (pe_ix (r := rIxT K) ix_tup (pe_tup (pa_cons pe_str (pa_cons (pe_ix ix_str pe_str (pe_cal c__law_draw hr (by decide) (by rfl) (pa_cons (pe_op op_add (pv 5) (pv 6)) (pa_cons pe_int (pa_cons pe_int pa_nil)))) (fun _ _ => rfl)) pa_nil))) (pe_cal c__law_draw hr (by decide) (by rfl) (pa_cons (pe_op op_add (pv 5) (pv 6)) (pa_cons pe_int (pa_cons pe_int pa_nil)))) (fun _ _ => rfl)))
        (pss_one (ps_if (pt_not (pt_val (pe_cal c__law_right hr (by decide) (by rfl) (pa_cons (pe_op op_addS (pe_op op_addS (pe_slice C8.sl_txt (pv 3) po_none (po_some (pv 7))) (pv 8)) (pe_slice C8.sl_txt (pv 3) (po_some (pe_op op_add (pv 7) (pe_cal c__law_draw hr (by decide) (by rfl) (pa_cons (pe_op op_add (pv 5) (pv 6)) (pa_cons pe_int (pa_cons pe_int pa_nil)))))) po_none)) pa_nil))))
          (pss_one (ps_ret pe_bl))
          (pss_nil))))))
    (pss_cons (ps_if (pt_not (pt_val (pe_callB (r := rAll K) (cr_all rfl) (by rfl) B.all (by decide +kernel) (pa_cons (pe_lc (own := [("_law_other", 11)]) rfl sc_law.nd (pi_list (pe_cal0 c__law_few hr (by decide) (by rfl))) (blkOk_by (N := n_law) (sc := defScope s_law) (by decide +kernel)) (fun _ _ _ _ _ => (pg_name (i := 11) sc_law.nd rfl (.inl rfl))) (fun _ _ _ _ _ => pts_nil) (fun _ _ _ _ _ => (pe_cal c__law_right hr (by decide) (by rfl) (pa_cons (pv 11) pa_nil)))) pa_nil))))
      (pss_one (ps_ret pe_bl))
      (pss_nil))
    (pss_one (ps_ret (pe_callB (r := rAll K) (cr_all rfl) (by rfl) B.all (by decide +kernel) (pa_cons (pe_lc (own := [("_law_thing", 12)]) rfl sc_law.nd (pi_list (pe_lst (pa_cons pe_non (pa_cons pe_int (pa_cons (pe_lst (pa_cons pe_str pa_nil)) (pa_cons pe_bl pa_nil)))))) (blkOk_by (N := n_law) (sc := defScope s_law) (by decide +kernel)) (fun _ _ _ _ _ => (pg_name (i := 12) sc_law.nd rfl (.inl rfl))) (fun _ _ _ _ _ => pts_nil) (fun _ _ _ _ _ => (pe_cal c__law_refused hr (by decide) (by rfl) (pa_cons (pv 12) pa_nil)))) pa_nil))))))))))), ?_⟩
    walk_at "go"
    refine ⟨a, ns, rfl, hs, hz, fun H1 p1 vs' ts s1 np1 h1 hT1 hS hl => ?_⟩
    have hT : Things K H1 p1 ts := ⟨vs', SqL.of h1, hT1⟩
    have hSm : ∀ t ∈ ts, Small t := hS
    walk_at "go"
    refine i_itl (SqL.of h1) ?_
    refine fun p2 n2 => lc_map (K := K) (R := fun i y _ => ∀ t, ts[i]? = some t → y = .str (S (wthg t))) (fun _ h => h) sqn_l (fun H' e => e.seq (SqL.of h1)) (by rw [hT1.len]; omega) n2 (fun i x H' Qc Qn hx sm k => ?_) (fun ys H2 s2 h2 hl2 hr2 => ?_)
    · obtain ⟨t, ht, hx'⟩ := hT1.at' hx
      obtain ⟨pt, rfl, hpt⟩ := hx'.mono (smT sm)
      have st := hSm t (List.mem_of_getElem? ht)
      have la := wnum_len st.1.1 st.2.1
      have lb := wnum_len st.1.2.1 st.2.2.1
      have lc := wnum_len st.1.2.2 st.2.2.2
      refine i_gtup hpt rfl ?_
      walk_at "go"
      refine ⟨rfl, ?_⟩
      walk_at "go"
      refine i_strI st.1.1 st.2.1 ?_
      walk_at "go"
      refine i_addL rfl e_sl (by show _ + 1 ≤ 1000000; omega) ?_
      walk_at "go"
      refine i_strI st.1.2.1 st.2.2.1 ?_
      refine i_addL rfl rfl (by rw [List.length_append]; show _ + 1 + _ ≤ 1000000; omega) ?_
      walk_at "go"
      refine i_addL rfl e_sl (by rw [List.length_append, List.length_append]; show _ + 1 + _ + 1 ≤ 1000000; omega) ?_
      walk_at "go"
      refine i_strI st.1.2.2 st.2.2.2 ?_
      refine i_addL rfl rfl (by rw [List.length_append, List.length_append, List.length_append]; show _ + 1 + _ + 1 + _ ≤ 1000000; omega) ?_
      exact k _ _ (Same.refl _) fun t' ht' => by
        rw [ht] at ht'
        cases ht'
        unfold wthg
        simp [TL.joinL]
    · have e2 : ys = ((ts.map wthg).map S).map V.str := by
        rw [List.map_map, List.map_map]
        refine List.ext_getElem? fun i => ?_
        rw [List.getElem?_map]
        cases e : ts[i]? with
        | none => exact List.getElem?_eq_none (by rw [hl2, hT1.len]; exact List.getElem?_eq_none_iff.mp e)
        | some t =>
          have hi : i < ys.length := by rw [hl2, hT1.len]; exact (List.getElem?_eq_some_iff.mp e).1
          rw [List.getElem?_eq_getElem hi, hr2 i _ (List.getElem?_eq_getElem hi) t e]
          rfl
      rw [e2] at h2
      have sl := sum_le (L := ts.map wthg) (m := 182) fun w hw => by
        obtain ⟨t, ht, rfl⟩ := List.mem_map.mp hw
        exact wthg_len (hSm t ht)
      rw [List.length_map] at sl
      have wl : (wtx ts).length ≤ 50000 := by
        unfold wtx
        split
        · decide
        · rename_i c
          have j := joinL_len 32 (L := ts.map wthg) (fun z => c (List.map_eq_nil_iff.mp z))
          rw [List.length_map] at j
          omega
      walk_at "go"
      refine i_mid (fun σ' H' => σ' = [some (.ref a), some (.ref p1), some (.ref p2), some (.str (S (wtx ts))), none, none, none, none, none, none, none, none, none] ∧ Same H1 H') ?_ ?_
      · walk_at "go"
        refine i_lstk (Nat.zero_le _) fun p3 H3 n3 s3 h3 => ?_
        refine i_neD (d := dS (ts.map wthg)) (e := dS []) (dp_strs (SqL.of (s3 _ _ h2))) (dp_strs (SqL.of h3)) (shaped_dS fun w hw => by
          obtain ⟨t, _, rfl⟩ := List.mem_map.mp hw
          exact wthg_lt t) (shaped_dS fun w hw => nomatch hw) ?_
        rw [eqv_dS]
        refine ⟨_, rfl, ?_⟩
        refine i_itdn (fun c => ?_) (fun c => ?_)
        · have tne : ts ≠ [] := fun z => c (by rw [z]; rfl)
          walk_at "go"
          refine ⟨⟨_, rfl⟩, ?_⟩
          walk_at "go"
          refine i_joinS e_sp (SqL.of (s3 _ _ h2)) (by rw [List.length_map]; omega) ?_
          walk_at "go"
          exact ⟨by unfold wtx; rw [if_neg tne]; rfl, s2.trans s3⟩
        · have t0 : ts = [] := List.map_eq_nil_iff.mp c
          walk_at "go"
          exact ⟨by rw [t0]; rfl, s2.trans s3⟩
      rintro σ' H3 ⟨rfl, s3⟩
      walk_at "go"
      refine i_listL (s3.seq (SqL.of h1)) fun c1 H4 n4 s4 h4 => ?_
      walk_at "go"
      have s14 := s3.trans s4
      have C4 : Things K H4 c1 ts := ⟨vs', SqL.of h4, ThL.mono (smT s14) hT1⟩
      refine ⟨c1, ts, rfl, C4, hSm, by omega, by omega, fun H5 s5 => ?_⟩
      walk_at "go"
      rw [decide_eq_true rfl]
      walk_at "go"
      have s15 := s14.trans s5
      refine i_neD (d := dT ts) (e := dT ts) (dp_things (C4.mono s5)) (dp_things (hT.mono s15)) (shaped_dT _) (shaped_dT _) ?_
      rw [eqv_dT, decide_eq_true rfl]
      walk_at "go"
      refine ⟨wtx ts, rfl, by omega, fun H6 s6 => ?_⟩
      walk_at "go"
      have s16 := s15.trans s6
      have hs6 := (s1.trans s16).seq hs
      refine ⟨a, ns, 3, rfl, hs6, ?_⟩
      walk_at "go"
      refine ⟨a, ns, 0, rfl, hs6, ?_⟩
      refine i_I (.inl ⟨by decide, by decide⟩) ?_
      walk_at "go"
      generalize ns.getD 3 0 + 7 * ns.getD 0 0 = cl
      refine i_itr (m := 2) rfl (by decide) ?_
      refine for_rng (fun i σ' H' => ∃ y6 y7 y8 : Option V, σ' = [some (.ref a), some (.ref p1), some (.ref p2), some (.str (S (wtx ts))), some (.ref c1), some (.int cl), y6, y7, y8, none, none, none, none] ∧ Same H6 H') ?_ ?_ ?_
      · exact ⟨_, _, _, rfl, Same.refl _⟩
      · rintro k σ' H7 hk ⟨y6, y7, y8, rfl, s7⟩
        walk_at "go"
        refine i_lenS (by rw [S_len]; omega) ?_
        walk_at "go"
        refine ⟨_, 1, _, rfl, by decide, by omega, fun at_ H8 s8 a0 a1 => ?_⟩
        walk_at "go"
        rw [S_len] at a1
        refine ⟨_, 2, 15, rfl, by decide, by decide, fun r2 H9 s9 r20 r21 => ?_⟩
        obtain ⟨j, rfl⟩ : ∃ j : Nat, r2 = (j : Int) := ⟨r2.toNat, by omega⟩
        have jl : j < (Str.ofString "0123456789/ -x\n").cps.toList.length := Nat.lt_of_lt_of_le (show j < 15 by omega) (by decide +kernel)
        refine ⟨_, j, _, rfl, rfl, by decide +kernel, atI_nat (List.getElem?_eq_getElem jl), ?_⟩
        walk_at "go"
        refine i_tupk (by show 2 ≤ 100000; decide) fun tp H10 _ s10 h10 => ?_
        walk_at "go"
        refine ⟨_, 3, 2, rfl, by decide, by decide, fun r3 H11 s11 r30 r31 => ?_⟩
        refine i_pick (SqT.of (s11 _ _ h10)) r30 r31 fun x hx => ?_
        obtain ⟨sg, rfl, lsg⟩ : ∃ sg : List Nat, x = .str (S sg) ∧ sg.length ≤ 1 := by
          rcases List.mem_cons.mp hx with rfl | hx
          · exact ⟨[], rfl, by decide⟩
          · rw [List.mem_singleton.mp hx]
            exact ⟨[_], rfl, Nat.le_refl _⟩
        walk_at "go"
        refine ⟨S (wtx ts), rfl, by rw [S_len]; exact Nat.le_trans wl (by decide), ?_⟩
        rw [slice_to a0]
        walk_at "go"
        have lt : ((wtx ts).take at_.toNat).length ≤ 50000 := by rw [List.length_take]; omega
        refine i_addL rfl rfl (by omega) ?_
        walk_at "go"
        refine ⟨_, 4, 2, rfl, by decide, by decide, fun r4 H12 s12 r40 r41 => ?_⟩
        walk_at "go"
        refine ⟨S (wtx ts), rfl, by rw [S_len]; exact Nat.le_trans wl (by decide), ?_⟩
        rw [slice_from (by omega)]
        have ld : ((wtx ts).drop (at_ + r4).toNat).length ≤ (wtx ts).length - (at_ + r4).toNat := by rw [List.length_drop]; exact Nat.le_refl _
        have lt2 : ((wtx ts).take at_.toNat).length ≤ at_.toNat := by rw [List.length_take]; omega
        refine i_addL rfl rfl (by rw [List.length_append]; omega) ?_
        refine ⟨_, rfl, by rw [List.length_append, List.length_append]; omega, fun H13 s13 => ?_⟩
        walk_at "go"
        exact ⟨_, _, _, rfl, (((((s7.trans s8).trans s9).trans s10).trans s11).trans s12).trans s13⟩
      · rintro σ' H7 ⟨y6, y7, y8, rfl, s7⟩
        walk_at "go"
        refine ⟨rfl, fun H8 pf fs s8 h8 lf hf => ?_⟩
        refine i_itl (SqL.of h8) ?_
        refine fun p9 n9 => lc_map (K := K) (R := fun _ y _ => y = .bl true) (fun _ h => h) sqn_l (fun H' e => e.seq (SqL.of h8)) (by omega) n9 (fun i x H' Qc Qn hx sm k => ?_) (fun ys H9 s9 hy hl hr9 => ?_)
        · obtain ⟨z, rfl, lz⟩ := hf x (List.mem_of_getElem? hx)
          walk_at "go"
          refine ⟨rfl, ?_⟩
          walk_at "go"
          refine ⟨z.cps.toList, by rw [S_tl], Nat.le_trans (Nat.le_of_eq (Array.length_toList (xs := z.cps))) (Nat.le_trans lz (by decide)), fun H'' s'' => ?_⟩
          exact k _ _ s'' rfl
        · have e := all_true hl hr9
          rw [e] at hy
          walk_at "go"
          refine i_allT hy ?_
          walk_at "go"
          refine i_lstk (by show 1 ≤ 100000; decide) fun p10 H10 _ s10 h10 => ?_
          walk_at "go"
          refine i_lstk (by show 4 ≤ 100000; decide) fun p11 H11 _ s11 h11 => ?_
          refine i_itl (SqL.of h11) ?_
          refine fun p12 n12 => lc_map (K := K) (R := fun _ y _ => y = .bl true) (fun _ h => h) sqn_l (fun H' e => e.seq (SqL.of h11)) (by show 4 < 100000; decide) n12 (fun i x H' Qc Qn hx sm k => ?_) (fun ys H12 s12 hy hl hr12 => ?_)
          · have ty : ∃ T, TyX K H' x (.type T) ∧ kitB T "str" = some false := by
              have hm := List.mem_of_getElem? hx
              rcases List.mem_cons.mp hm with rfl | hm
              · exact ⟨"NoneType", .base .non, by decide +kernel⟩
              rcases List.mem_cons.mp hm with rfl | hm
              · exact ⟨"int", .base (.int 5), by decide +kernel⟩
              rcases List.mem_cons.mp hm with rfl | hm
              · exact ⟨"list", ty_list (sm _ _ (s11 _ _ h10)), by decide +kernel⟩
              rcases List.mem_cons.mp hm with rfl | hm
              · exact ⟨"bool", .base (.bl true), by decide +kernel⟩
              cases hm
            walk_at "go"
            refine ⟨rfl, ?_⟩
            walk_at "go"
            refine ⟨x, rfl, .inr ty, fun H'' s'' => ?_⟩
            exact k _ _ s'' rfl
          · have e := all_true hl hr12
            rw [e] at hy
            walk_at "go"
            exact i_allT hy (q H12)
end
def d_is_whole : He.DefD := ⟨("is_whole", none), "is_whole", "is_whole", defArgs s_is_whole, defBody s_is_whole, defScope s_is_whole, [], []⟩
def d_is_triple : He.DefD := ⟨("is_triple", none), "is_triple", "is_triple", defArgs s_is_triple, defBody s_is_triple, defScope s_is_triple, [], []⟩
def d_check_things : He.DefD := ⟨("check_things", none), "check_things", "check_things", defArgs s_check_things, defBody s_check_things, defScope s_check_things, [], []⟩
def d__law_cell_at : He.DefD := ⟨("_law_cell_at", none), "_law_cell_at", "_law_cell_at", defArgs s__law_cell_at, defBody s__law_cell_at, defScope s__law_cell_at, [], []⟩
def d__law_draw : He.DefD := ⟨("_law_draw", none), "_law_draw", "_law_draw", defArgs s__law_draw, defBody s__law_draw, defScope s__law_draw, [], []⟩
def d__law_things : He.DefD := ⟨("_law_things", none), "_law_things", "_law_things", defArgs s__law_things, defBody s__law_things, defScope s__law_things, [], []⟩
def d_number_in : He.DefD := ⟨("number_in", none), "number_in", "number_in", defArgs s_number_in, defBody s_number_in, defScope s_number_in, [], []⟩
def d_read : He.DefD := ⟨("read", none), "read", "read", defArgs s_read, defBody s_read, defScope s_read, [], []⟩
def d_written : He.DefD := ⟨("written", none), "written", "written", defArgs s_written, defBody s_written, defScope s_written, [], []⟩
def d__law_number : He.DefD := ⟨("_law_number", none), "_law_number", "_law_number", defArgs s__law_number, defBody s__law_number, defScope s__law_number, [], []⟩
def d__law_refused : He.DefD := ⟨("_law_refused", none), "_law_refused", "_law_refused", defArgs s__law_refused, defBody s__law_refused, defScope s__law_refused, [], []⟩
def d__law_in : He.DefD := ⟨("_law_in", none), "_law_in", "_law_in", defArgs s__law_in, defBody s__law_in, defScope s__law_in, [], []⟩
def d__law_right : He.DefD := ⟨("_law_right", none), "_law_right", "_law_right", defArgs s__law_right, defBody s__law_right, defScope s__law_right, [], []⟩
def d__law_few : He.DefD := ⟨("_law_few", none), "_law_few", "_law_few", defArgs s__law_few, defBody s__law_few, defScope s__law_few, [], []⟩
def d_law : He.DefD := ⟨("law", none), "law", "law", defArgs s_law, defBody s_law, defScope s_law, [], []⟩
def fnL : List He.DefD := [d_is_whole, d_is_triple, d_check_things, d__law_cell_at, d__law_draw, d__law_things, d_number_in, d_read, d_written, d__law_number, d__law_refused, d__law_in, d__law_right, d__law_few, d_law]
def faL : List He.Fa := [.glo "is_whole", .glo "is_triple", .glo "check_things", .glo "_law_cell_at", .glo "_law_draw", .glo "_law_things", .glo "number_in", .glo "read", .glo "written", .glo "_law_number", .glo "_law_refused", .glo "_law_in", .glo "_law_right", .glo "_law_few", .glo "law", .free "isinstance", .free "int", .free "bool", .free "list", .free "tuple", .free "str", .free "len", .free "all", .free "any", .free "sum", .free "max", .free "sorted", .free "range", .free "enumerate", .free "zip", .free "set", .free "ValueError", .str "FIGURES" "0123456789", .int "MOST" (10 ^ 60), .glo "BenchError", .glo "BadOrder", .glo "BadThings", .glo "BadTime", .glo "BadText", .exc "BadText", .exm "BadText" "BenchError" true]
abbrev exL : PySem.W.Frag → Bool := fun K => exB [] [("BadText", "BadOrder", false), ("BadText", "BadThings", false), ("BadText", "BadTime", false), ("BadText", "BadText", true)] K && (excB K (He.ga K "BadText") && decide (PySem.W.kitOne K (.ref (He.ga K "BadText")) (.type "ValueError") = some true))
abbrev Rw : PySem.W.OpenRow := PySem.W.OpenLaw.row PySem.Challenge.rw_benchpair_k05_written
abbrev hkL : PySem.W.Hook := hookX 5 faL fnL exL
def obL (s : PySem.W.SharedT) : He.AlD × Bool := obsX 5 faL fnL exL (HandSHeadRun.getT s)
theorem obL_eq (s : PySem.W.SharedT) : obL s = hkL.obs s.abs := obsX_eq (HandSHeadRun.getT_eq s)
def looseL : List Str := ["BenchError", "BadThings", "BadOrder", "BadTime", "BadText", "is_whole", "is_triple", "check_things", "written", "number_in", "read", "_law_cell_at", "_law_draw", "_law_things", "_law_done", "_law_order", "_law_worth", "_law_whole", "_law_number", "_law_in", "_law_refused", "_law_right", "_law_few", "FIGURES", "MOST"]
theorem runL (w : World) : HandSHeadRun.RunEq Rw (PySem.W.view Rw.prog [29]) hkL obL 4000 looseL w := by
  intro os
  kernel_rfl
theorem factsL {P : Program} {w : World} {K : PySem.W.Frag} {h : Heap} {mg : Str → Option Value} {f : Addr} (X : K.In h) (G : h.Ns mainGlobals mg) (hfa : mg ("law" : Str) = some (.ref f)) (c : SaysX faL fnL exL K) :
    ∃ fd : FuncData, (∀ (s : Shared) (v : Value), BindsTo s fd ⟨[v], []⟩ [("_law_script", v)]) ∧ ∀ base : Heap, K.In base → base.Ns mainGlobals mg → FnOk P w K mg base CX0 6 f fd ["_law_script"] (sp_law K) := by
  obtain ⟨fd_is_whole, F_is_whole⟩ := c.1.def_ 0 (d := d_is_whole) rfl
  obtain ⟨fd_is_triple, F_is_triple⟩ := c.1.def_ 1 (d := d_is_triple) rfl
  obtain ⟨fd_check_things, F_check_things⟩ := c.1.def_ 2 (d := d_check_things) rfl
  obtain ⟨fd__law_cell_at, F__law_cell_at⟩ := c.1.def_ 3 (d := d__law_cell_at) rfl
  obtain ⟨fd__law_draw, F__law_draw⟩ := c.1.def_ 4 (d := d__law_draw) rfl
  obtain ⟨fd__law_things, F__law_things⟩ := c.1.def_ 5 (d := d__law_things) rfl
  obtain ⟨fd_number_in, F_number_in⟩ := c.1.def_ 6 (d := d_number_in) rfl
  obtain ⟨fd_read, F_read⟩ := c.1.def_ 7 (d := d_read) rfl
  obtain ⟨fd_written, F_written⟩ := c.1.def_ 8 (d := d_written) rfl
  obtain ⟨fd__law_number, F__law_number⟩ := c.1.def_ 9 (d := d__law_number) rfl
  obtain ⟨fd__law_refused, F__law_refused⟩ := c.1.def_ 10 (d := d__law_refused) rfl
  obtain ⟨fd__law_in, F__law_in⟩ := c.1.def_ 11 (d := d__law_in) rfl
  obtain ⟨fd__law_right, F__law_right⟩ := c.1.def_ 12 (d := d__law_right) rfl
  obtain ⟨fd__law_few, F__law_few⟩ := c.1.def_ 13 (d := d__law_few) rfl
  obtain ⟨fd_law, F_law⟩ := c.1.def_ 14 (d := d_law) rfl
  have B : Blt mg := ⟨He.free_ok X G (c.1.fact 15 (f := .free "isinstance") rfl), He.free_ok X G (c.1.fact 16 (f := .free "int") rfl), He.free_ok X G (c.1.fact 17 (f := .free "bool") rfl), He.free_ok X G (c.1.fact 18 (f := .free "list") rfl), He.free_ok X G (c.1.fact 19 (f := .free "tuple") rfl), He.free_ok X G (c.1.fact 20 (f := .free "str") rfl), He.free_ok X G (c.1.fact 21 (f := .free "len") rfl), He.free_ok X G (c.1.fact 22 (f := .free "all") rfl), He.free_ok X G (c.1.fact 23 (f := .free "any") rfl), He.free_ok X G (c.1.fact 24 (f := .free "sum") rfl), He.free_ok X G (c.1.fact 25 (f := .free "max") rfl), He.free_ok X G (c.1.fact 26 (f := .free "sorted") rfl), He.free_ok X G (c.1.fact 27 (f := .free "range") rfl), He.free_ok X G (c.1.fact 28 (f := .free "enumerate") rfl), He.free_ok X G (c.1.fact 29 (f := .free "zip") rfl), He.free_ok X G (c.1.fact 30 (f := .free "set") rfl), He.free_ok X G (c.1.fact 31 (f := .free "ValueError") rfl)⟩
  have e := hfa.symm.trans (He.glo_ok X G (c.1.fact 14 (f := .glo "law") rfl))
  cases e
  have b := FunD.bindsA (ps := ["_law_script"]) F_law fun _ _ _ _ _ _ us hl => match us, hl with | [_], _ => rfl
  have X_FIG : ∃ t, mg "FIGURES" = some (.str (SX.S figs) t) := He.str_ok X G (c.1.fact 32 (f := .str "FIGURES" "0123456789") rfl)
  have X_MOST := He.int_ok X G (c.1.fact 33 (f := .int "MOST" (10 ^ 60)) rfl)
  have g_BenchError := He.glo_ok X G (c.1.fact 34 (f := .glo "BenchError") rfl)
  have g_BadOrder := He.glo_ok X G (c.1.fact 35 (f := .glo "BadOrder") rfl)
  have g_BadThings := He.glo_ok X G (c.1.fact 36 (f := .glo "BadThings") rfl)
  have g_BadTime := He.glo_ok X G (c.1.fact 37 (f := .glo "BadTime") rfl)
  have g_BadText := He.glo_ok X G (c.1.fact 38 (f := .glo "BadText") rfl)
  have e1 := He.exc_ok (c.1.fact 39 (f := .exc "BadText") rfl)
  have X_BadText : Err K mg "BadText" (He.ga K "BadText") := ⟨g_BadText, e1.1, e1.2.1, e1.2.2.1, e1.2.2.2⟩
  have e2 := Bool.and_eq_true_iff.mp c.2
  have e3 := Bool.and_eq_true_iff.mp e2.2
  have X_E : ErrA K mg (He.ga K "BenchError") (He.ga K "BadOrder") (He.ga K "BadThings") (He.ga K "BadTime") (He.ga K "BadText") := ⟨g_BenchError, g_BadOrder, g_BadThings, g_BadTime, g_BadText, excB_ok e3.1, He.exm_ok (c.1.fact 40 (f := .exm "BadText" "BenchError" true) rfl), exB_kit e2.1 0 rfl, exB_kit e2.1 1 rfl, exB_kit e2.1 2 rfl, exB_kit e2.1 3 rfl, of_decide_eq_true e3.2⟩
  refine ⟨fd_law, fun s v => b s [v] rfl, fun base _ _ => ?_⟩
  have D_is_whole : Def K mg "is_whole" s_is_whole ["thing"] := ⟨_, fd_is_whole, F_is_whole, He.glo_ok X G (c.1.fact 0 (f := .glo "is_whole") rfl), F_is_whole.bindsN fun _ _ _ _ _ _ us hl => match us, hl with | [_], _ => rfl⟩
  have c_is_whole := ok_is_whole (P := P) (w := w) (base := base) B D_is_whole
  have D_is_triple : Def K mg "is_triple" s_is_triple ["thing"] := ⟨_, fd_is_triple, F_is_triple, He.glo_ok X G (c.1.fact 1 (f := .glo "is_triple") rfl), F_is_triple.bindsN fun _ _ _ _ _ _ us hl => match us, hl with | [_], _ => rfl⟩
  have c_is_triple := ok_is_triple (P := P) (w := w) (base := base) B c_is_whole D_is_triple
  have D_check_things : Def K mg "check_things" s_check_things ["things"] := ⟨_, fd_check_things, F_check_things, He.glo_ok X G (c.1.fact 2 (f := .glo "check_things") rfl), F_check_things.bindsN fun _ _ _ _ _ _ us hl => match us, hl with | [_], _ => rfl⟩
  have c_check_things := ok_check_things (P := P) (w := w) (base := base) B c_is_triple D_check_things
  have D__law_cell_at : Def K mg "_law_cell_at" s__law_cell_at ["_law_script", "_law_k"] := ⟨_, fd__law_cell_at, F__law_cell_at, He.glo_ok X G (c.1.fact 3 (f := .glo "_law_cell_at") rfl), F__law_cell_at.bindsN fun _ _ _ _ _ _ us hl => match us, hl with | [_, _], _ => rfl⟩
  have c__law_cell_at := ok__law_cell_at (P := P) (w := w) (base := base) B D__law_cell_at
  have D__law_draw : Def K mg "_law_draw" s__law_draw ["_law_cell", "_law_k", "_law_many"] := ⟨_, fd__law_draw, F__law_draw, He.glo_ok X G (c.1.fact 4 (f := .glo "_law_draw") rfl), F__law_draw.bindsN fun _ _ _ _ _ _ us hl => match us, hl with | [_, _, _], _ => rfl⟩
  have c__law_draw := ok__law_draw (P := P) (w := w) (base := base) B D__law_draw
  have D__law_things : Def K mg "_law_things" s__law_things ["_law_script"] := ⟨_, fd__law_things, F__law_things, He.glo_ok X G (c.1.fact 5 (f := .glo "_law_things") rfl), F__law_things.bindsN fun _ _ _ _ _ _ us hl => match us, hl with | [_], _ => rfl⟩
  have c__law_things := ok__law_things (P := P) (w := w) (base := base) B c__law_cell_at c__law_draw D__law_things
  have D_number_in : Def K mg "number_in" s_number_in ["word"] := ⟨_, fd_number_in, F_number_in, He.glo_ok X G (c.1.fact 6 (f := .glo "number_in") rfl), F_number_in.bindsN fun _ _ _ _ _ _ us hl => match us, hl with | [_], _ => rfl⟩
  have c_number_in := ok_number_in (P := P) (ww := w) (base := base) B X_FIG X_BadText D_number_in
  have D_read : Def K mg "read" s_read ["text"] := ⟨_, fd_read, F_read, He.glo_ok X G (c.1.fact 7 (f := .glo "read") rfl), F_read.bindsN fun _ _ _ _ _ _ us hl => match us, hl with | [_], _ => rfl⟩
  have c_read := ok_read (P := P) (ww := w) (base := base) B X_BadText c_number_in D_read
  have D_written : Def K mg "written" s_written ["things"] := ⟨_, fd_written, F_written, He.glo_ok X G (c.1.fact 8 (f := .glo "written") rfl), F_written.bindsN fun _ _ _ _ _ _ us hl => match us, hl with | [_], _ => rfl⟩
  have c_written := ok_written (P := P) (ww := w) (base := base) B X_MOST c_check_things D_written
  have D__law_number : Def K mg "_law_number" s__law_number ["_law_text"] := ⟨_, fd__law_number, F__law_number, He.glo_ok X G (c.1.fact 9 (f := .glo "_law_number") rfl), F__law_number.bindsN fun _ _ _ _ _ _ us hl => match us, hl with | [_], _ => rfl⟩
  have c__law_number := ok__law_number (P := P) (ww := w) (base := base) B D__law_number
  have D__law_refused : Def K mg "_law_refused" s__law_refused ["_law_text"] := ⟨_, fd__law_refused, F__law_refused, He.glo_ok X G (c.1.fact 10 (f := .glo "_law_refused") rfl), F__law_refused.bindsN fun _ _ _ _ _ _ us hl => match us, hl with | [_], _ => rfl⟩
  have c__law_refused := ok__law_refused (P := P) (ww := w) (base := base) B X_E c_read D__law_refused
  have D__law_in : Def K mg "_law_in" s__law_in ["_law_text"] := ⟨_, fd__law_in, F__law_in, He.glo_ok X G (c.1.fact 11 (f := .glo "_law_in") rfl), F__law_in.bindsN fun _ _ _ _ _ _ us hl => match us, hl with | [_], _ => rfl⟩
  have c__law_in := ok__law_in (P := P) (ww := w) (base := base) B c__law_number D__law_in
  have D__law_right : Def K mg "_law_right" s__law_right ["_law_text"] := ⟨_, fd__law_right, F__law_right, He.glo_ok X G (c.1.fact 12 (f := .glo "_law_right") rfl), F__law_right.bindsN fun _ _ _ _ _ _ us hl => match us, hl with | [_], _ => rfl⟩
  have c__law_right := ok__law_right (P := P) (ww := w) (base := base) B c__law_in c__law_refused c_read c_written D__law_right
  have D__law_few : Def K mg "_law_few" s__law_few [] := ⟨_, fd__law_few, F__law_few, He.glo_ok X G (c.1.fact 13 (f := .glo "_law_few") rfl), F__law_few.bindsN fun _ _ _ _ _ _ us hl => match us, hl with | [], _ => rfl⟩
  have c__law_few := ok__law_few (P := P) (ww := w) (base := base) B D__law_few
  exact ok_law (P := P) (ww := w) (base := base) B c__law_cell_at c__law_draw c__law_things c_written c__law_right c__law_few c__law_refused F_law
end Bp
open PySem PySem.W PySem.Calls PyProof.Rows
theorem PySem.Challenge.cw_benchpair_k05_written_holds : PySem.Challenge.rw_benchpair_k05_written.Holds := by
  w_on; o_law
  refine HandSHeadRun.head_any (r := OpenLaw.row PySem.Challenge.rw_benchpair_k05_written) (q := view (OpenLaw.row PySem.Challenge.rw_benchpair_k05_written).prog [29]) (H := Bp.hkL) (ob := Bp.obL) (M := 4000) (loose := Bp.looseL) (d := HandSHeadRun.topDef (OpenLaw.row PySem.Challenge.rw_benchpair_k05_written).prog 29) (kwd := []) Bp.obL_eq
    (by kernel_rfl) (fun s => by kernel_rfl) Bp.runL (by kernel_rfl) (by kernel_rfl) (by kernel_rfl) (by rfl) (by first | assumption | decide +kernel) (by decide +kernel) ⟨rfl, rfl, rfl, rfl, rfl, by decide +kernel⟩ ?hw ?hc
  case hw => w_witness2
  case hc =>
    refine L2.walk_ofE (l := PySem.Challenge.rw_benchpair_k05_written) (n := 63) (k := 6) (x := "_law_script") (CX := L2.CX0) rfl (by decide) (by kernel_rfl) ⟨rfl, by decide, by decide⟩ ?F (fun _ _ _ _ z => z)
    intro w mg fa h Y G hmg0
    obtain ⟨K, KX, c⟩ := Y
    have hmg : mg ("law" : PySem.Str) = some (.ref fa) := by
      have e : (HandSHeadRun.topDef (OpenLaw.row PySem.Challenge.rw_benchpair_k05_written).prog 29).name = ("law" : PySem.Str) := by kernel_rfl
      rw [← e]
      exact hmg0
    obtain ⟨fd, hb, hF⟩ := Bp.factsL (P := (PySem.Challenge.rw_benchpair_k05_written).prog) (w := w) KX G hmg c
    exact ⟨K, fd, Bp.sp_law K, KX, hb, fun H a ns hl _ hS => ⟨a, ns, rfl, hS, hl, fun _ => rfl⟩, hF⟩
