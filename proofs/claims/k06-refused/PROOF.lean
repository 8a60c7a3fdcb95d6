import PyProof.Rows.All
import Wide.All
import OpenK.AllK
import Wide.FinOn
import PyProof.EqAt
import PyProof.EqKinds
import PyProof.TupleCall
import KE.KStateDown
import HandS.ForMost
import HandS.Exc
import HandS.TryOnly
import HandS.ExcOwn
import HandS.WordsExc
import HandS.IsInst
import HandS.Sort
import HandS.SortRule
import HandS.SortInts
import HandS.Conv
import HandS.Style
import HandS.Zip
import HandS.Wide
import HandS.More
import HandS.Defaults
import HandS.Codes
import HandS.Head0
import HandS.Head1
import HandS.Head2
import HandS.HeadEnd
import HandS.HeadHook1
import HandS.HeadHook2
import HandS.Set
import HandS.SetFor
import HandS.Strs
import HandS.StrMore
import HandS.Hot
import HandS.HotCalls
import HandS.ExcCtx
import HandS.ExcIs
import KE.IntTextText
import KE.KIntText
import PySem.Challenge.RW_benchpair_k06_refused
set_option Elab.async false
set_option linter.all false
set_option maxRecDepth 100000
set_option maxHeartbeats 8000000
/-! Benchpair: the plain mathematics of an order (no program in sight). -/
namespace Bp
/-- a thing: bench 1, drying, bench 2 -/
abbrev T3 := Int × Int × Int
def Nn (t : T3) : Prop := 0 ≤ t.1 ∧ 0 ≤ t.2.1 ∧ 0 ≤ t.2.2
def sa : List T3 → Int
  | [] => 0
  | t :: r => t.1 + sa r
def sb : List T3 → Int
  | [] => 0
  | t :: r => t.2.2 + sb r
/-- the greater one, as Python's max tells it -/
def gr (i j : Int) : Int := if j > i then j else i
theorem gr_le {i j x : Int} : gr i j ≤ x ↔ i ≤ x ∧ j ≤ x := by
  unfold gr; split <;> omega
theorem le_gr1 (i j : Int) : i ≤ gr i j := by unfold gr; split <;> omega
theorem le_gr2 (i j : Int) : j ≤ gr i j := by unfold gr; split <;> omega
/-- when bench 2 is free at the end, from f and s on -/
def endOf (f s : Int) : List T3 → Int
  | [] => s
  | t :: r => endOf (f + t.1) (gr s (f + t.1 + t.2.1) + t.2.2) r
/-- when each begins on either bench -/
def runP (f s : Int) : List T3 → List (Int × Int)
  | [] => []
  | t :: r => (f, gr s (f + t.1 + t.2.1)) :: runP (f + t.1) (gr s (f + t.1 + t.2.1) + t.2.2) r
/-- the longest way, as it is looked for from the left -/
def mx (f : Int) : List T3 → Int → Int
  | [], m => m
  | t :: r, m => mx (f + t.1) r (gr m (f + t.1 + t.2.1 + (t.2.2 + sb r)))
/-- the way that changes benches at t -/
def pth (p : List T3) (t : T3) (r : List T3) : Int := sa p + t.1 + t.2.1 + (t.2.2 + sb r)
theorem sa_app : ∀ p q : List T3, sa (p ++ q) = sa p + sa q
  | [], q => by simp [sa]
  | t :: p, q => by rw [List.cons_append, sa, sa, sa_app p q]; omega
theorem sb_app : ∀ p q : List T3, sb (p ++ q) = sb p + sb q
  | [], q => by simp [sb]
  | t :: p, q => by rw [List.cons_append, sb, sb, sb_app p q]; omega
theorem sa_nn : ∀ {l : List T3}, (∀ t ∈ l, Nn t) → 0 ≤ sa l
  | [], _ => Int.le_refl 0
  | t :: r, h => by
    have h1 := (h t List.mem_cons_self).1
    have h2 := sa_nn fun u hu => h u (List.mem_cons_of_mem t hu)
    rw [sa]; omega
theorem sb_nn : ∀ {l : List T3}, (∀ t ∈ l, Nn t) → 0 ≤ sb l
  | [], _ => Int.le_refl 0
  | t :: r, h => by
    have h1 := (h t List.mem_cons_self).2.2
    have h2 := sb_nn fun u hu => h u (List.mem_cons_of_mem t hu)
    rw [sb]; omega
theorem runP_len : ∀ (f s : Int) (l : List T3), (runP f s l).length = l.length
  | _, _, [] => rfl
  | f, s, t :: r => by rw [runP, List.length_cons, List.length_cons, runP_len]
theorem endOf_mx : ∀ (l : List T3) (f s : Int), endOf f s l = mx f l (s + sb l)
  | [], f, s => by simp [endOf, mx, sb]
  | t :: r, f, s => by
    rw [endOf, mx, sb, endOf_mx r]
    congr 1
    unfold gr
    split <;> split <;> omega
theorem mx_le : ∀ (l : List T3) (f m x : Int), mx f l m ≤ x ↔ m ≤ x ∧ ∀ p t r, l = p ++ t :: r → f + pth p t r ≤ x
  | [], f, m, x => by
    rw [mx]
    refine ⟨fun h => ⟨h, fun p t r e => ?_⟩, fun h => h.1⟩
    cases p <;> cases e
  | u :: l, f, m, x => by
    rw [mx, mx_le l, gr_le]
    constructor
    · rintro ⟨⟨h1, h2⟩, h3⟩
      refine ⟨h1, fun p t r e => ?_⟩
      cases p with
      | nil =>
        rw [List.nil_append] at e
        injection e with e1 e2
        subst e1 e2
        simp only [pth, sa]
        omega
      | cons v p =>
        rw [List.cons_append] at e
        injection e with e1 e2
        subst e1
        have h4 := h3 p t r e2
        simp only [pth, sa] at h4 ⊢
        omega
    · rintro ⟨h1, h2⟩
      refine ⟨⟨h1, ?_⟩, fun p t r e => ?_⟩
      · have h3 := h2 [] u l rfl
        simp only [pth, sa] at h3
        omega
      · have h3 := h2 (u :: p) t r (by rw [e, List.cons_append])
        simp only [pth, sa] at h3 ⊢
        omega
/-- when all is done -/
def dn (l : List T3) : Int := endOf 0 0 l
/-- the same, by the ways through -/
def ld (l : List T3) : Int := mx 0 l 0
theorem ld_le {l : List T3} {x : Int} : ld l ≤ x ↔ 0 ≤ x ∧ ∀ p t r, l = p ++ t :: r → pth p t r ≤ x := by
  unfold ld
  rw [mx_le]
  constructor
  · rintro ⟨h1, h2⟩
    exact ⟨h1, fun p t r e => by have := h2 p t r e; omega⟩
  · rintro ⟨h1, h2⟩
    exact ⟨h1, fun p t r e => by have := h2 p t r e; omega⟩
theorem dn_le {l : List T3} (h : ∀ t ∈ l, Nn t) {x : Int} : dn l ≤ x ↔ 0 ≤ x ∧ ∀ p t r, l = p ++ t :: r → pth p t r ≤ x := by
  unfold dn
  rw [endOf_mx, mx_le]
  constructor
  · rintro ⟨h1, h2⟩
    have := sb_nn h
    exact ⟨by omega, fun p t r e => by have := h2 p t r e; omega⟩
  · rintro ⟨h1, h2⟩
    refine ⟨?_, fun p t r e => by have := h2 p t r e; omega⟩
    cases l with
    | nil => simp only [sb]; omega
    | cons t r =>
      have h3 := h2 [] t r rfl
      have h4 := h t List.mem_cons_self
      simp only [pth, sa, sb] at h3 ⊢
      have := h4.1
      have := h4.2.1
      omega
theorem le_anti {a b : Int} (h : ∀ x, a ≤ x ↔ b ≤ x) : a = b := by
  have h1 := (h b).mpr (Int.le_refl b)
  have h2 := (h a).mp (Int.le_refl a)
  omega
theorem dn_ld {l : List T3} (h : ∀ t ∈ l, Nn t) : dn l = ld l := le_anti fun _ => (dn_le h).trans ld_le.symm
theorem ld_nn (l : List T3) : 0 ≤ ld l := (ld_le.mp (Int.le_refl (ld l))).1
theorem pth_le_ld {l p r : List T3} {t : T3} (e : l = p ++ t :: r) : pth p t r ≤ ld l := (ld_le.mp (Int.le_refl (ld l))).2 p t r e
/-! ### benches exchanged -/
def tn (t : T3) : T3 := (t.2.2, t.2.1, t.1)
theorem tn_tn (t : T3) : tn (tn t) = t := rfl
theorem tn_nn {t : T3} (h : Nn t) : Nn (tn t) := ⟨h.2.2, h.2.1, h.1⟩
theorem tn_map (l : List T3) : (l.map tn).map tn = l := by
  rw [List.map_map]
  exact List.map_id'' (fun t => tn_tn t) l
theorem sa_tn : ∀ l : List T3, sa (l.map tn) = sb l
  | [] => rfl
  | t :: r => by rw [List.map_cons, sa, sb, sa_tn r]; rfl
theorem sb_tn : ∀ l : List T3, sb (l.map tn) = sa l
  | [] => rfl
  | t :: r => by rw [List.map_cons, sa, sb, sb_tn r]; rfl
theorem sa_rev : ∀ l : List T3, sa l.reverse = sa l
  | [] => rfl
  | t :: r => by rw [List.reverse_cons, sa_app, sa_rev r, sa, sa, sa]; omega
theorem sb_rev : ∀ l : List T3, sb l.reverse = sb l
  | [] => rfl
  | t :: r => by rw [List.reverse_cons, sb_app, sb_rev r, sb, sb, sb]; omega
theorem pth_rev (p : List T3) (t : T3) (r : List T3) : pth (r.map tn).reverse (tn t) (p.map tn).reverse = pth p t r := by
  unfold pth
  rw [sa_rev, sb_rev, sa_tn, sb_tn]
  simp only [tn]
  omega
theorem split_rev {l p r : List T3} {t : T3} (e : l = p ++ t :: r) : (l.map tn).reverse = (r.map tn).reverse ++ tn t :: (p.map tn).reverse := by
  rw [e, List.map_append, List.map_cons, List.reverse_append, List.reverse_cons, List.append_assoc] <;> rfl
theorem ld_rev (l : List T3) : ld (l.map tn).reverse = ld l := by
  refine le_anti fun x => ?_
  rw [ld_le, ld_le]
  constructor
  · rintro ⟨h1, h2⟩
    exact ⟨h1, fun p t r e => by have := h2 _ _ _ (split_rev e); rw [pth_rev] at this; exact this⟩
  · rintro ⟨h1, h2⟩
    refine ⟨h1, fun p t r e => ?_⟩
    have e2 : l = (r.map tn).reverse ++ tn t :: (p.map tn).reverse := by
      have e3 := split_rev e
      rw [List.map_reverse, tn_map, List.reverse_reverse] at e3
      exact e3
    have := h2 _ _ _ e2
    rw [pth_rev] at this
    exact this
theorem nn_turn {l : List T3} (h : ∀ t ∈ l, Nn t) : ∀ t ∈ (l.map tn).reverse, Nn t := fun t ht => by
  rw [List.mem_reverse, List.mem_map] at ht
  obtain ⟨u, hu, rfl⟩ := ht
  exact tn_nn (h u hu)
theorem dn_rev {l : List T3} (h : ∀ t ∈ l, Nn t) : dn (l.map tn).reverse = dn l := by
  rw [dn_ld h, dn_ld (nn_turn h), ld_rev]
/-! ### a thing less -/
theorem sa_sub {p q : List T3} (h : p.Sublist q) (hq : ∀ t ∈ q, Nn t) : sa p ≤ sa q := by
  induction h with
  | slnil => exact Int.le_refl 0
  | cons t _ ih =>
    have := ih fun u hu => hq u (List.mem_cons_of_mem t hu)
    have := (hq t List.mem_cons_self).1
    rw [sa]; omega
  | cons_cons t _ ih =>
    have := ih fun u hu => hq u (List.mem_cons_of_mem t hu)
    rw [sa, sa]; omega
theorem sb_sub {p q : List T3} (h : p.Sublist q) (hq : ∀ t ∈ q, Nn t) : sb p ≤ sb q := by
  induction h with
  | slnil => exact Int.le_refl 0
  | cons t _ ih =>
    have := ih fun u hu => hq u (List.mem_cons_of_mem t hu)
    have := (hq t List.mem_cons_self).2.2
    rw [sb]; omega
  | cons_cons t _ ih =>
    have := ih fun u hu => hq u (List.mem_cons_of_mem t hu)
    rw [sb, sb]; omega
theorem ld_sub {l m : List T3} (h : l.Sublist m) (hm : ∀ t ∈ m, Nn t) : ld l ≤ ld m := by
  rw [ld_le]
  refine ⟨ld_nn m, fun p t r e => ?_⟩
  subst e
  obtain ⟨m1, m2, e1, h1, h2⟩ := List.append_sublist_iff.mp h
  obtain ⟨m3, m4, e2, h3, h4⟩ := List.cons_sublist_iff.mp h2
  obtain ⟨m5, m6, e3⟩ := List.append_of_mem h3
  subst e1 e2 e3
  have q : m1 ++ (m5 ++ t :: m6 ++ m4) = (m1 ++ m5) ++ t :: (m6 ++ m4) := by simp
  have w := pth_le_ld q
  have a1 := sa_sub h1 fun u hu => hm u (List.mem_append_left _ hu)
  have a2 : 0 ≤ sa m5 := sa_nn fun u hu => hm u (by simp [hu])
  have b1 := sb_sub h4 fun u hu => hm u (by simp [hu])
  have b2 : 0 ≤ sb m6 := sb_nn fun u hu => hm u (by simp [hu])
  unfold pth at w ⊢
  rw [sa_app, sb_app] at w
  omega
end Bp
/-! Benchpair: orders as lists of counts. -/
namespace Bp
/-- the things in an order -/
def sq (ts : List T3) (os : List Nat) : List T3 := os.map fun k => ts.getD k (0, 0, 0)
/-- 0, 1, .. as whole numbers -/
def zs (os : List Nat) : List Int := os.map fun k : Nat => (k : Int)
def rg (n : Nat) : List Int := zs (List.range n)
theorem zs_len (os : List Nat) : (zs os).length = os.length := List.length_map ..
theorem sq_len (ts : List T3) (os : List Nat) : (sq ts os).length = os.length := List.length_map ..
theorem sq_app (ts : List T3) (p q : List Nat) : sq ts (p ++ q) = sq ts p ++ sq ts q := List.map_append ..
theorem getD_at {ts : List T3} {k : Nat} (h : k < ts.length) : ts[k]? = some (ts.getD k (0, 0, 0)) := by
  rw [List.getD_eq_getElem?_getD, List.getElem?_eq_getElem h]; rfl
theorem sq_nn {ts : List T3} {os : List Nat} (h : ∀ t ∈ ts, Nn t) (ho : ∀ k ∈ os, k < ts.length) : ∀ t ∈ sq ts os, Nn t := fun t ht => by
  obtain ⟨k, hk, rfl⟩ := List.mem_map.mp ht
  exact h _ (List.mem_of_getElem? (getD_at (ho k hk)))
theorem perm_lt {os : List Nat} {n : Nat} (h : os.Perm (List.range n)) : ∀ k ∈ os, k < n := fun k hk => List.mem_range.mp (h.mem_iff.mp hk)
theorem perm_len {os : List Nat} {n : Nat} (h : os.Perm (List.range n)) : os.length = n := by rw [h.length_eq, List.length_range]
theorem perm_nd {os : List Nat} {n : Nat} (h : os.Perm (List.range n)) : os.Nodup := h.nodup_iff.mpr List.nodup_range
theorem sq_tn (ts : List T3) (os : List Nat) : sq (ts.map tn) os = (sq ts os).map tn := by
  unfold sq
  rw [List.map_map]
  refine List.map_congr_left fun k _ => ?_
  show (ts.map tn).getD k (0, 0, 0) = tn (ts.getD k (0, 0, 0))
  rw [List.getD_eq_getElem?_getD, List.getD_eq_getElem?_getD, List.getElem?_map]
  cases ts[k]? <;> rfl
theorem sq_rev (ts : List T3) (os : List Nat) : sq (ts.map tn) os.reverse = ((sq ts os).map tn).reverse := by
  rw [sq_tn]; unfold sq; rw [List.map_reverse, List.map_reverse]
/-- benches exchanged, the order turned about: done as soon -/
theorem dn_turned {ts : List T3} {os : List Nat} (h : ∀ t ∈ ts, Nn t) (ho : ∀ k ∈ os, k < ts.length) : dn (sq (ts.map tn) os.reverse) = dn (sq ts os) := by
  rw [sq_rev]; exact dn_rev (sq_nn h ho)
/-! ### a thing left out -/
def dropAt (out : Nat) (os : List Nat) : List Nat := (os.filter fun k => decide (k ≠ out)).map fun k => if out < k then k - 1 else k
theorem range_drop {n out : Nat} (h : out < n) : dropAt out (List.range n) = List.range (n - 1) := by
  have e : List.range n = List.range out ++ [out] ++ (List.range (n - out - 1)).map (fun k => out + 1 + k) := by
    have h1 := List.range_add (n := out + 1) (m := n - out - 1)
    rw [show out + 1 + (n - out - 1) = n by omega, List.range_succ] at h1
    exact h1
  have e2 : List.range (n - 1) = List.range out ++ (List.range (n - out - 1)).map (fun k => out + k) := by
    have h1 := List.range_add (n := out) (m := n - out - 1)
    rw [show out + (n - out - 1) = n - 1 by omega] at h1
    exact h1
  unfold dropAt
  rw [e, e2, List.filter_append, List.filter_append, List.map_append, List.map_append]
  have f1 : (List.range out).filter (fun k => decide (k ≠ out)) = List.range out := List.filter_eq_self.mpr fun k hk => by
    have := List.mem_range.mp hk
    exact decide_eq_true (by omega)
  have f2 : [out].filter (fun k => decide (k ≠ out)) = [] := by simp
  have f3 : ((List.range (n - out - 1)).map (fun k => out + 1 + k)).filter (fun k => decide (k ≠ out)) = (List.range (n - out - 1)).map (fun k => out + 1 + k) := List.filter_eq_self.mpr fun k hk => by
    obtain ⟨j, _, rfl⟩ := List.mem_map.mp hk
    exact decide_eq_true (by omega)
  rw [f1, f2, f3, List.map_nil, List.append_nil, List.map_map]
  congr 1
  · refine (List.map_congr_left (g := id) fun k hk => ?_).trans (List.map_id _)
    have := List.mem_range.mp hk
    exact if_neg (by omega)
  · refine List.map_congr_left fun k _ => ?_
    show (if out < out + 1 + k then out + 1 + k - 1 else out + 1 + k) = out + k
    rw [if_pos (by omega)]; omega
theorem dropAt_perm {os : List Nat} {n out : Nat} (h : os.Perm (List.range n)) (ho : out < n) : (dropAt out os).Perm (List.range (n - 1)) := by
  rw [← range_drop ho]
  exact (h.filter _).map _
theorem sq_drop {ts : List T3} {os : List Nat} {out : Nat} (ho : ∀ k ∈ os, k < ts.length) : sq (ts.take out ++ ts.drop (out + 1)) (dropAt out os) = sq ts (os.filter fun k => decide (k ≠ out)) := by
  unfold sq dropAt
  rw [List.map_map]
  refine List.map_congr_left fun k hk => ?_
  obtain ⟨h1, h2⟩ := List.mem_filter.mp hk
  have h3 : k ≠ out := of_decide_eq_true h2
  show (ts.take out ++ ts.drop (out + 1)).getD (if out < k then k - 1 else k) (0, 0, 0) = ts.getD k (0, 0, 0)
  rw [← List.eraseIdx_eq_take_drop_succ, List.getD_eq_getElem?_getD, List.getD_eq_getElem?_getD, List.getElem?_eraseIdx]
  by_cases c : out < k
  · rw [if_pos c, if_neg (by omega), show k - 1 + 1 = k by omega]
  · rw [if_neg c, if_pos (by omega)]
theorem dn_less {ts : List T3} {os : List Nat} {out : Nat} (h : ∀ t ∈ ts, Nn t) (ho : ∀ k ∈ os, k < ts.length) : dn (sq (ts.take out ++ ts.drop (out + 1)) (dropAt out os)) ≤ dn (sq ts os) := by
  have hs : (sq ts (os.filter fun k => decide (k ≠ out))).Sublist (sq ts os) := List.filter_sublist.map _
  rw [sq_drop ho, dn_ld (sq_nn h fun k hk => ho k (List.mem_filter.mp hk).1), dn_ld (sq_nn h ho)]
  exact ld_sub hs (sq_nn h ho)
/-! ### sorted -/
theorem rg_sorted (n : Nat) : (rg n).Pairwise (· ≤ ·) := by
  unfold rg zs
  rw [List.pairwise_map]
  exact List.pairwise_lt_range.imp fun h => by omega
theorem sorted_uniq {a b : List Int} (h : a.Perm b) (ha : a.Pairwise (· ≤ ·)) (hb : b.Pairwise (· ≤ ·)) : a = b :=
  h.eq_of_pairwise (fun _ _ _ _ h1 h2 => by omega) ha hb
/-- what sorted(order) == list(range(n)) tells -/
theorem sorted_rg {ns ms : List Int} {n : Nat} (h : ms.Perm ns) (hs : ms.Pairwise (· ≤ ·)) : ms = rg n ↔ ns.Perm (rg n) := by
  constructor
  · intro e
    rw [← e]
    exact h.symm
  · intro p
    exact sorted_uniq (h.trans p) hs (rg_sorted n)
theorem zs_perm {os : List Nat} {n : Nat} (h : os.Perm (List.range n)) : (zs os).Perm (rg n) := h.map _
/-- a list of whole numbers that is an order is one of counts -/
theorem perm_zs {ns : List Int} {n : Nat} (h : ns.Perm (rg n)) : ∃ os : List Nat, ns = zs os ∧ os.Perm (List.range n) := by
  refine ⟨ns.map Int.toNat, ?_, ?_⟩
  · unfold zs
    rw [List.map_map]
    refine ((List.map_congr_left (g := id) fun z hz => ?_).trans (List.map_id _)).symm
    obtain ⟨k, _, e⟩ := List.mem_map.mp (h.mem_iff.mp hz)
    show ((z.toNat : Nat) : Int) = z
    omega
  · have h2 := h.map Int.toNat
    unfold rg zs at h2
    rw [List.map_map] at h2
    have e : (List.range n).map (Int.toNat ∘ fun k : Nat => (k : Int)) = List.range n := (List.map_congr_left (g := id) fun k _ => by
      show ((k : Int)).toNat = k
      omega).trans (List.map_id _)
    rw [e] at h2
    exact h2
theorem zs_inj {a b : List Nat} (h : zs a = zs b) : a = b := by
  have h2 := congrArg (List.map Int.toNat) h
  unfold zs at h2
  rw [List.map_map, List.map_map] at h2
  have e : ∀ l : List Nat, l.map (Int.toNat ∘ fun k : Nat => (k : Int)) = l := fun l => (List.map_congr_left (g := id) fun k _ => by
    show ((k : Int)).toNat = k
    omega).trans (List.map_id _)
  rw [e, e] at h2
  exact h2
/-! ### lists set by place -/
def setAll {α : Type} : List α → List Nat → List α → List α
  | l, k :: os, x :: xs => setAll (l.set k x) os xs
  | l, _, _ => l
theorem setAll_len {α : Type} : ∀ (os : List Nat) (l xs : List α), (setAll l os xs).length = l.length
  | [], l, xs => by cases xs <;> rfl
  | k :: os, l, [] => rfl
  | k :: os, l, x :: xs => by rw [setAll, setAll_len os, List.length_set]
theorem setAll_take {α : Type} : ∀ (os : List Nat) (l xs : List α) (i k : Nat) (x : α), os[i]? = some k → xs[i]? = some x → setAll l (os.take (i + 1)) (xs.take (i + 1)) = (setAll l (os.take i) (xs.take i)).set k x
  | [], l, xs, i, k, x, h, _ => by simp at h
  | _ :: _, l, [], i, k, x, _, h => by simp at h
  | j :: os, l, y :: xs, 0, k, x, h1, h2 => by
    simp at h1 h2
    subst h1 h2
    rfl
  | j :: os, l, y :: xs, i + 1, k, x, h1, h2 => by
    have ih := setAll_take os (l.set j y) xs i k x (by simpa using h1) (by simpa using h2)
    show setAll (l.set j y) (os.take (i + 1)) (xs.take (i + 1)) = (setAll (l.set j y) (os.take i) (xs.take i)).set k x
    exact ih
/-! ### an order drawn: each thing put in somewhere -/
theorem ins_perm {os : List Nat} {n p : Nat} (h : os.Perm (List.range n)) : (os.take p ++ [n] ++ os.drop p).Perm (List.range (n + 1)) := by
  rw [List.range_succ]
  have h1 : (os.take p ++ [n] ++ os.drop p).Perm (os ++ [n]) := by
    have h2 : (os.take p ++ [n] ++ os.drop p).Perm (os.take p ++ (os.drop p ++ [n])) := by
      rw [List.append_assoc]
      exact List.Perm.append_left _ List.perm_append_comm
    rw [← List.append_assoc, List.take_append_drop] at h2
    exact h2
  exact h1.trans (h.append_right _)
end Bp
/-! Benchpair: bars, and that no order is done sooner than one is worth. -/
namespace Bp
def hre (b : Int) (t : T3) : Int := if b = 1 then t.1 else t.2.2
def thr (b : Int) (t : T3) : Int := if b = 1 then t.2.2 else t.1
def okE (b l : Int) (e : Bool × T3) : Bool := if e.1 = true then decide (hre b e.2 ≤ thr b e.2) else (decide (l ≤ hre b e.2 + e.2.2.1) || decide (thr b e.2 ≤ hre b e.2))
def vE (b : Int) (e : Bool × T3) : Int := if e.1 = true then hre b e.2 else thr b e.2
def mE (b l : Int) (e : Bool × T3) : Bool := !e.1 && decide (l ≤ hre b e.2 + e.2.2.1)
/-- the entries of a bar: whether a thing stands in it, and the thing -/
def ent (ts : List T3) (ap : List Int) (k : Nat) : Bool × T3 := (decide ((k : Int) ∈ ap), ts.getD k (0, 0, 0))
def ents (ts : List T3) (ap : List Int) : List (Bool × T3) := (List.range ts.length).map (ent ts ap)
/-- rising counts -/
def ris (n : Nat) : Int → List Int → Bool
  | _, [] => true
  | last, x :: r => decide (last < x) && decide (x < n) && ris n x r
def vS (b : Int) (es : List (Bool × T3)) : Int := (es.map (vE b)).sum
/-- the worth of a bar, if it is one -/
def wv (ts : List T3) (b : Int) (ap : List Int) (l : Int) : Option Int :=
  if (b = 1 ∨ b = 2) ∧ ris ts.length (-1) ap = true ∧ 0 ≤ l then
    (if (ents ts ap).all (okE b l) = true ∧ (l = 0 ∨ (ents ts ap).any (mE b l) = true) then some (l + vS b (ents ts ap)) else none)
  else none
theorem vS_app (b : Int) (p q : List (Bool × T3)) : vS b (p ++ q) = vS b p + vS b q := by
  unfold vS
  rw [List.map_append, List.sum_append]
theorem vS_cons (b : Int) (e : Bool × T3) (q : List (Bool × T3)) : vS b (e :: q) = vE b e + vS b q := by
  unfold vS
  rw [List.map_cons, List.sum_cons]
theorem vS_perm (b : Int) {p q : List (Bool × T3)} (h : p.Perm q) : vS b p = vS b q := by
  induction h with
  | nil => rfl
  | cons x _ ih => rw [vS_cons, vS_cons, ih]
  | swap x y l => rw [vS_cons, vS_cons, vS_cons, vS_cons]; omega
  | trans _ _ h1 h2 => rw [h1, h2]
theorem wv_some {ts : List T3} {b l w : Int} {ap : List Int} (h : wv ts b ap l = some w) :
    (b = 1 ∨ b = 2) ∧ ris ts.length (-1) ap = true ∧ 0 ≤ l ∧ (ents ts ap).all (okE b l) = true ∧ (l = 0 ∨ (ents ts ap).any (mE b l) = true) ∧ w = l + vS b (ents ts ap) := by
  unfold wv at h
  split at h
  · rename_i c
    split at h
    · rename_i d
      exact ⟨c.1, c.2.1, c.2.2, d.1, d.2, (Option.some.inj h).symm⟩
    · cases h
  · cases h
theorem wv_of {ts : List T3} {b l : Int} {ap : List Int} (h1 : b = 1 ∨ b = 2) (h2 : ris ts.length (-1) ap = true) (h3 : 0 ≤ l) (h4 : (ents ts ap).all (okE b l) = true) (h5 : l = 0 ∨ (ents ts ap).any (mE b l) = true) : wv ts b ap l = some (l + vS b (ents ts ap)) := by
  unfold wv
  rw [if_pos ⟨h1, h2, h3⟩, if_pos ⟨h4, h5⟩]
/-! ### no order is done sooner -/
/-- the things of entries -/
def th (es : List (Bool × T3)) : List T3 := es.map (·.2)
theorem th_app (p q : List (Bool × T3)) : th (p ++ q) = th p ++ th q := List.map_append ..
theorem v_le_sa {l : Int} : ∀ {es : List (Bool × T3)}, es.all (okE 1 l) = true → es.any (mE 1 l) = false → vS 1 es ≤ sa (th es)
  | [], _, _ => Int.le_refl 0
  | e :: es, h1, h2 => by
    rw [List.all_cons, Bool.and_eq_true] at h1
    rw [List.any_cons, Bool.or_eq_false_iff] at h2
    have ih := v_le_sa h1.2 h2.2
    rw [vS_cons]
    show vE 1 e + vS 1 es ≤ e.2.1 + sa (th es)
    have k : vE 1 e ≤ e.2.1 := by
      obtain ⟨m, t⟩ := e
      have a := h1.1
      have b := h2.1
      cases m with
      | true => simp [vE, hre]
      | false =>
        simp [okE, mE, hre, thr] at a b
        simp [vE, thr]
        omega
    omega
theorem v_le_sb {l : Int} : ∀ {es : List (Bool × T3)}, es.all (okE 1 l) = true → vS 1 es ≤ sb (th es)
  | [], _ => Int.le_refl 0
  | e :: es, h1 => by
    rw [List.all_cons, Bool.and_eq_true] at h1
    have ih := v_le_sb h1.2
    rw [vS_cons]
    show vE 1 e + vS 1 es ≤ e.2.2.2 + sb (th es)
    have k : vE 1 e ≤ e.2.2.2 := by
      obtain ⟨m, t⟩ := e
      have a := h1.1
      cases m with
      | true =>
        simp [okE, hre, thr] at a
        simp [vE, hre]
        exact a
      | false => simp [vE, thr]
    omega
/-- the first one that meets -/
theorem first_met {α : Type} (p : α → Bool) : ∀ {l : List α}, l.any p = true → ∃ a x b, l = a ++ x :: b ∧ a.any p = false ∧ p x = true
  | [], h => by simp at h
  | x :: l, h => by
    cases hx : p x with
    | true => exact ⟨[], x, l, rfl, rfl, hx⟩
    | false =>
      rw [List.any_cons, hx, Bool.false_or] at h
      obtain ⟨a, y, b, e, h1, h2⟩ := first_met p h
      exact ⟨x :: a, y, b, by rw [e]; rfl, by rw [List.any_cons, hx, h1]; rfl, h2⟩
theorem bar1_le {l : Int} {es : List (Bool × T3)} (hn : ∀ t ∈ th es, Nn t) (hok : es.all (okE 1 l) = true) (hm : l = 0 ∨ es.any (mE 1 l) = true) : l + vS 1 es ≤ ld (th es) := by
  cases hany : es.any (mE 1 l) with
  | true =>
    obtain ⟨a, x, b, e, h1, h2⟩ := first_met _ hany
    subst e
    rw [List.all_append, Bool.and_eq_true, List.all_cons, Bool.and_eq_true] at hok
    have k1 := v_le_sa hok.1 h1
    have k2 := v_le_sb hok.2.2
    have k3 := pth_le_ld (l := th (a ++ x :: b)) (p := th a) (t := x.2) (r := th b) (by rw [th_app]; rfl)
    rw [vS_app, vS_cons]
    obtain ⟨m, t⟩ := x
    have c := h2
    cases m with
    | true => simp [mE] at c
    | false =>
      simp [mE, hre] at c
      simp only [vE, thr, pth] at *
      simp
      omega
  | false =>
    have l0 : l = 0 := by
      rcases hm with h | h
      · exact h
      · rw [hany] at h; cases h
    subst l0
    have k1 := v_le_sa hok hany
    have k2 : sa (th es) ≤ ld (th es) := by
      rcases List.eq_nil_or_concat (th es) with e | ⟨p, t, e⟩
      · rw [e]; exact ld_nn []
      · have e' : th es = p ++ t :: [] := by rw [e]; simp
        have k3 := pth_le_ld e'
        have nt := hn t (by rw [e']; simp)
        have e2 : sa (th es) = sa p + t.1 := by
          rw [e', sa_app, sa, sa]; omega
        rw [e2]
        unfold pth at k3
        rw [sb] at k3
        have := nt.2.1
        have := nt.2.2
        omega
    omega
/-- the entries in an order -/
def entsO (ts : List T3) (ap : List Int) (os : List Nat) : List (Bool × T3) := os.map (ent ts ap)
theorem entsO_perm {ts : List T3} {ap : List Int} {os : List Nat} (h : os.Perm (List.range ts.length)) : (entsO ts ap os).Perm (ents ts ap) := h.map _
theorem th_ents (ts : List T3) (ap : List Int) (os : List Nat) : th (entsO ts ap os) = sq ts os := by
  unfold th entsO sq
  rw [List.map_map]
  rfl
theorem all_perm {α : Type} {p : α → Bool} {l m : List α} (h : l.Perm m) : l.all p = m.all p := by
  rw [Bool.eq_iff_iff, List.all_eq_true, List.all_eq_true]
  exact ⟨fun k x hx => k x (h.mem_iff.mpr hx), fun k x hx => k x (h.mem_iff.mp hx)⟩
theorem any_perm {α : Type} {p : α → Bool} {l m : List α} (h : l.Perm m) : l.any p = m.any p := by
  rw [Bool.eq_iff_iff, List.any_eq_true, List.any_eq_true]
  exact ⟨fun ⟨x, hx, k⟩ => ⟨x, h.mem_iff.mp hx, k⟩, fun ⟨x, hx, k⟩ => ⟨x, h.mem_iff.mpr hx, k⟩⟩
/-- bench 2: the things turned -/
theorem ent_tn (ts : List T3) (ap : List Int) (k : Nat) : ent (ts.map tn) ap k = ((ent ts ap k).1, tn (ent ts ap k).2) := by
  unfold ent
  refine Prod.ext rfl ?_
  show (ts.map tn).getD k (0, 0, 0) = tn (ts.getD k (0, 0, 0))
  rw [List.getD_eq_getElem?_getD, List.getD_eq_getElem?_getD, List.getElem?_map]
  cases ts[k]? <;> rfl
def tnE (e : Bool × T3) : Bool × T3 := (e.1, tn e.2)
theorem ents_tn (ts : List T3) (ap : List Int) : ents (ts.map tn) ap = (ents ts ap).map tnE := by
  unfold ents
  rw [List.length_map, List.map_map]
  exact List.map_congr_left fun k _ => ent_tn ts ap k
theorem wv_two (ts : List T3) (ap : List Int) (l : Int) : wv ts 2 ap l = wv (ts.map tn) 1 ap l := by
  have e1 : ∀ e, okE 1 l (tnE e) = okE 2 l e := fun e => by
    obtain ⟨m, t⟩ := e
    simp [okE, tnE, hre, thr, tn]
  have e2 : ∀ e, mE 1 l (tnE e) = mE 2 l e := fun e => by
    obtain ⟨m, t⟩ := e
    simp [mE, tnE, hre, tn]
  have e3 : ∀ e, vE 1 (tnE e) = vE 2 e := fun e => by
    obtain ⟨m, t⟩ := e
    simp [vE, tnE, hre, thr, tn]
  unfold wv
  rw [ents_tn, List.length_map, List.all_map, List.any_map]
  have f1 : okE 1 l ∘ tnE = okE 2 l := funext e1
  have f2 : mE 1 l ∘ tnE = mE 2 l := funext e2
  have f3 : vS 1 ((ents ts ap).map tnE) = vS 2 (ents ts ap) := by
    unfold vS
    rw [List.map_map]
    exact congrArg List.sum (List.map_congr_left fun e _ => e3 e)
  rw [f1, f2, f3]
  simp
theorem bar_le1 {ts : List T3} {ap : List Int} {l w : Int} {os : List Nat} (hn : ∀ t ∈ ts, Nn t) (hp : os.Perm (List.range ts.length)) (h : wv ts 1 ap l = some w) : w ≤ dn (sq ts os) := by
  obtain ⟨_, _, _, h4, h5, rfl⟩ := wv_some h
  have P := entsO_perm (ap := ap) hp
  have nn := sq_nn hn (perm_lt hp)
  rw [dn_ld nn, ← vS_perm 1 P, ← th_ents ts ap os]
  refine bar1_le ?_ ?_ ?_
  · rw [th_ents]; exact nn
  · rw [all_perm P]; exact h4
  · rw [any_perm P]; exact h5
/-- NO ORDER IS DONE SOONER THAN A BAR'S WORTH -/
theorem bar_le {ts : List T3} {ap : List Int} {b l w : Int} {os : List Nat} (hn : ∀ t ∈ ts, Nn t) (hp : os.Perm (List.range ts.length)) (h : wv ts b ap l = some w) : w ≤ dn (sq ts os) := by
  rcases (wv_some h).1 with e | e
  · subst e
    exact bar_le1 hn hp h
  · subst e
    rw [wv_two] at h
    have k := bar_le1 (os := os.reverse) (fun t ht => by
      obtain ⟨u, hu, rfl⟩ := List.mem_map.mp ht
      exact tn_nn (hn u hu)) (by rw [List.length_map]; exact (List.reverse_perm os).trans hp) h
    rw [dn_turned hn (perm_lt hp)] at k
    exact k
theorem vE_nn {b : Int} {e : Bool × T3} (h : Nn e.2) : 0 ≤ vE b e := by
  obtain ⟨m, t⟩ := e
  have h1 := h.1
  have h3 := h.2.2
  unfold vE hre thr
  split <;> split <;> assumption
theorem wv_nn {ts : List T3} {ap : List Int} {b l w : Int} (hn : ∀ t ∈ ts, Nn t) (h : wv ts b ap l = some w) : 0 ≤ w := by
  obtain ⟨_, _, h3, _, _, rfl⟩ := wv_some h
  have k : ∀ es : List (Bool × T3), (∀ e ∈ es, Nn e.2) → 0 ≤ vS b es := by
    intro es
    induction es with
    | nil => intro _; exact Int.le_refl 0
    | cons e es ih =>
      intro h
      rw [vS_cons]
      have := vE_nn (b := b) (h e List.mem_cons_self)
      have := ih fun x hx => h x (List.mem_cons_of_mem e hx)
      omega
  have := k (ents ts ap) fun e he => by
    obtain ⟨j, hj, rfl⟩ := List.mem_map.mp he
    exact hn _ (List.mem_of_getElem? (getD_at (List.mem_range.mp hj)))
  omega
/-! ### the order that is done soonest, and its bar -/
/-- first those that are no longer on bench 1, by that and drying; then the others, the longest on bench 2 first -/
def Best (ts : List T3) (os : List Nat) : Prop := os.Perm (List.range ts.length) ∧ ∃ qs ss : List Nat, os = qs ++ ss ∧
  (∀ k ∈ qs, (ts.getD k (0, 0, 0)).1 ≤ (ts.getD k (0, 0, 0)).2.2) ∧ (∀ k ∈ ss, (ts.getD k (0, 0, 0)).2.2 < (ts.getD k (0, 0, 0)).1) ∧
  qs.Pairwise (fun i j => (ts.getD i (0, 0, 0)).1 + (ts.getD i (0, 0, 0)).2.1 ≤ (ts.getD j (0, 0, 0)).1 + (ts.getD j (0, 0, 0)).2.1) ∧
  ss.Pairwise (fun i j => (ts.getD j (0, 0, 0)).2.2 + (ts.getD j (0, 0, 0)).2.1 ≤ (ts.getD i (0, 0, 0)).2.2 + (ts.getD i (0, 0, 0)).2.1)
theorem ris_of {n : Nat} : ∀ {ap : List Int} {last : Int}, ap.Pairwise (· < ·) → (∀ x ∈ ap, last < x ∧ x < n) → ris n last ap = true
  | [], _, _, _ => rfl
  | x :: r, last, hp, h => by
    have h1 := h x List.mem_cons_self
    rw [List.pairwise_cons] at hp
    rw [ris, decide_eq_true h1.1, decide_eq_true h1.2, Bool.true_and, Bool.true_and]
    exact ris_of hp.2 fun y hy => ⟨hp.1 y hy, (h y (List.mem_cons_of_mem x hy)).2⟩
theorem ris_to {n : Nat} : ∀ {ap : List Int} {last : Int}, ris n last ap = true → ap.Pairwise (· < ·) ∧ ∀ x ∈ ap, last < x ∧ x < n
  | [], _, _ => ⟨.nil, fun x h => by cases h⟩
  | x :: r, last, h => by
    rw [ris, Bool.and_eq_true, Bool.and_eq_true, decide_eq_true_eq, decide_eq_true_eq] at h
    obtain ⟨⟨h1, h2⟩, h3⟩ := h
    obtain ⟨k1, k2⟩ := ris_to h3
    refine ⟨List.pairwise_cons.mpr ⟨fun y hy => (k2 y hy).1, k1⟩, fun y hy => ?_⟩
    rcases List.mem_cons.mp hy with rfl | hy
    · exact ⟨h1, h2⟩
    · have := k2 y hy
      exact ⟨by omega, this.2⟩
/-- sorted counts of a part of an order -/
theorem ris_sorted {n : Nat} {ap : List Int} {ks : List Nat} (hp : ap.Perm (zs ks)) (hs : ap.Pairwise (· ≤ ·)) (hd : ks.Nodup) (hl : ∀ k ∈ ks, k < n) : ris n (-1) ap = true := by
  have nd : (zs ks).Nodup := by
    unfold zs
    unfold List.Nodup
    rw [List.pairwise_map]
    exact hd.imp fun h e => h (by omega)
  have nd2 : ap.Nodup := hp.nodup_iff.mpr nd
  refine ris_of ?_ fun x hx => ?_
  · have := List.Pairwise.and hs nd2
    exact this.imp fun h => by omega
  · obtain ⟨k, hk, rfl⟩ := List.mem_map.mp (hp.mem_iff.mp hx)
    have := hl k hk
    exact ⟨by omega, by omega⟩
theorem mem_zs {ks : List Nat} {k : Nat} : (k : Int) ∈ zs ks ↔ k ∈ ks := by
  unfold zs
  rw [List.mem_map]
  exact ⟨fun ⟨j, hj, e⟩ => by have : j = k := by omega
                              exact this ▸ hj, fun h => ⟨k, h, rfl⟩⟩
theorem sa_map (ts : List T3) : ∀ ks : List Nat, sa (sq ts ks) = (ks.map fun k => (ts.getD k (0, 0, 0)).1).sum
  | [] => rfl
  | k :: ks => by rw [List.map_cons, List.sum_cons, ← sa_map ts ks]; rfl
theorem sb_map (ts : List T3) : ∀ ks : List Nat, sb (sq ts ks) = (ks.map fun k => (ts.getD k (0, 0, 0)).2.2).sum
  | [] => rfl
  | k :: ks => by rw [List.map_cons, List.sum_cons, ← sb_map ts ks]; rfl
theorem vS_in {ts : List T3} {ap : List Int} {b : Int} : ∀ {ks : List Nat}, (∀ k ∈ ks, (k : Int) ∈ ap) → vS b (entsO ts ap ks) = (ks.map fun k => hre b (ts.getD k (0, 0, 0))).sum
  | [], _ => rfl
  | k :: ks, h => by
    have ih := vS_in (ts := ts) (b := b) fun j hj => h j (List.mem_cons_of_mem k hj)
    show vS b (ent ts ap k :: entsO ts ap ks) = _
    rw [vS_cons, List.map_cons, List.sum_cons, ih]
    have e : vE b (ent ts ap k) = hre b (ts.getD k (0, 0, 0)) := by
      unfold vE ent
      rw [decide_eq_true (h k List.mem_cons_self)]
      simp
    rw [e]
theorem vS_out {ts : List T3} {ap : List Int} {b : Int} : ∀ {ks : List Nat}, (∀ k ∈ ks, ¬ (k : Int) ∈ ap) → vS b (entsO ts ap ks) = (ks.map fun k => thr b (ts.getD k (0, 0, 0))).sum
  | [], _ => rfl
  | k :: ks, h => by
    have ih := vS_out (ts := ts) (b := b) fun j hj => h j (List.mem_cons_of_mem k hj)
    show vS b (ent ts ap k :: entsO ts ap ks) = _
    rw [vS_cons, List.map_cons, List.sum_cons, ih]
    have e : vE b (ent ts ap k) = thr b (ts.getD k (0, 0, 0)) := by
      unfold vE ent
      rw [decide_eq_false (h k List.mem_cons_self)]
      simp
    rw [e]
/-- a list without doubles parts at a thing in one way -/
theorem split_uniq {α : Type} {k : α} : ∀ {p q r s : List α}, (p ++ k :: r).Nodup → p ++ k :: r = q ++ k :: s → p = q ∧ r = s
  | [], [], _, _, _, e => ⟨rfl, (List.cons.inj e).2⟩
  | [], y :: q, r, s, h, e => by
    rw [List.nil_append, List.cons_append] at e
    obtain ⟨e1, e2⟩ := List.cons.inj e
    rw [List.nil_append, List.nodup_cons] at h
    exact absurd (show k ∈ r by rw [e2]; simp) h.1
  | x :: p, [], r, s, h, e => by
    rw [List.nil_append, List.cons_append] at e
    obtain ⟨e1, e2⟩ := List.cons.inj e
    rw [List.cons_append, List.nodup_cons] at h
    exact absurd (show x ∈ p ++ k :: r by rw [e1]; simp) h.1
  | x :: p, y :: q, r, s, h, e => by
    rw [List.cons_append, List.cons_append] at e
    obtain ⟨e1, e2⟩ := List.cons.inj e
    rw [List.cons_append, List.nodup_cons] at h
    obtain ⟨k1, k2⟩ := split_uniq h.2 e2
    exact ⟨by rw [e1, k1], k2⟩
/-- THE BAR AT A THING OF SUCH AN ORDER is worth the way that changes benches there -/
theorem best_bar1 {ts : List T3} {p r qs ss : List Nat} {k : Nat} {ap : List Int} (hn : ∀ t ∈ ts, Nn t) (hP : (p ++ k :: r).Perm (List.range ts.length)) (e : p ++ k :: r = qs ++ ss)
    (hq : ∀ k ∈ qs, (ts.getD k (0, 0, 0)).1 ≤ (ts.getD k (0, 0, 0)).2.2) (hS : ∀ k ∈ ss, (ts.getD k (0, 0, 0)).2.2 ≤ (ts.getD k (0, 0, 0)).1)
    (hw : qs.Pairwise (fun i j => (ts.getD i (0, 0, 0)).1 + (ts.getD i (0, 0, 0)).2.1 ≤ (ts.getD j (0, 0, 0)).1 + (ts.getD j (0, 0, 0)).2.1)) (kq : k ∈ qs)
    (hp : ap.Perm (zs p)) (hs : ap.Pairwise (· ≤ ·)) : wv ts 1 ap ((ts.getD k (0, 0, 0)).1 + (ts.getD k (0, 0, 0)).2.1) = some (pth (sq ts p) (ts.getD k (0, 0, 0)) (sq ts r)) := by
  have ndall := perm_nd hP
  have lt := perm_lt hP
  have mem : ∀ j : Nat, (j : Int) ∈ ap ↔ j ∈ p := fun j => (hp.mem_iff).trans mem_zs
  obtain ⟨nd1, nd2, nd3⟩ := List.nodup_append.mp ndall
  have out : ∀ j ∈ k :: r, ¬ (j : Int) ∈ ap := fun j hj h => nd3 j ((mem j).mp h) j hj rfl
  -- what is ahead of k stands among the first ones
  obtain ⟨q1, q2, eq⟩ := List.append_of_mem kq
  have e2 : p ++ k :: r = q1 ++ k :: (q2 ++ ss) := by rw [e, eq]; simp
  obtain ⟨hp1, hr1⟩ := split_uniq ndall e2
  subst hp1
  have hlen : 0 ≤ (ts.getD k (0, 0, 0)).1 + (ts.getD k (0, 0, 0)).2.1 := by
    have := hn _ (List.mem_of_getElem? (getD_at (lt k (by simp))))
    have := this.1
    have := (hn _ (List.mem_of_getElem? (getD_at (lt k (by simp))))).2.1
    omega
  have P := entsO_perm (ap := ap) hP
  have kmem : k ∈ p ++ k :: r := by simp
  rw [wv_of (.inl rfl) (ris_sorted hp hs nd1 fun j hj => lt j (by simp [hj])) hlen]
  · -- the worth
    congr 1
    rw [← vS_perm 1 P]
    have e3 : entsO ts ap (p ++ k :: r) = entsO ts ap p ++ entsO ts ap (k :: r) := List.map_append ..
    rw [e3, vS_app, vS_in fun j hj => (mem j).mpr hj, vS_out out]
    unfold pth
    rw [sa_map, sb_map, List.map_cons, List.sum_cons]
    simp only [hre, thr, if_true]
    omega
  · -- each thing is as a bar asks
    rw [← all_perm P, List.all_eq_true]
    intro x hx
    obtain ⟨j, hj, rfl⟩ := List.mem_map.mp hx
    by_cases hjp : j ∈ p
    · have hj2 := hq j (by rw [eq]; exact List.mem_append_left _ hjp)
      unfold okE ent
      rw [decide_eq_true ((mem j).mpr hjp)]
      simpa [hre, thr] using hj2
    · have hj3 : j ∈ k :: r := by
        rcases List.mem_append.mp hj with h | h
        · exact absurd h hjp
        · exact h
      unfold okE ent
      rw [decide_eq_false (out j hj3)]
      simp only [Bool.false_eq_true, if_false, hre, thr, if_true, Bool.or_eq_true, decide_eq_true_eq]
      rcases List.mem_cons.mp hj3 with rfl | hr
      · exact .inl (Int.le_refl _)
      · rw [hr1] at hr
        rcases List.mem_append.mp hr with h | h
        · left
          rw [eq] at hw
          exact (List.pairwise_cons.mp (List.pairwise_append.mp hw).2.1).1 j h
        · right
          exact hS j h
  · right
    rw [← any_perm P, List.any_eq_true]
    refine ⟨ent ts ap k, List.mem_map.mpr ⟨k, kmem, rfl⟩, ?_⟩
    unfold mE ent
    rw [decide_eq_false (out k List.mem_cons_self)]
    simp [hre]
theorem getD_tn (ts : List T3) (k : Nat) : (ts.map tn).getD k (0, 0, 0) = tn (ts.getD k (0, 0, 0)) := by
  rw [List.getD_eq_getElem?_getD, List.getD_eq_getElem?_getD, List.getElem?_map]
  cases ts[k]? <;> rfl
/-- .. for bench 2, the things turned and the order turned about -/
theorem best_bar2 {ts : List T3} {p r qs ss : List Nat} {k : Nat} {ap : List Int} (hn : ∀ t ∈ ts, Nn t) (hP : (p ++ k :: r).Perm (List.range ts.length)) (e : p ++ k :: r = qs ++ ss)
    (hq : ∀ k ∈ qs, (ts.getD k (0, 0, 0)).1 ≤ (ts.getD k (0, 0, 0)).2.2) (hS : ∀ k ∈ ss, (ts.getD k (0, 0, 0)).2.2 ≤ (ts.getD k (0, 0, 0)).1)
    (hw : ss.Pairwise (fun i j => (ts.getD j (0, 0, 0)).2.2 + (ts.getD j (0, 0, 0)).2.1 ≤ (ts.getD i (0, 0, 0)).2.2 + (ts.getD i (0, 0, 0)).2.1)) (ks : k ∈ ss)
    (hp : ap.Perm (zs r)) (hs : ap.Pairwise (· ≤ ·)) : wv ts 2 ap ((ts.getD k (0, 0, 0)).2.2 + (ts.getD k (0, 0, 0)).2.1) = some (pth (sq ts p) (ts.getD k (0, 0, 0)) (sq ts r)) := by
  have e2 : (p ++ k :: r).reverse = r.reverse ++ k :: p.reverse := by simp
  have z := best_bar1 (ts := ts.map tn) (p := r.reverse) (k := k) (r := p.reverse) (qs := ss.reverse) (ss := qs.reverse) (ap := ap) (fun t ht => by
      obtain ⟨u, hu, rfl⟩ := List.mem_map.mp ht
      exact tn_nn (hn u hu))
    (by rw [← e2, List.length_map]; exact (List.reverse_perm _).trans hP) (by rw [← e2, e]; simp)
    (fun j hj => by rw [getD_tn]; exact hS j (List.mem_reverse.mp hj)) (fun j hj => by rw [getD_tn]; exact hq j (List.mem_reverse.mp hj))
    (by
      rw [List.pairwise_reverse]
      refine hw.imp fun {a b} h => ?_
      rw [getD_tn, getD_tn]
      exact h) (List.mem_reverse.mpr ks) (hp.trans ((List.reverse_perm r).symm.map _)) hs
  rw [getD_tn] at z
  rw [wv_two]
  refine z.trans (congrArg some ?_)
  rw [sq_tn, sq_tn]
  have z2 := pth_rev (sq ts p) (ts.getD k (0, 0, 0)) (sq ts r)
  unfold sq at z2 ⊢
  rw [List.map_reverse, List.map_reverse, List.map_reverse, List.map_reverse]
  exact z2
end Bp
/-! Benchpair: a bar's worth by going along; the order by sorted pairs; the bar of such an order; shown or not. -/
namespace Bp
/-! ### marks -/
def mks (n : Nat) (ap : List Int) : List Bool := (List.range n).map fun k : Nat => decide ((k : Int) ∈ ap)
theorem mks_len (n : Nat) (ap : List Int) : (mks n ap).length = n := by unfold mks; rw [List.length_map, List.length_range]
theorem mks_nil (n : Nat) : mks n [] = List.replicate n false := by
  unfold mks
  rw [show (fun k : Nat => decide ((k : Int) ∈ ([] : List Int))) = fun _ => false from funext fun k => decide_eq_false (by simp)]
  refine List.eq_replicate_iff.mpr ⟨by simp, fun b hb => ?_⟩
  obtain ⟨_, _, rfl⟩ := List.mem_map.mp hb
  rfl
theorem mks_get {n k : Nat} (h : k < n) (ap : List Int) : (mks n ap)[k]? = some (decide ((k : Int) ∈ ap)) := by
  unfold mks
  rw [List.getElem?_map, List.getElem?_range h]; rfl
theorem mks_set {n j : Nat} (h : j < n) (ap : List Int) : (mks n ap).set j true = mks n (ap ++ [(j : Int)]) := by
  refine List.ext_getElem? fun k => ?_
  rw [List.getElem?_set, mks_len]
  by_cases hk : k < n
  · rw [mks_get hk, mks_get hk]
    by_cases e : j = k
    · subst e
      rw [if_pos rfl, if_pos h]
      refine congrArg some (decide_eq_true ?_).symm
      simp
    · rw [if_neg e]
      refine congrArg some ?_
      rw [decide_eq_decide, List.mem_append]
      refine ⟨.inl, fun h => h.elim id fun h => ?_⟩
      have := List.mem_singleton.mp h
      omega
  · have e1 : (mks n ap)[k]? = none := List.getElem?_eq_none (by rw [mks_len]; omega)
    have e2 : (mks n (ap ++ [(j : Int)]))[k]? = none := List.getElem?_eq_none (by rw [mks_len]; omega)
    rw [e1, e2, if_neg (by omega)]
/-! ### entries -/
theorem ents_len (ts : List T3) (ap : List Int) : (ents ts ap).length = ts.length := by unfold ents; rw [List.length_map, List.length_range]
theorem ents_get {ts : List T3} {k : Nat} (h : k < ts.length) (ap : List Int) : (ents ts ap)[k]? = some (ent ts ap k) := by
  unfold ents
  rw [List.getElem?_map, List.getElem?_range h]; rfl
theorem ents_take {ts : List T3} {k : Nat} (h : k < ts.length) (ap : List Int) : (ents ts ap).take (k + 1) = (ents ts ap).take k ++ [ent ts ap k] := by
  rw [List.take_add_one, ents_get h]; rfl
theorem wv_not {ts : List T3} {b l : Int} {ap : List Int} (h : ¬ ((b = 1 ∨ b = 2) ∧ ris ts.length (-1) ap = true ∧ 0 ≤ l)) : wv ts b ap l = none := by
  unfold wv
  rw [if_neg h]
theorem wv_bad {ts : List T3} {b l : Int} {ap : List Int} {k : Nat} (hk : k < ts.length) (h : okE b l (ent ts ap k) = false) : wv ts b ap l = none := by
  unfold wv
  split
  · rw [if_neg]
    rintro ⟨h1, _⟩
    have := List.all_eq_true.mp h1 _ (List.mem_of_getElem? (ents_get hk ap))
    rw [h] at this
    cases this
  · rfl
/-- what the loops hold, i things along -/
def Along (ts : List T3) (b : Int) (ap : List Int) (l : Int) (i : Nat) : Prop := ((ents ts ap).take i).all (okE b l) = true
def metB (ts : List T3) (b : Int) (ap : List Int) (l : Int) (i : Nat) : Bool := decide (l = 0) || ((ents ts ap).take i).any (mE b l)
def wrt (ts : List T3) (b : Int) (ap : List Int) (l : Int) (i : Nat) : Int := l + vS b ((ents ts ap).take i)
theorem along_0 (ts : List T3) (b : Int) (ap : List Int) (l : Int) : Along ts b ap l 0 := rfl
theorem met_0 (ts : List T3) (b : Int) (ap : List Int) (l : Int) : metB ts b ap l 0 = decide (l = 0) := by unfold metB; simp
theorem wrt_0 (ts : List T3) (b : Int) (ap : List Int) (l : Int) : wrt ts b ap l 0 = l := by unfold wrt vS; simp
theorem along_s {ts : List T3} {b l : Int} {ap : List Int} {i : Nat} (hi : i < ts.length) (h : Along ts b ap l i) (o : okE b l (ent ts ap i) = true) : Along ts b ap l (i + 1) := by
  unfold Along at h ⊢
  rw [ents_take hi, List.all_append, h, List.all_cons, o]; rfl
theorem met_s {ts : List T3} {b l : Int} {ap : List Int} {i : Nat} (hi : i < ts.length) : metB ts b ap l (i + 1) = (metB ts b ap l i || mE b l (ent ts ap i)) := by
  unfold metB
  rw [ents_take hi, List.any_append, List.any_cons, List.any_nil, Bool.or_false, Bool.or_assoc]
theorem wrt_s {ts : List T3} {b l : Int} {ap : List Int} {i : Nat} (hi : i < ts.length) : wrt ts b ap l (i + 1) = wrt ts b ap l i + vE b (ent ts ap i) := by
  unfold wrt
  rw [ents_take hi, vS_app, vS_cons]
  unfold vS
  simp
  omega
theorem wv_end {ts : List T3} {b l : Int} {ap : List Int} (h1 : b = 1 ∨ b = 2) (h2 : ris ts.length (-1) ap = true) (h3 : 0 ≤ l) (h : Along ts b ap l ts.length) :
    wv ts b ap l = if metB ts b ap l ts.length = true then some (wrt ts b ap l ts.length) else none := by
  have e : (ents ts ap).take ts.length = ents ts ap := List.take_of_length_le (by rw [ents_len]; exact Nat.le_refl _)
  unfold Along at h
  unfold wv metB wrt
  rw [e] at h ⊢
  rw [if_pos ⟨h1, h2, h3⟩]
  by_cases c : l = 0 ∨ (ents ts ap).any (mE b l) = true
  · rw [if_pos ⟨h, c⟩, if_pos]
    rw [Bool.or_eq_true, decide_eq_true_eq]
    exact c
  · rw [if_neg fun q => c q.2, if_neg]
    rw [Bool.or_eq_true, decide_eq_true_eq]
    exact c
/-- an entry, marked or not -/
theorem ent_in {ts : List T3} {ap : List Int} {k : Nat} (h : (k : Int) ∈ ap) : ent ts ap k = (true, ts.getD k (0, 0, 0)) := by unfold ent; rw [decide_eq_true h]
theorem ent_out {ts : List T3} {ap : List Int} {k : Nat} (h : ¬ (k : Int) ∈ ap) : ent ts ap k = (false, ts.getD k (0, 0, 0)) := by unfold ent; rw [decide_eq_false h]
theorem hre1 (t : T3) : hre 1 t = t.1 := rfl
theorem thr1 (t : T3) : thr 1 t = t.2.2 := rfl
theorem hre2 {b : Int} (h : b ≠ 1) (t : T3) : hre b t = t.2.2 := if_neg h
theorem thr2 {b : Int} (h : b ≠ 1) (t : T3) : thr b t = t.1 := if_neg h
theorem okE_in {b l : Int} {t : T3} : okE b l (true, t) = decide (hre b t ≤ thr b t) := rfl
theorem okE_out {b l : Int} {t : T3} : okE b l (false, t) = (decide (l ≤ hre b t + t.2.1) || decide (thr b t ≤ hre b t)) := rfl
theorem vE_in {b : Int} {t : T3} : vE b (true, t) = hre b t := rfl
theorem vE_out {b : Int} {t : T3} : vE b (false, t) = thr b t := rfl
theorem mE_in {b l : Int} {t : T3} : mE b l (true, t) = false := rfl
theorem mE_out {b l : Int} {t : T3} : mE b l (false, t) = decide (l ≤ hre b t + t.2.1) := by simp [mE]
/-! ### shown or not -/
def nat_ (ns : List Int) : List Nat := ns.map Int.toNat
theorem nat_zs (os : List Nat) : nat_ (zs os) = os := by
  unfold nat_ zs
  rw [List.map_map]
  exact (List.map_congr_left fun k _ => rfl).trans (List.map_id os)
/-- what Soonest.shows answers -/
def shw (ts : List T3) (ns : List Int) (b : Int) (ap : List Int) (l : Int) : Bool := decide (ns.Perm (rg ts.length)) && decide (wv ts b ap l = some (dn (sq ts (nat_ ns))))
theorem shw_no {ts : List T3} {ns : List Int} {b l : Int} {ap : List Int} (h : ¬ ns.Perm (rg ts.length)) : shw ts ns b ap l = false := by unfold shw; rw [decide_eq_false h]; rfl
theorem shw_os {ts : List T3} {os : List Nat} {b l : Int} {ap : List Int} (h : os.Perm (List.range ts.length)) : shw ts (zs os) b ap l = decide (wv ts b ap l = some (dn (sq ts os))) := by
  unfold shw
  rw [decide_eq_true (zs_perm h), Bool.true_and, nat_zs]
theorem shw_law {ts : List T3} {os : List Nat} {b l : Int} {ap : List Int} (hn : ∀ t ∈ ts, Nn t) (h : os.Perm (List.range ts.length)) : decide ((wv ts b ap l).getD (-1) = ld (sq ts os)) = shw ts (zs os) b ap l := by
  rw [shw_os h, ← dn_ld (sq_nn hn (perm_lt h))]
  have p := ld_nn (sq ts os)
  rw [← dn_ld (sq_nn hn (perm_lt h))] at p
  cases e : wv ts b ap l with
  | none =>
    rw [Option.getD_none]
    refine (decide_eq_false (by omega)).trans (decide_eq_false (by simp)).symm
  | some w => simp
/-! ### the order -/
def key1 (t : T3) : Int := t.1 + t.2.1
def key2 (t : T3) : Int := -t.2.2 - t.2.1
def isQ (ts : List T3) (k : Nat) : Bool := decide ((ts.getD k (0, 0, 0)).1 ≤ (ts.getD k (0, 0, 0)).2.2)
def qL (ts : List T3) (i : Nat) : List (Int × Int) := ((List.range i).filter (isQ ts)).map fun k : Nat => (key1 (ts.getD k (0, 0, 0)), (k : Int))
def sL (ts : List T3) (i : Nat) : List (Int × Int) := ((List.range i).filter fun k => !isQ ts k).map fun k : Nat => (key2 (ts.getD k (0, 0, 0)), (k : Int))
theorem qL_y {ts : List T3} {i : Nat} (h : isQ ts i = true) : qL ts (i + 1) = qL ts i ++ [(key1 (ts.getD i (0, 0, 0)), (i : Int))] ∧ sL ts (i + 1) = sL ts i := by
  unfold qL sL
  rw [List.range_succ, List.filter_append, List.filter_append, List.map_append, List.map_append, List.filter_cons_of_pos h, List.filter_cons_of_neg (by rw [h]; decide)]
  exact ⟨rfl, by simp⟩
theorem qL_n {ts : List T3} {i : Nat} (h : isQ ts i = false) : qL ts (i + 1) = qL ts i ∧ sL ts (i + 1) = sL ts i ++ [(key2 (ts.getD i (0, 0, 0)), (i : Int))] := by
  unfold qL sL
  rw [List.range_succ, List.filter_append, List.filter_append, List.map_append, List.map_append, List.filter_cons_of_neg (by rw [h]; decide), List.filter_cons_of_pos (by rw [h]; rfl)]
  exact ⟨by simp, rfl⟩
theorem qL_len (ts : List T3) (i : Nat) : (qL ts i).length ≤ i ∧ (sL ts i).length ≤ i := by
  unfold qL sL
  rw [List.length_map, List.length_map]
  have h1 := List.length_filter_le (isQ ts) (List.range i)
  have h2 := List.length_filter_le (fun k => !isQ ts k) (List.range i)
  rw [List.length_range] at h1 h2
  exact ⟨h1, h2⟩
theorem filter_perm {α : Type} (p : α → Bool) : ∀ l : List α, (l.filter p ++ l.filter fun x => !p x).Perm l
  | [] => .refl _
  | x :: l => by
    have ih := filter_perm p l
    cases h : p x with
    | true =>
      rw [List.filter_cons_of_pos h, List.filter_cons_of_neg (by rw [h]; decide)]
      exact ih.cons x
    | false =>
      rw [List.filter_cons_of_neg (by rw [h]; decide), List.filter_cons_of_pos (by rw [h]; rfl)]
      exact (List.perm_middle).trans (ih.cons x)
theorem best_of {ts : List T3} {Q S : List (Int × Int)} (hQ : Q.Perm (qL ts ts.length)) (hS : S.Perm (sL ts ts.length)) (oQ : Q.Pairwise fun x y => x.1 ≤ y.1) (oS : S.Pairwise fun x y => x.1 ≤ y.1) :
    ∃ os : List Nat, (Q ++ S).map (·.2) = zs os ∧ Best ts os := by
  have fQ : ∀ x ∈ Q, ∃ k : Nat, k < ts.length ∧ isQ ts k = true ∧ x = (key1 (ts.getD k (0, 0, 0)), (k : Int)) := fun x hx => by
    obtain ⟨k, hk, rfl⟩ := List.mem_map.mp (hQ.mem_iff.mp hx)
    obtain ⟨h1, h2⟩ := List.mem_filter.mp hk
    exact ⟨k, List.mem_range.mp h1, h2, rfl⟩
  have fS : ∀ x ∈ S, ∃ k : Nat, k < ts.length ∧ isQ ts k = false ∧ x = (key2 (ts.getD k (0, 0, 0)), (k : Int)) := fun x hx => by
    obtain ⟨k, hk, rfl⟩ := List.mem_map.mp (hS.mem_iff.mp hx)
    obtain ⟨h1, h2⟩ := List.mem_filter.mp hk
    exact ⟨k, List.mem_range.mp h1, by simpa using h2, rfl⟩
  have toN : ∀ L : List (Int × Int), (∀ x ∈ L, ∃ k : Nat, x.2 = (k : Int)) → L.map (·.2) = zs (L.map fun x => x.2.toNat) := fun L h => by
    unfold zs
    rw [List.map_map]
    refine List.map_congr_left fun x hx => ?_
    obtain ⟨k, hk⟩ := h x hx
    show x.2 = ((x.2.toNat : Nat) : Int)
    omega
  refine ⟨(Q ++ S).map fun x => x.2.toNat, toN _ fun x hx => ?_, ?_, Q.map (fun x => x.2.toNat), S.map (fun x => x.2.toNat), List.map_append .., ?_, ?_, ?_, ?_⟩
  · rcases List.mem_append.mp hx with h | h
    · obtain ⟨k, _, _, rfl⟩ := fQ x h
      exact ⟨k, rfl⟩
    · obtain ⟨k, _, _, rfl⟩ := fS x h
      exact ⟨k, rfl⟩
  · have h1 := (hQ.append hS).map fun x : Int × Int => x.2.toNat
    refine h1.trans ?_
    rw [List.map_append]
    unfold qL sL
    rw [List.map_map, List.map_map]
    have e1 : ∀ l : List Nat, l.map ((fun x : Int × Int => x.2.toNat) ∘ fun k : Nat => (key1 (ts.getD k (0, 0, 0)), (k : Int))) = l := fun l => (List.map_congr_left fun k _ => rfl).trans (List.map_id l)
    have e2 : ∀ l : List Nat, l.map ((fun x : Int × Int => x.2.toNat) ∘ fun k : Nat => (key2 (ts.getD k (0, 0, 0)), (k : Int))) = l := fun l => (List.map_congr_left fun k _ => rfl).trans (List.map_id l)
    rw [e1, e2]
    exact filter_perm _ _
  · intro k hk
    obtain ⟨x, hx, rfl⟩ := List.mem_map.mp hk
    obtain ⟨k, _, h, rfl⟩ := fQ x hx
    exact of_decide_eq_true h
  · intro k hk
    obtain ⟨x, hx, rfl⟩ := List.mem_map.mp hk
    obtain ⟨k, _, h, rfl⟩ := fS x hx
    have := of_decide_eq_false h
    show (ts.getD k (0, 0, 0)).2.2 < (ts.getD k (0, 0, 0)).1
    omega
  · rw [List.pairwise_map]
    refine oQ.imp_of_mem fun {x y} hx hy h => ?_
    obtain ⟨k, _, _, rfl⟩ := fQ x hx
    obtain ⟨j, _, _, rfl⟩ := fQ y hy
    exact h
  · rw [List.pairwise_map]
    refine oS.imp_of_mem fun {x y} hx hy h => ?_
    obtain ⟨k, _, _, rfl⟩ := fS x hx
    obtain ⟨j, _, _, rfl⟩ := fS y hy
    have h2 : key2 (ts.getD k (0, 0, 0)) ≤ key2 (ts.getD j (0, 0, 0)) := h
    unfold key2 at h2
    show (ts.getD j (0, 0, 0)).2.2 + (ts.getD j (0, 0, 0)).2.1 ≤ (ts.getD k (0, 0, 0)).2.2 + (ts.getD k (0, 0, 0)).2.1
    omega
/-! ### the bar -/
/-- the way that changes benches at place j -/
def wayAt (ts : List T3) (os : List Nat) (j : Nat) : Int := pth (sq ts (os.take j)) (ts.getD (os.getD j 0) (0, 0, 0)) (sq ts (os.drop (j + 1)))
/-- the longest so far, and its place -/
def Top (ts : List T3) (os : List Nat) (i : Nat) (m : Int) (k : Nat) : Prop := (∀ j, j < i → wayAt ts os j ≤ m) ∧ ((m = 0 ∧ k = 0) ∨ (k < i ∧ m = wayAt ts os k))
theorem top_0 (ts : List T3) (os : List Nat) : Top ts os 0 0 0 := ⟨fun j h => absurd h (by omega), .inl ⟨rfl, rfl⟩⟩
theorem top_y {ts : List T3} {os : List Nat} {i k : Nat} {m : Int} (h : Top ts os i m k) (g : m < wayAt ts os i) : Top ts os (i + 1) (wayAt ts os i) i := ⟨fun j hj => by
  rcases Nat.lt_succ_iff_lt_or_eq.mp hj with h1 | h1
  · have := h.1 j h1; omega
  · rw [h1]; exact Int.le_refl _, .inr ⟨Nat.lt_succ_self i, rfl⟩⟩
theorem top_n {ts : List T3} {os : List Nat} {i k : Nat} {m : Int} (h : Top ts os i m k) (g : ¬ m < wayAt ts os i) : Top ts os (i + 1) m k := ⟨fun j hj => by
  rcases Nat.lt_succ_iff_lt_or_eq.mp hj with h1 | h1
  · exact h.1 j h1
  · rw [h1]; omega, h.2.imp id fun h => ⟨Nat.lt_succ_of_lt h.1, h.2⟩⟩
theorem split_at {os : List Nat} {j k : Nat} (h : os[j]? = some k) : os = os.take j ++ k :: os.drop (j + 1) := by
  obtain ⟨hj, e⟩ := List.getElem?_eq_some_iff.mp h
  have e2 : os.drop j = k :: os.drop (j + 1) := by rw [List.drop_eq_getElem_cons hj, e]
  rw [← e2, List.take_append_drop]
theorem way_at {ts : List T3} {os : List Nat} {j k : Nat} (h : os[j]? = some k) : wayAt ts os j = pth (sq ts (os.take j)) (ts.getD k (0, 0, 0)) (sq ts (os.drop (j + 1))) := by
  have e : os.getD j 0 = k := by rw [List.getD_eq_getElem?_getD, h]; rfl
  unfold wayAt
  rw [e]
/-- at the end the longest is when the order is done -/
theorem top_end {ts : List T3} {os : List Nat} {m : Int} {k : Nat} (hn : ∀ t ∈ ts, Nn t) (hp : os.Perm (List.range ts.length)) (h : Top ts os os.length m k) (h0 : os ≠ []) : k < os.length ∧ m = wayAt ts os k ∧ m = dn (sq ts os) := by
  have nn := sq_nn hn (perm_lt hp)
  have l0 : 0 < os.length := by
    cases os with
    | nil => exact absurd rfl h0
    | cons x r => simp
  have wn : ∀ j, j < os.length → 0 ≤ wayAt ts os j := fun j hj => by
    have e := List.getElem?_eq_getElem hj
    rw [way_at e]
    have s1 : ∀ t ∈ sq ts (os.take j), Nn t := sq_nn hn fun x hx => perm_lt hp x (List.mem_of_mem_take hx)
    have s2 : ∀ t ∈ sq ts (os.drop (j + 1)), Nn t := sq_nn hn fun x hx => perm_lt hp x (List.mem_of_mem_drop hx)
    have tn := hn _ (List.mem_of_getElem? (getD_at (perm_lt hp _ (List.getElem_mem hj))))
    have a1 := sa_nn s1
    have a2 := sb_nn s2
    have b1 := tn.1
    have b2 := tn.2.1
    have b3 := tn.2.2
    unfold pth
    omega
  have key : k < os.length ∧ m = wayAt ts os k := by
    rcases h.2 with ⟨rfl, rfl⟩ | h2
    · have a1 := h.1 0 l0
      have a2 := wn 0 l0
      exact ⟨l0, by omega⟩
    · exact h2
  refine ⟨key.1, key.2, ?_⟩
  rw [dn_ld nn]
  have e := List.getElem?_eq_getElem key.1
  refine Int.le_antisymm ?_ (ld_le.mpr ⟨by rw [key.2]; exact wn k key.1, fun p t r hs => ?_⟩)
  · rw [key.2, way_at e]
    refine pth_le_ld ?_
    have z := congrArg (sq ts) (split_at e)
    rw [sq_app] at z
    exact z
  · have hl : p.length < os.length := by
      have := congrArg List.length hs
      rw [sq_len, List.length_append, List.length_cons] at this
      omega
    have ej := List.getElem?_eq_getElem hl
    have z := congrArg (sq ts) (split_at ej)
    rw [sq_app, hs] at z
    have hlen : p.length = (sq ts (os.take p.length)).length := by rw [sq_len, List.length_take]; omega
    obtain ⟨z1, z2⟩ := List.append_inj z hlen
    obtain ⟨z3, z4⟩ := List.cons.inj (show t :: r = ts.getD os[p.length] (0, 0, 0) :: sq ts (os.drop (p.length + 1)) from z2)
    have := h.1 p.length hl
    rw [way_at ej, ← z1, ← z3, ← z4] at this
    exact this
/-- the bar that bar_of tells -/
theorem bar_at {ts : List T3} {os : List Nat} {k j : Nat} {ap : List Int} (hn : ∀ t ∈ ts, Nn t) (hB : Best ts os) (h : os[k]? = some j) (e : wayAt ts os k = dn (sq ts os)) (hs : ap.Pairwise (· ≤ ·)) :
    ((ts.getD j (0, 0, 0)).1 ≤ (ts.getD j (0, 0, 0)).2.2 → ap.Perm (zs (os.take k)) → wv ts 1 ap ((ts.getD j (0, 0, 0)).1 + (ts.getD j (0, 0, 0)).2.1) = some (dn (sq ts os))) ∧
    (¬ (ts.getD j (0, 0, 0)).1 ≤ (ts.getD j (0, 0, 0)).2.2 → ap.Perm (zs (os.drop (k + 1))) → wv ts 2 ap ((ts.getD j (0, 0, 0)).2.2 + (ts.getD j (0, 0, 0)).2.1) = some (dn (sq ts os))) := by
  obtain ⟨hP, qs, ss, eo, h1, h2, h3, h4⟩ := hB
  have sp := split_at h
  have mem : j ∈ qs ++ ss := by rw [← eo]; exact List.mem_of_getElem? h
  have P2 : (os.take k ++ j :: os.drop (k + 1)).Perm (List.range ts.length) := by rw [← sp]; exact hP
  have E2 : os.take k ++ j :: os.drop (k + 1) = qs ++ ss := by rw [← sp]; exact eo
  rw [way_at h] at e
  refine ⟨fun c hp => ?_, fun c hp => ?_⟩
  · have kq : j ∈ qs := by
      rcases List.mem_append.mp mem with m | m
      · exact m
      · have := h2 j m; omega
    rw [← e]
    exact best_bar1 hn P2 E2 h1 (fun k hk => Int.le_of_lt (h2 k hk)) h3 kq hp hs
  · have ks : j ∈ ss := by
      rcases List.mem_append.mp mem with m | m
      · exact absurd (h1 j m) c
      · exact m
    rw [← e]
    exact best_bar2 hn P2 E2 h1 (fun k hk => Int.le_of_lt (h2 k hk)) h4 ks hp hs
end Bp
/-! Benchpair: when the soonest order is done. -/
namespace Bp
/-- v is when some order is done, and some bar's worth -/
def Opt (ts : List T3) (v : Int) : Prop := ∃ os b ap l, os.Perm (List.range ts.length) ∧ wv ts b ap l = some v ∧ v = dn (sq ts os)
theorem Opt.uniq {ts : List T3} {v v' : Int} (hn : ∀ t ∈ ts, Nn t) (h : Opt ts v) (h' : Opt ts v') : v = v' := by
  obtain ⟨os, b, ap, l, h1, h2, h3⟩ := h
  obtain ⟨os', b', ap', l', k1, k2, k3⟩ := h'
  have a1 := bar_le hn k1 h2
  have a2 := bar_le hn h1 k2
  omega
theorem top_ex (ts : List T3) (os : List Nat) : ∀ i, ∃ m k, Top ts os i m k
  | 0 => ⟨0, 0, top_0 ts os⟩
  | i + 1 => by
    obtain ⟨m, k, h⟩ := top_ex ts os i
    by_cases g : m < wayAt ts os i
    · exact ⟨_, _, top_y h g⟩
    · exact ⟨_, _, top_n h g⟩
theorem sort_ex (l : List Int) : ∃ ap : List Int, ap.Perm l ∧ ap.Pairwise (· ≤ ·) := by
  refine ⟨l.mergeSort (fun a b => decide (a ≤ b)), List.mergeSort_perm l _, ?_⟩
  have h := List.pairwise_mergeSort (le := fun a b : Int => decide (a ≤ b)) (fun a b c h1 h2 => by simp at h1 h2 ⊢; omega) (fun a b => by simp; omega) l
  exact h.imp fun h => of_decide_eq_true h
theorem best_opt {ts : List T3} {os : List Nat} (hn : ∀ t ∈ ts, Nn t) (hB : Best ts os) : Opt ts (dn (sq ts os)) := by
  have hP := hB.1
  by_cases e : os = []
  · subst e
    have t0 : ts = [] := List.eq_nil_of_length_eq_zero (perm_len hP).symm
    subst t0
    exact ⟨[], 1, [], 0, hP, rfl, rfl⟩
  · obtain ⟨m, k, h⟩ := top_ex ts os os.length
    obtain ⟨k1, k2, k3⟩ := top_end hn hP h e
    have ej := List.getElem?_eq_getElem k1
    by_cases c : (ts.getD os[k] (0, 0, 0)).1 ≤ (ts.getD os[k] (0, 0, 0)).2.2
    · obtain ⟨ap, p1, p2⟩ := sort_ex (zs (os.take k))
      exact ⟨os, 1, ap, _, hP, (bar_at hn hB ej (k2.symm.trans k3) p2).1 c p1, rfl⟩
    · obtain ⟨ap, p1, p2⟩ := sort_ex (zs (os.drop (k + 1)))
      exact ⟨os, 2, ap, _, hP, (bar_at hn hB ej (k2.symm.trans k3) p2).2 c p1, rfl⟩
theorem opt_nil {v : Int} (h : Opt [] v) : v = 0 := by
  obtain ⟨os, b, ap, l, h1, h2, h3⟩ := h
  have e : os = [] := List.eq_nil_of_length_eq_zero (perm_len h1)
  subst e
  exact h3
theorem opt_nn {ts : List T3} {v : Int} (hn : ∀ t ∈ ts, Nn t) (h : Opt ts v) : 0 ≤ v := by
  obtain ⟨os, b, ap, l, h1, h2, h3⟩ := h
  exact wv_nn hn h2
theorem sa_le {M : Int} (hM : 0 ≤ M) : ∀ l : List T3, (∀ t ∈ l, t.1 ≤ M) → sa l ≤ M * l.length
  | [], _ => by simp [sa]
  | t :: l, h => by
    have h1 := h t List.mem_cons_self
    have h2 := sa_le hM l fun u hu => h u (List.mem_cons_of_mem t hu)
    rw [sa, List.length_cons, Int.natCast_add, Int.mul_add]
    omega
theorem sb_le {M : Int} (hM : 0 ≤ M) : ∀ l : List T3, (∀ t ∈ l, t.2.2 ≤ M) → sb l ≤ M * l.length
  | [], _ => by simp [sb]
  | t :: l, h => by
    have h1 := h t List.mem_cons_self
    have h2 := sb_le hM l fun u hu => h u (List.mem_cons_of_mem t hu)
    rw [sb, List.length_cons, Int.natCast_add, Int.mul_add]
    omega
/-- no order is done later than the lengths allow -/
theorem ld_bound {M : Int} (hM : 0 ≤ M) {l : List T3} (h : ∀ t ∈ l, t.1 ≤ M ∧ t.2.1 ≤ M ∧ t.2.2 ≤ M) : ld l ≤ M * (l.length + 2) := by
  refine ld_le.mpr ⟨Int.mul_nonneg hM (by omega), fun p t r e => ?_⟩
  subst e
  have h1 := sa_le hM p fun u hu => (h u (by simp [hu])).1
  have h2 := sb_le hM r fun u hu => (h u (by simp [hu])).2.2
  have h3 := h t (by simp)
  unfold pth
  rw [List.length_append, List.length_cons]
  have e : M * (((p.length + (r.length + 1) : Nat) : Int) + 2) = M * p.length + M * r.length + M + M + M := by
    rw [show (((p.length + (r.length + 1) : Nat) : Int) + 2) = (p.length : Int) + r.length + 1 + 1 + 1 by omega]
    rw [Int.mul_add, Int.mul_add, Int.mul_add, Int.mul_add, Int.mul_one]
  rw [e]
  omega
end Bp
/-! Benchpair: things written and read, sign by sign. -/
namespace Bp
open PySem PySem.NumText
def dig (c : Nat) : Bool := decide (48 ≤ c) && decide (c ≤ 57)
/-- a number as it is written -/
def numOk (w : List Nat) : Bool := decide (1 ≤ w.length) && decide (w.length ≤ 60) && w.all dig && !(decide (w.head? = some 48) && decide (w ≠ [48]))
def num? (w : List Nat) : Option Int := if numOk w = true then some ((digitsVal w : Nat) : Int) else none
def three? : List (List Nat) → Option T3
  | [a, b, c] => (match num? a, num? b, num? c with
    | some x, some y, some z => some (x, y, z)
    | _, _, _ => none)
  | _ => none
def words? : List (List Nat) → Option (List T3)
  | [] => some []
  | w :: r => (match three? (TL.spl [47] 0 [] w), words? r with
    | some t, some ts => some (t :: ts)
    | _, _ => none)
/-- the things that a text tells -/
def prs (a : List Nat) : Option (List T3) := if a = [45] then some [] else words? (TL.spl [32] 0 [] a)
def wnum (i : Int) : List Nat := TL.numL i.toNat
def wthg (t : T3) : List Nat := TL.joinL [47] [wnum t.1, wnum t.2.1, wnum t.2.2]
/-- the text of things -/
def wtx (ts : List T3) : List Nat := if ts = [] then [45] else TL.joinL [32] (ts.map wthg)
theorem pre_one (c x : Nat) (r : List Nat) : TL.pre [c] (x :: r) = decide (x = c) := by
  unfold TL.pre
  show ([x] == [c]) = _
  by_cases h : x = c
  · subst h; simp
  · simp [h]
theorem spl_ne (c : Nat) : ∀ (a acc : List Nat), TL.spl [c] 0 acc a ≠ []
  | [], acc => by simp [TL.spl]
  | x :: r, acc => by
    unfold TL.spl
    split
    · simp
    · exact spl_ne c r _
theorem spl_len (c : Nat) : ∀ (a acc : List Nat), (TL.spl [c] 0 acc a).length ≤ a.length + 1
  | [], acc => by simp [TL.spl]
  | x :: r, acc => by
    unfold TL.spl
    split
    · have := spl_len c r []
      rw [List.length_cons, List.length_cons]
      exact Nat.succ_le_succ this
    · have := spl_len c r (acc ++ [x])
      rw [List.length_cons]
      omega
theorem joinL_cons (c : Nat) (p : List Nat) {L : List (List Nat)} (h : L ≠ []) : TL.joinL [c] (p :: L) = p ++ (c :: TL.joinL [c] L) := by
  cases L with
  | nil => exact absurd rfl h
  | cons q r => rfl
theorem join_spl (c : Nat) : ∀ (a acc : List Nat), TL.joinL [c] (TL.spl [c] 0 acc a) = acc ++ a
  | [], acc => by simp [TL.spl, TL.joinL]
  | x :: r, acc => by
    unfold TL.spl
    rw [pre_one]
    by_cases h : x = c
    · rw [if_pos (decide_eq_true h), show [c].length - 1 = 0 from rfl, joinL_cons c acc (spl_ne c r []), join_spl c r []]
      rw [h]; rfl
    · rw [if_neg (by rw [decide_eq_false h]; decide), join_spl c r (acc ++ [x])]
      simp
theorem dv_lt : ∀ (cs : List Nat) (a : Nat), (∀ c ∈ cs, c ≤ 57) → cs.foldl (fun acc c => acc * 10 + (c - 48)) a < (a + 1) * 10 ^ cs.length
  | [], a, _ => by simp
  | c :: cs, a, h => by
    have ih := dv_lt cs (a * 10 + (c - 48)) fun d hd => h d (List.mem_cons_of_mem c hd)
    have hc := h c List.mem_cons_self
    rw [List.foldl_cons, List.length_cons, Nat.pow_succ]
    refine Nat.lt_of_lt_of_le ih ?_
    have : a * 10 + (c - 48) + 1 ≤ (a + 1) * 10 := by omega
    calc (a * 10 + (c - 48) + 1) * 10 ^ cs.length ≤ (a + 1) * 10 * 10 ^ cs.length := Nat.mul_le_mul_right _ this
      _ = (a + 1) * (10 ^ cs.length * 10) := by rw [Nat.mul_assoc, Nat.mul_comm 10]
theorem chr_back : ∀ c : Fin 128, (Char.ofNat c.val).toNat = c.val := by decide
theorem numOk_all {w : List Nat} (h : numOk w = true) : 1 ≤ w.length ∧ w.length ≤ 60 ∧ (∀ c ∈ w, 48 ≤ c ∧ c ≤ 57) ∧ ¬ (w.head? = some 48 ∧ w ≠ [48]) := by
  unfold numOk at h
  rw [Bool.and_eq_true, Bool.and_eq_true, Bool.and_eq_true, decide_eq_true_eq, decide_eq_true_eq, List.all_eq_true] at h
  obtain ⟨⟨⟨h1, h2⟩, h3⟩, h4⟩ := h
  refine ⟨h1, h2, fun c hc => ?_, fun ⟨e1, e2⟩ => ?_⟩
  · have := h3 c hc
    unfold dig at this
    rw [Bool.and_eq_true, decide_eq_true_eq, decide_eq_true_eq] at this
    exact this
  · rw [decide_eq_true e1, decide_eq_true e2] at h4
    cases h4
theorem num_back {w : List Nat} {z : Int} (h : num? w = some z) : 0 ≤ z ∧ z < 10 ^ 60 ∧ wnum z = w := by
  unfold num? at h
  by_cases k : numOk w = true
  · rw [if_pos k] at h
    have e := Option.some.inj h
    subst e
    obtain ⟨h1, h2, h3, h4⟩ := numOk_all k
    refine ⟨Int.natCast_nonneg _, ?_, ?_⟩
    · have l := dv_lt w 0 fun c hc => (h3 c hc).2
      have l2 : digitsVal w < 10 ^ 60 := by
        refine Nat.lt_of_lt_of_le (show digitsVal w < (0 + 1) * 10 ^ w.length from l) ?_
        rw [Nat.zero_add, Nat.one_mul]
        exact Nat.pow_le_pow_right (by decide) h2
      exact_mod_cast l2
    · unfold wnum TL.numL
      rw [Int.toNat_natCast, toDigits_digitsVal (w.length - 1) w (by omega) h3 ?_, List.map_map]
      · refine (List.map_congr_left fun c hc => ?_).trans (List.map_id w)
        have := (h3 c hc).2
        exact chr_back ⟨c, by omega⟩
      · match w, h1, h4 with
        | [c], _, _ => exact .inl rfl
        | c :: d :: r, _, h4 =>
          refine .inr ⟨c, d :: r, rfl, ?_⟩
          have := (h3 c List.mem_cons_self).1
          by_cases e : c = 48
          · exact absurd ⟨by rw [e]; rfl, by simp⟩ h4
          · omega
  · rw [if_neg k] at h
    cases h
def Small (t : T3) : Prop := Nn t ∧ t.1 < 10 ^ 60 ∧ t.2.1 < 10 ^ 60 ∧ t.2.2 < 10 ^ 60
theorem three_back {ps : List (List Nat)} {t : T3} (h : three? ps = some t) : Small t ∧ wthg t = TL.joinL [47] ps := by
  unfold three? at h
  split at h
  · rename_i a b c
    split at h
    · rename_i x y z hx hy hz
      have e := Option.some.inj h
      subst e
      obtain ⟨x1, x2, x3⟩ := num_back hx
      obtain ⟨y1, y2, y3⟩ := num_back hy
      obtain ⟨z1, z2, z3⟩ := num_back hz
      refine ⟨⟨⟨x1, y1, z1⟩, x2, y2, z2⟩, ?_⟩
      unfold wthg
      rw [x3, y3, z3]
    · cases h
  · cases h
theorem words_back : ∀ {ws : List (List Nat)} {ts : List T3}, words? ws = some ts → (∀ t ∈ ts, Small t) ∧ ts.map wthg = ws
  | [], ts, h => by
    have e := Option.some.inj h
    subst e
    exact ⟨(fun t ht => nomatch ht), rfl⟩
  | w :: r, ts, h => by
    unfold words? at h
    split at h
    · rename_i t us h1 h2
      have e := Option.some.inj h
      subst e
      obtain ⟨k1, k2⟩ := words_back h2
      obtain ⟨k3, k4⟩ := three_back h1
      refine ⟨fun u hu => ?_, ?_⟩
      · rcases List.mem_cons.mp hu with rfl | hu
        · exact k3
        · exact k1 u hu
      · rw [List.map_cons, k2, k4, join_spl]
        rfl
    · cases h
/-- WHAT IS READ IS WRITTEN SO -/
theorem prs_back {a : List Nat} {ts : List T3} (h : prs a = some ts) : (∀ t ∈ ts, Small t) ∧ wtx ts = a ∧ ts.length ≤ a.length + 1 := by
  unfold prs at h
  by_cases e : a = [45]
  · rw [if_pos e] at h
    have e2 := Option.some.inj h
    subst e2
    exact ⟨(fun t ht => nomatch ht), e.symm, Nat.zero_le _⟩
  · rw [if_neg e] at h
    obtain ⟨k1, k2⟩ := words_back h
    have ne : ts ≠ [] := fun z => by
      rw [z] at k2
      exact spl_ne 32 a [] k2.symm
    refine ⟨k1, ?_, ?_⟩
    · unfold wtx
      rw [if_neg ne, k2, join_spl]
      rfl
    · have l := spl_len 32 a []
      rw [← k2, List.length_map] at l
      exact l
end Bp
/-! Benchpair: short words over the hand layer. -/
namespace Bp
open PySem PySem.Spec PyProof.Rows L2
/-- the built-in names that the text leaves as they are -/
structure Blt (mg : Str → Option Value) : Prop where
  isinstance : mg "isinstance" = none
  int : mg "int" = none
  bool : mg "bool" = none
  list : mg "list" = none
  tuple : mg "tuple" = none
  str : mg "str" = none
  len : mg "len" = none
  all : mg "all" = none
  any : mg "any" = none
  sum : mg "sum" = none
  max : mg "max" = none
  sorted : mg "sorted" = none
  range : mg "range" = none
  enumerate : mg "enumerate" = none
  zip : mg "zip" = none
  set : mg "set" = none
  ValueError : mg "ValueError" = none
abbrev FnP (K : PySem.W.Frag) (x : Str) (st : Stmt) (f : Addr) (fd : FuncData) : Prop := FunD K x x (defArgs st) (defBody st) (defScope st) [] [] f fd
/-- a def of the text, under its own name -/
structure Def (K : PySem.W.Frag) (mg : Str → Option Value) (x : Str) (st : Stmt) (ps : List Str) : Prop where
  ex : ∃ (f : Addr) (fd : FuncData), FnP K x st f fd ∧ mg x = some (.ref f) ∧ Binds K fd ps []
/-- a def that may be called, and what it promises -/
structure CalX (P : Program) (w : World) (K : PySem.W.Frag) (mg : Str → Option Value) (base : Heap) (CX : CXT) (k : Nat) (x : Str) (sp : Sp) : Prop where
  ex : ∃ (f : Addr) (fd : FuncData) (ps : List Str), FnOk P w K mg base CX k f fd ps sp ∧ mg x = some (.ref f) ∧ PySem.W.keepIn K (.ref f) = true ∧ Binds K fd ps []
abbrev Cal (P : Program) (w : World) (K : PySem.W.Frag) (mg : Str → Option Value) (base : Heap) (k : Nat) (x : Str) (sp : Sp) : Prop := CalX P w K mg base CX0 k x sp
section
variable {P : Program} {w : World} {K : PySem.W.Frag} {mg : Str → Option Value} {base : Heap} {x : Str} {st : Stmt} {ps N : List Str} {k : Nat} {sp : Sp}
theorem Def.cal (D : Def K mg x st ps) (S : FnScope N ps (defScope st)) (len : ∀ vs H Q E, sp vs H Q E → vs.length = ps.length)
    (body : ∀ (f : Addr) (cdv : Value) (A : Around) (outer : List Env) (s : Shared) (H : Hp) (vs : List V) (Q : VK) (E : XK), Room k (A.deeper (envOfC x (defScope st) s.heap.objs.size f cdv)) → sp vs H Q E →
      ∃ t, PSs (cxOf CX0 P w K mg base N x (defScope st) f cdv A outer s H E).nox (defBody st) t ∧ t { nx := fun _ H' => Q .non H', rt := Q } (start N vs) H) : Cal P w K mg base (k + 1) x sp := by
  obtain ⟨f, fd, F, g, b⟩ := D.ex
  refine ⟨f, fd, ps, F.ok S len fun cdv A outer s H vs Q E hr h => ?_, g, F.kp, b⟩
  obtain ⟨t, h1, h2⟩ := body f cdv A outer s H vs Q E hr h
  exact ⟨t, h1.nox, h2⟩
/-- the law itself -/
theorem fn_law {f : Addr} {fd : FuncData} (F : FnP K x st f fd) (S : FnScope N ps (defScope st)) (len : ∀ vs H Q E, sp vs H Q E → vs.length = ps.length)
    (body : ∀ (cdv : Value) (A : Around) (outer : List Env) (s : Shared) (H : Hp) (vs : List V) (Q : VK) (E : XK), Room k (A.deeper (envOfC x (defScope st) s.heap.objs.size f cdv)) → sp vs H Q E →
      ∃ t, PSs (cxOf CX0 P w K mg base N x (defScope st) f cdv A outer s H E).nox (defBody st) t ∧ t { nx := fun _ H' => Q .non H', rt := Q } (start N vs) H) : FnOk P w K mg base CX0 (k + 1) f fd ps sp :=
  F.ok S len fun cdv A outer s H vs Q E hr h => let ⟨t, h1, h2⟩ := body cdv A outer s H vs Q E hr h; ⟨t, h1.nox, h2⟩
/-- .. for one that may raise -/
theorem Def.calX (D : Def K mg x st ps) (S : FnScope N ps (defScope st)) (len : ∀ vs H Q E, sp vs H Q E → vs.length = ps.length)
    (body : ∀ (f : Addr) (cdv : Value) (A : Around) (outer : List Env) (s : Shared) (H : Hp) (vs : List V) (Q : VK) (E : XK), Room k (A.deeper (envOfC x (defScope st) s.heap.objs.size f cdv)) → sp vs H Q E →
      ∃ t, PSs (cxOf (L2.CX P w) P w K mg base N x (defScope st) f cdv A outer s H E) (defBody st) t ∧ t { nx := fun _ H' => Q .non H', rt := Q } (start N vs) H) : CalX P w K mg base (L2.CX P w) (k + 1) x sp := by
  obtain ⟨f, fd, F, g, b⟩ := D.ex
  exact ⟨f, fd, ps, F.ok S len fun cdv A outer s H vs Q E hr h => body f cdv A outer s H vs Q E hr h, g, F.kp, b⟩
end
/-- f(e, ..) by its promise -/
def tCal (sp : Sp) (t : TA) : TE := fun σ H Q => t σ H fun vs H1 => sp vs H1 Q E0
theorem tCal_eq (sp : Sp) (t : TA) : tCall sp [] E0 t = tCal sp t := by
  funext σ H Q
  unfold tCall tCal
  simp only [List.append_nil]
section
variable {X : Cx} {k j : Nat} {x : Str} {sp : Sp} {p pos : Pos} {e : Expr} {es : List Expr} {t : TA}
theorem pe_cal (c : Cal X.prog X.w X.K X.mg X.base k x sp) (hr : Room j X.A) (hk : k ≤ j) (hg : Gl X x) (ha : PA X (e :: es) t) (hdb : (x == ("__debug__" : Str)) = false := by decide)
    (h1 : starEach (e :: es) X.env = (false, eval e X.env) :: starEach es X.env := by rfl) (h2 : (backTo pos (starEach es X.env)).any (·.1) = false := by rfl) : PE X (.Call (.Name x p) (e :: es) [] pos) (tCal sp t) := by
  obtain ⟨f, fd, ps, F, hm, kp, b⟩ := c.ex
  rw [← tCal_eq]
  exact pe_call F (hr.mono hk) hg hm kp b .nil pass0 ha hdb h1 h2
theorem pe_cal0 (c : Cal X.prog X.w X.K X.mg X.base k x sp) (hr : Room j X.A) (hk : k ≤ j) (hg : Gl X x) (hdb : (x == ("__debug__" : Str)) = false := by decide) : PE X (.Call (.Name x p) [] [] pos) (tCal sp tNil) := by
  obtain ⟨f, fd, ps, F, hm, kp, b⟩ := c.ex
  rw [← tCal_eq]
  exact pe_call0 F (hr.mono hk) hg hm kp b .nil pass0 hdb
theorem pe_calS {E : L2.St → XK} (c : CalX X.prog X.w X.K X.mg X.base (L2.CX X.prog X.w) k x sp) (hr : Room j X.A) (hk : k ≤ j) (hg : Gl X x) (hx : ∀ σ, PassesAt (L2.CX X.prog X.w) X σ (E σ)) (ha : PA X (e :: es) t) (hdb : (x == ("__debug__" : Str)) = false := by decide)
    (h1 : starEach (e :: es) X.env = (false, eval e X.env) :: starEach es X.env := by rfl) (h2 : (backTo pos (starEach es X.env)).any (·.1) = false := by rfl) : PE X (.Call (.Name x p) (e :: es) [] pos) (tCallS sp E t) := by
  obtain ⟨f, fd, ps, F, hm, kp, b⟩ := c.ex
  exact pe_callS F (hr.mono hk) hg hm kp b hx ha hdb h1 h2
end
/-! ### heaps -/
theorem Same.upd {H : Hp} {p : Addr} {o : HO} (h : H p = none) : Same H (upd H p o) := fun a u e => by
  rw [upd_ne (ne_of_none e h)]
  exact e
/-- what H does not know may change -/
theorem Same.mut {H H' : Hp} {p : Addr} {o : HO} (e : Same H H') (h : H p = none) : Same H (L2.upd H' p o) := fun a u ha => by
  rw [upd_ne (ne_of_none ha h)]
  exact e a u ha
theorem Same.t {K : PySem.W.Frag} {H H' : Hp} {a : Addr} {xs : List V} (e : Same H H') (h : SqT K H a xs) : SqT K H' a xs := by
  rcases h with (h | ⟨o, h⟩) | h
  · exact .inl (.inl (e _ _ h))
  · exact .inl (.inr ⟨o, e _ _ h⟩)
  · exact .inr h
theorem sz_le {n : Nat} (h : n ≤ 100000) : n ≤ sizeLine := Nat.le_trans h (by decide)
theorem sz_lt {n : Nat} (h : n < 100000) : n < sizeLine := Nat.lt_of_lt_of_le h (by decide)
/-! ### readings, one step each -/
section
variable {K : PySem.W.Frag} {σ : L2.St} {H : Hp} {Q : VK} {D : Ends} {t u : TS} {te ta tb tc : TE} {tA tB' : TT} {g : TG} {gs : TGs} {x y z v : V} {i j n : Nat} {a p : Addr} {xs ys : List V} {ts : TA} {r : R2} {sp : Sp} {QT : Bool → Hp → Prop} {QA : List V → Hp → Prop} {QS : L2.St → Hp → Prop}
theorem i_seq (h : t { D with nx := u D } σ H) : tSeq t u D σ H := h
theorem i_next (h : D.nx σ H) : tNext D σ H := h
theorem i_asg (h : te σ H fun x H1 => g x σ H1 D.nx) : tAsg te g D σ H := h
theorem i_ret (h : te σ H D.rt) : tRet te D σ H := h
theorem i_drop (h : te σ H fun _ H1 => D.nx σ H1) : tDrop te D σ H := h
theorem i_ifS (h : tA σ H fun b H1 => if b = true then t D σ H1 else u D σ H1) : tIfS tA t u D σ H := h
theorem i_if (h : tA σ H fun c H1 => if c = true then ta σ H1 Q else tb σ H1 Q) : tIf tA ta tb σ H Q := h
theorem i_par (h : ts σ H fun vs H1 => ∃ v w, vs = [v, w] ∧ D.nx ((σ.set i (some v)).set j (some w)) H1) : tPar i j ts D σ H := h
theorem i_par3 {l : Nat} (h : ts σ H fun vs H1 => ∃ u v w, vs = [u, v, w] ∧ D.nx (((σ.set i (some u)).set j (some v)).set l (some w)) H1) : tPar3 i j l ts D σ H := h
theorem i_par_e {R : V → V → Prop} (h : R x y) : ∃ v w, [x, y] = [v, w] ∧ R v w := ⟨x, y, rfl, h⟩
theorem i_par3_e {R : V → V → V → Prop} (h : R x y z) : ∃ u v w, [x, y, z] = [u, v, w] ∧ R u v w := ⟨x, y, z, rfl, h⟩
theorem i_nm (h : QS (σ.set i (some v)) H) : gName i v σ H QS := h
theorem i_gtup (hq : SqT K H a xs) (hl : xs.length = n) (h : gs xs σ H QS) : gTup K n gs (.ref a) σ H QS := ⟨a, xs, rfl, hq, hl, h⟩
theorem i_gcons (h : g v σ H fun σ' H' => gs xs σ' H' QS) : gCons g gs (v :: xs) σ H QS := ⟨v, xs, rfl, h⟩
theorem i_gnil (h : QS σ H) : gNil [] σ H QS := ⟨rfl, h⟩
theorem i_gsub {s : TSet} (h : ta σ H fun o H1 => tb σ H1 fun i H2 => s o i v H2 fun H3 => QS σ H3) : gSub ta tb s v σ H QS := h
theorem i_var (e : σ[i]? = some (some v)) (h : Q v H) : tVar i σ H Q := ⟨v, e, h⟩
theorem i_var0 (h : ∃ v, σ[i]? = some (some v) ∧ Q v H) : tVar i σ H Q := h
theorem i_c (h : Q v H) : tC v σ H Q := h
theorem i_op (h : ta σ H fun x H1 => tb σ H1 fun y H2 => r x y H2 Q) : tOp r ta tb σ H Q := h
theorem i_un {rr : V → Hp → VK → Prop} (h : ta σ H fun x H1 => rr x H1 Q) : tUn rr ta σ H Q := h
theorem i_I0 {f : Int → Int → V} {m l : Int} (h : Q (f m l) H) : rI0 f (.int m) (.int l) H Q := ⟨m, l, rfl, rfl, h⟩
theorem i_I {C : Int → Int → Prop} {f : Int → Int → V} {m l : Int} (c : C m l) (h : Q (f m l) H) : rI C f (.int m) (.int l) H Q := ⟨m, l, rfl, rfl, c, h⟩
theorem i_U {f : Int → V} {m : Int} (h : Q (f m) H) : rU f (.int m) H Q := ⟨m, rfl, h⟩
theorem i_eq (s : scal x y = true) (h : Q (.bl (decide (x = y))) H) : rEq x y H Q := ⟨s, h⟩
theorem i_ne (s : scal x y = true) (h : Q (.bl (!decide (x = y))) H) : rNe x y H Q := ⟨s, h⟩
theorem i_ipI {f : Int → Int → Int} {m l : Int} (h : Q (.int (f m l)) H) : ipI f (.int m) (.int l) H Q := ⟨m, l, rfl, rfl, h⟩
theorem i_aug {ti : TIp} (e : σ[i]? = some (some x)) (h : te σ H fun y H1 => ti x y H1 fun z H2 => D.nx (σ.set i (some z)) H2) : tAug i te ti D σ H := ⟨x, e, h⟩
theorem i_aug0 {ti : TIp} (h : ∃ x, σ[i]? = some (some x) ∧ te σ H fun y H1 => ti x y H1 fun z H2 => D.nx (σ.set i (some z)) H2) : tAug i te ti D σ H := h
theorem i_cb {rr : List V → Hp → VK → Prop} (h : ts σ H fun vs H1 => rr vs H1 Q) : tCB rr ts σ H Q := h
theorem i_cal (h : ts σ H fun vs H1 => sp vs H1 Q E0) : tCal sp ts σ H Q := h
theorem i_calS {E : L2.St → XK} (h : ts σ H fun vs H1 => sp vs H1 Q (E σ)) : tCallS sp E ts σ H Q := h
theorem i_nil (h : QA [] H) : tNil σ H QA := h
theorem i_cons (h : ta σ H fun x H1 => ts σ H1 fun xs H2 => QA (x :: xs) H2) : tCons ta ts σ H QA := h
theorem i_test (h : te σ H fun x H' => ∃ k, x = .bl k ∧ QT k H') : tTest te σ H QT := h
theorem i_tB (h : te σ H fun x H' => ∃ k, x = .bl k ∧ QT k H') : tB te σ H QT := h
theorem i_bl {b : Bool} {R : Bool → Prop} (h : R b) : ∃ k, V.bl b = .bl k ∧ R k := ⟨b, rfl, h⟩
theorem i_not (h : tA σ H fun c H1 => QT (!c) H1) : tNot tA σ H QT := h
theorem i_and (h : tA σ H fun c H1 => if c = true then tB' σ H1 QT else QT false H1) : tAnd tA tB' σ H QT := h
theorem i_or (h : tA σ H fun c H1 => if c = true then QT true H1 else tB' σ H1 QT) : tOr tA tB' σ H QT := h
theorem i_andV (h : ta σ H fun x H1 => ∃ c, x = .bl c ∧ if c = true then tb σ H1 Q else Q (.bl false) H1) : tAndV ta tb σ H Q := h
theorem i_orV (h : ta σ H fun x H1 => ∃ c, x = .bl c ∧ if c = true then Q (.bl true) H1 else tb σ H1 Q) : tOrV ta tb σ H Q := h
theorem i_notV (h : ta σ H fun x H1 => ∃ c, x = .bl c ∧ Q (.bl (!c)) H1) : tNotV ta σ H Q := h
theorem i_chain {r' : R2} (h : ta σ H fun x H1 => tb σ H1 fun y H2 => r x y H2 fun z H3 => ∃ k, z = .bl k ∧ (if k = true then tc σ H3 fun w' H4 => r' y w' H4 Q else Q (.bl false) H3)) : tChain r r' ta tb tc σ H Q := h
theorem i_ifT {A B : Prop} (h : A) : if true = true then A else B := iteT h
theorem i_ifF {A B : Prop} (h : B) : if false = true then A else B := iteF h
theorem i_ifNT {A B : Prop} (h : B) : if (!true) = true then A else B := iteF h
theorem i_ifNF {A B : Prop} (h : A) : if (!false) = true then A else B := iteT h
theorem i_ite {b : Bool} {A B : Prop} (h1 : b = true → A) (h2 : b = false → B) : if b = true then A else B := by
  cases b with
  | true => exact iteT (h1 rfl)
  | false => exact iteF (h2 rfl)
theorem i_itd {c : Prop} [Decidable c] {A B : Prop} (h1 : c → A) (h2 : ¬ c → B) : if decide c = true then A else B := i_ite (fun e => h1 (of_decide_eq_true e)) (fun e => h2 (of_decide_eq_false e))
theorem i_itdn {c : Prop} [Decidable c] {A B : Prop} (h1 : ¬ c → A) (h2 : c → B) : if (!decide c) = true then A else B := i_ite (fun e => h1 (of_decide_eq_false (by simpa using e))) (fun e => h2 (of_decide_eq_true (by simpa using e)))
theorem i_pos {b : Bool} {A B : Prop} (hb : b = true) (h : A) : if b = true then A else B := by rw [if_pos hb]; exact h
theorem i_neg {b : Bool} {A B : Prop} (hb : b = false) (h : B) : if b = true then A else B := by rw [hb]; exact iteF h
/-- new objects -/
def kTup (Q : VK) : List V → Hp → Prop := fun xs H1 => xs.length ≤ sizeLine ∧ ∀ p, H1 p = none → Q (.ref p) (upd H1 p (.tup xs))
def kLst (Q : VK) : List V → Hp → Prop := fun xs H1 => xs.length ≤ sizeLine ∧ ∀ p, H1 p = none → Q (.ref p) (upd H1 p (.lst xs))
theorem i_tupn (h : ts σ H (kTup Q)) : tTup ts σ H Q := h
theorem i_lstn (h : ts σ H (kLst Q)) : tLst ts σ H Q := h
theorem i_new {o : HO} (h : ∀ p H', H p = none → Same H H' → H' p = some o → Q (.ref p) H') : ∀ p, H p = none → Q (.ref p) (upd H p o) := fun p hp => h p _ hp (Same.upd hp) upd_same
theorem i_tupk (hz : xs.length ≤ 100000) (h : ∀ p H', H p = none → Same H H' → H' p = some (.tup xs) → Q (.ref p) H') : kTup Q xs H := ⟨sz_le hz, i_new h⟩
theorem i_lstk (hz : xs.length ≤ 100000) (h : ∀ p H', H p = none → Same H H' → H' p = some (.lst xs) → Q (.ref p) H') : kLst Q xs H := ⟨sz_le hz, i_new h⟩
/-- reading lists and tuples -/
theorem i_ixL {m : Int} (hs : SqL K H p xs) (e : atI xs m = some v) (h : Q v H) : rIxL K (.ref p) (.int m) H Q := ⟨p, xs, m, v, rfl, rfl, hs, e, h⟩
theorem i_ixT {m : Int} (hs : SqT K H p xs) (e : atI xs m = some v) (h : Q v H) : rIxT K (.ref p) (.int m) H Q := ⟨p, xs, m, v, rfl, rfl, hs, e, h⟩
theorem i_bm {T : String} {rr : V → List V → Hp → VK → Prop} (h : ta σ H fun x H1 => tyV K T x H1 ∧ ts σ H1 fun ys H2 => rr x ys H2 Q) : tBM K T rr ta ts σ H Q := h
theorem i_bm0 {T : String} {rr : V → List V → Hp → VK → Prop} (h : ta σ H fun x H1 => tyV K T x H1 ∧ rr x [] H1 Q) : tBM0 K T rr ta σ H Q := h
theorem ty_lst (h : H p = some (.lst xs)) : tyV K "list" (.ref p) H := .inl ⟨rfl, xs, .inl (.inl h)⟩
theorem i_app (hp : H p = some (.lst xs)) (hz : xs.length < 100000) (h : Q .non (upd H p (.lst (xs ++ [v])))) : rAppend (.ref p) [v] H Q := ⟨p, xs, v, rfl, rfl, hp, sz_lt hz, h⟩
theorem i_setL {m : Int} {jj : Nat} {QH : Hp → Prop} (hp : H p = some (.lst xs)) (hj : ixN xs.length m = some jj) (h : QH (upd H p (.lst (xs.set jj v)))) : rSetL (.ref p) (.int m) v H QH := ⟨p, xs, m, jj, rfl, rfl, hp, hj, h⟩
theorem ixN_nat {m jj : Nat} (hj : jj < m) : ixN m (jj : Int) = some jj := by
  unfold ixN
  rw [if_pos (by omega), if_pos (by omega)]
  simp
theorem i_sl {rs : V → Option Int → Option Int → Hp → VK → Prop} {tl th : L2.St → Hp → (Option Int → Hp → Prop) → Prop} (h : ta σ H fun x H1 => tl σ H1 fun l H2 => th σ H2 fun u H3 => rs x l u H3 Q) : tSl rs ta tl th σ H Q := h
theorem i_noP {QO : Option Int → Hp → Prop} (h : QO none H) : tNoPart σ H QO := h
theorem i_part {QO : Option Int → Hp → Prop} (h : ta σ H fun x H1 => ∃ i, x = .int i ∧ QO (some i) H1) : tPart ta σ H QO := h
theorem i_int {m : Int} {R : Int → Prop} (h : R m) : ∃ i, V.int m = .int i ∧ R i := ⟨m, rfl, h⟩
end
/-! ### loops -/
section
variable {K : PySem.W.Frag} {σ : L2.St} {H : Hp} {D : Ends} {t : TS} {ta : TE} {g : TG} {a b : Addr} {xs ys : List V} {ts : TA} {wi : TI} {R : It → Hp → Prop}
theorem i_for (h : wi σ H fun J H1 => ∃ W : Nat → Nat → L2.St → Hp → Prop, (∃ m, W 0 m σ H1) ∧ ∀ i m σ H, W i m σ H →
  (J.stop i H ∧ D.nx σ H) ∨ (J.go i H ∧ ∃ N : L2.St → Hp → Prop, (∀ σ' H', N σ' H' → ∃ m', m' < m ∧ W (i + 1) m' σ' H') ∧ ∀ x H', J.yld i H x H' → g x σ H' fun σ2 H2 => t { D with nx := N, ct := N, bk := D.nx } σ2 H2)) : tFor wi g t D σ H := h
def kItl (K : PySem.W.Frag) (R : It → Hp → Prop) : V → Hp → Prop := fun x H1 => ∃ a, x = .ref a ∧ (∃ xs, SqL K H1 a xs) ∧ R (Itl K a) H1
def kItt (K : PySem.W.Frag) (R : It → Hp → Prop) : V → Hp → Prop := fun x H1 => ∃ a, x = .ref a ∧ (∃ xs, SqT K H1 a xs) ∧ R (Itt K a) H1
def kItr (R : It → Hp → Prop) : List V → Hp → Prop := fun vs H1 => ∃ j : Int, vs = [.int j] ∧ -(2 ^ 62) ≤ j ∧ j < 2 ^ 62 ∧ R (Itr 0 j.toNat) H1
def kIte (K : PySem.W.Frag) (R : It → Hp → Prop) : List V → Hp → Prop := fun vs H1 => ∃ a xs, vs = [.ref a] ∧ SqL K H1 a xs ∧ R (Ite K a) H1
def kItz (K : PySem.W.Frag) (R : It → Hp → Prop) : List V → Hp → Prop := fun vs H1 => ∃ a b xs ys, vs = [.ref a, .ref b] ∧ SqL K H1 a xs ∧ SqL K H1 b ys ∧ R (Itz K a b) H1
theorem i_iList (h : ta σ H (kItl K R)) : iList K ta σ H R := h
theorem i_itl (hs : SqL K H a xs) (h : R (Itl K a) H) : kItl K R (.ref a) H := ⟨a, rfl, ⟨xs, hs⟩, h⟩
theorem i_iTup (h : ta σ H (kItt K R)) : iTup K ta σ H R := h
theorem i_itt (hs : SqT K H a xs) (h : R (Itt K a) H) : kItt K R (.ref a) H := ⟨a, rfl, ⟨xs, hs⟩, h⟩
theorem i_iRng1 (h : ts σ H (kItr R)) : iRng1 ts σ H R := h
theorem i_itr {m : Nat} {k : Int} (e : k = (m : Int)) (hm : m ≤ 100000) (h : R (Itr 0 m) H) : kItr R [.int k] H := by
  subst e
  exact ⟨(m : Int), rfl, by omega, by omega, h⟩
theorem i_iEnum (h : ts σ H (kIte K R)) : iEnum K ts σ H R := h
theorem i_itn (hs : SqL K H a xs) (h : R (Ite K a) H) : kIte K R [.ref a] H := ⟨a, xs, rfl, hs, h⟩
theorem i_iZip (h : ts σ H (kItz K R)) : iZip K ts σ H R := h
theorem i_itz (hs : SqL K H a xs) (hs' : SqL K H b ys) (h : R (Itz K a b) H) : kItz K R [.ref a, .ref b] H := ⟨a, b, xs, ys, rfl, hs, hs', h⟩
/-- for i, x in enumerate(xs) -/
theorem for_enum (Pv : Nat → L2.St → Hp → Prop) (h0 : Pv 0 σ H) (hl : ∀ i σ H, Pv i σ H → SqL K H a xs)
    (hs : ∀ (i : Nat) (x : V) (T : Addr) (σ : L2.St) (H H' : Hp), xs[i]? = some x → Pv i σ H → H T = none → Same H H' → H' = upd H T (.tup [.int (i : Nat), x]) → g (.ref T) σ H' fun σ2 H2 => t { D with nx := Pv (i + 1), ct := Pv (i + 1), bk := D.nx } σ2 H2)
    (hd : ∀ σ H, Pv xs.length σ H → D.nx σ H) : ∃ W : Nat → Nat → L2.St → Hp → Prop, (∃ m, W 0 m σ H) ∧ ∀ i m σ H, W i m σ H →
      ((Ite K a).stop i H ∧ D.nx σ H) ∨ ((Ite K a).go i H ∧ ∃ N : L2.St → Hp → Prop, (∀ σ' H', N σ' H' → ∃ m', m' < m ∧ W (i + 1) m' σ' H') ∧ ∀ v H', (Ite K a).yld i H v H' → g v σ H' fun σ2 H2 => t { D with nx := N, ct := N, bk := D.nx } σ2 H2) := by
  refine ⟨fun i m σ H => m = xs.length - i ∧ i ≤ xs.length ∧ Pv i σ H, ⟨xs.length, rfl, Nat.zero_le _, h0⟩, ?_⟩
  rintro i m σ H ⟨rfl, hi, p⟩
  have q := hl i σ H p
  by_cases hlt : i < xs.length
  · refine .inr ⟨⟨xs, xs[i], q, List.getElem?_eq_getElem hlt⟩, Pv (i + 1), fun σ' H' p' => ⟨xs.length - (i + 1), by omega, rfl, hlt, p'⟩, fun v H' y => ?_⟩
    obtain ⟨T, x, rfl, nT, rfl, fx⟩ := y
    exact hs i x T σ H _ (fx xs q) p nT (Same.upd nT) rfl
  · have e : i = xs.length := by omega
    subst e
    exact .inl ⟨⟨xs, q, Nat.le_refl _⟩, hd σ H p⟩
end
/-! ### comprehensions -/
section
variable {K : PySem.W.Frag} {σ : L2.St} {H H1 : Hp} {te : TE} {tt : TT} {g : TG} {a D : Addr} {xs : List V} {wi : TI} {vs : List Nat} {Q : VK} {Qd : Hp → Prop}
theorem i_lc (h : wi σ H fun J H1 => ∀ D, H1 D = none → ∃ W : Nat → Nat → Hp → Prop, (∃ m, W 0 m (upd H1 D (.lst []))) ∧ ∀ i m H, W i m H →
  (J.stop i H ∧ Q (.ref D) H) ∨ (J.go i H ∧ ∃ Nx : Hp → Prop, (∀ H', Nx H' → ∃ m', m' < m ∧ W (i + 1) m' H') ∧ ∀ x H', J.yld i H x H' → g x (wipe σ vs) H' fun σ2 H2 => wipe σ2 vs = wipe σ vs ∧ tt σ2 H2 fun b H3 =>
    if b = true then te σ2 H3 fun y H4 => ∃ acc, H4 D = some (.lst acc) ∧ acc.length < sizeLine ∧ Nx (upd H4 D (.lst (acc ++ [y]))) else Nx H3)) : tLc wi g tt te vs σ H Q := h
theorem take_snoc {α : Type} {l : List α} {i : Nat} {x : α} (h : l[i]? = some x) : l.take (i + 1) = l.take i ++ [x] := by
  rw [List.take_add_one, h]; rfl
/-- what is told of tuples stays -/
def SameT (K : PySem.W.Frag) (H H' : Hp) : Prop := ∀ p xs, SqT K H p xs → SqT K H' p xs
theorem smT {K : PySem.W.Frag} {H H' : Hp} (e : Same H H') : SameT K H H' := fun _ _ h => Same.t e h
theorem sameT_lst {K : PySem.W.Frag} {H : Hp} {D : Addr} {ys zs : List V} (h : H D = some (.lst ys)) : SameT K H (upd H D (.lst zs)) := fun p xs q => by
  rcases q with (q | ⟨o, q⟩) | q
  · exact .inl (.inl (by rw [upd_ne (ne_of q h (by intro z; cases z))]; exact q))
  · exact .inl (.inr ⟨o, by rw [upd_ne (ne_of q h (by intro z; cases z))]; exact q⟩)
  · exact .inr q
theorem i_yes {QT : Bool → Hp → Prop} (h : QT true H) : tYes σ H QT := h
/-- an iterator that yields xs, one by one, as long as ok holds -/
structure Sqn (J : It) (xs : List V) (ok : Hp → Prop) : Prop where
  go : ∀ i x H, ok H → xs[i]? = some x → J.go i H
  yld : ∀ i x H H', ok H → J.yld i H x H' → H' = H ∧ xs[i]? = some x
  stop : ∀ i H, ok H → xs.length ≤ i → J.stop i H
theorem sqn_l : Sqn (Itl K a) xs (fun H => SqL K H a xs) := ⟨fun i x H h e => ⟨xs, x, h, e⟩, fun i x H H' h y => ⟨y.1, y.2 xs h⟩, fun i H h l => ⟨xs, h, l⟩⟩
theorem sqn_t : Sqn (Itt K a) xs (fun H => SqT K H a xs) := ⟨fun i x H h e => ⟨xs, x, h, e⟩, fun i x H H' h y => ⟨y.1, y.2 xs h⟩, fun i H h l => ⟨xs, h, l⟩⟩
theorem lc_seq {J : It} {ok : Hp → Prop} (S : Sqn J xs ok) (Pv : Nat → Hp → Prop) (h0 : Pv 0 (upd H1 D (.lst []))) (hl : ∀ i H, Pv i H → ok H)
    (hs : ∀ i x H, xs[i]? = some x → Pv i H → g x (wipe σ vs) H fun σ2 H2 => wipe σ2 vs = wipe σ vs ∧ tt σ2 H2 fun b H3 =>
      if b = true then te σ2 H3 fun y H4 => ∃ acc, H4 D = some (.lst acc) ∧ acc.length < sizeLine ∧ Pv (i + 1) (upd H4 D (.lst (acc ++ [y]))) else Pv (i + 1) H3) (hd : ∀ H, Pv xs.length H → Qd H) :
    ∃ W : Nat → Nat → Hp → Prop, (∃ m, W 0 m (upd H1 D (.lst []))) ∧ ∀ i m H, W i m H →
      (J.stop i H ∧ Qd H) ∨ (J.go i H ∧ ∃ Nx : Hp → Prop, (∀ H', Nx H' → ∃ m', m' < m ∧ W (i + 1) m' H') ∧ ∀ x H', J.yld i H x H' → g x (wipe σ vs) H' fun σ2 H2 => wipe σ2 vs = wipe σ vs ∧ tt σ2 H2 fun b H3 =>
        if b = true then te σ2 H3 fun y H4 => ∃ acc, H4 D = some (.lst acc) ∧ acc.length < sizeLine ∧ Nx (upd H4 D (.lst (acc ++ [y]))) else Nx H3) := by
  refine ⟨fun i m H => m = xs.length - i ∧ i ≤ xs.length ∧ Pv i H, ⟨xs.length, rfl, Nat.zero_le _, h0⟩, ?_⟩
  rintro i m H ⟨rfl, hi, p⟩
  have q := hl i H p
  by_cases hlt : i < xs.length
  · refine .inr ⟨S.go i _ H q (List.getElem?_eq_getElem hlt), Pv (i + 1), fun H' p' => ⟨xs.length - (i + 1), by omega, rfl, hlt, p'⟩, fun x H' y => ?_⟩
    obtain ⟨e, hx⟩ := S.yld i x H H' q y
    rw [e]
    exact hs i x _ hx p
  · have e : i = xs.length := by omega
    subst e
    exact .inl ⟨S.stop _ H q (Nat.le_refl _), hd H p⟩
/-- [e for x in xs]: each item gives one, R tells which -/
theorem lc_map (R : Nat → V → Hp → Prop) (mono : ∀ {i : Nat} {y : V} {H H' : Hp}, SameT K H H' → R i y H → R i y H') {J : It} {ok : Hp → Prop} (S : Sqn J xs ok) (hs : ∀ H, Same H1 H → ok H) (hz : xs.length < 100000) (hD : H1 D = none)
    (turn : ∀ (i : Nat) (x : V) (H : Hp) (Qc : VK) (Qn : Hp → Prop), xs[i]? = some x → Same H1 H → (∀ y H', Same H H' → R i y H' → Qc y H') → g x (wipe σ vs) H fun σ2 H2 => wipe σ2 vs = wipe σ vs ∧ tYes σ2 H2 fun b H3 => if b = true then te σ2 H3 Qc else Qn H3)
    (hd : ∀ ys H, Same H1 H → H D = some (.lst ys) → ys.length = xs.length → (∀ (i : Nat) (y : V), ys[i]? = some y → R i y H) → Qd H) :
    ∃ W : Nat → Nat → Hp → Prop, (∃ m, W 0 m (upd H1 D (.lst []))) ∧ ∀ i m H, W i m H →
      (J.stop i H ∧ Qd H) ∨ (J.go i H ∧ ∃ Nx : Hp → Prop, (∀ H', Nx H' → ∃ m', m' < m ∧ W (i + 1) m' H') ∧ ∀ x H', J.yld i H x H' → g x (wipe σ vs) H' fun σ2 H2 => wipe σ2 vs = wipe σ vs ∧ tYes σ2 H2 fun b H3 =>
        if b = true then te σ2 H3 fun y H4 => ∃ acc, H4 D = some (.lst acc) ∧ acc.length < sizeLine ∧ Nx (upd H4 D (.lst (acc ++ [y]))) else Nx H3) := by
  refine lc_seq S (fun i H => Same H1 H ∧ ∃ ys, H D = some (.lst ys) ∧ ys.length = i ∧ i ≤ xs.length ∧ ∀ (j : Nat) (y : V), ys[j]? = some y → R j y H) ?_ ?_ ?_ ?_
  · exact ⟨Same.upd hD, [], upd_same, rfl, Nat.zero_le _, fun j y h => by simp at h⟩
  · rintro i H ⟨s, _⟩
    exact hs H s
  · rintro i x H hx ⟨s, ys, hy, hl, hi, hR⟩
    refine turn i x H _ _ hx s fun y H' s' r => ?_
    have hi' : i < xs.length := (List.getElem?_eq_some_iff.mp hx).1
    have hy' := s' _ _ hy
    refine ⟨ys, hy', sz_lt (by omega), Same.mut (s.trans s') hD, ys ++ [y], upd_same, by rw [List.length_append, hl]; rfl, hi', fun j u hu => ?_⟩
    have up : SameT K H' (upd H' D (.lst (ys ++ [y]))) := sameT_lst hy'
    by_cases hj : j < ys.length
    · rw [List.getElem?_append_left hj] at hu
      exact mono up (mono (smT s') (hR j u hu))
    · have ej : j = i := by
        have h1 := (List.getElem?_eq_some_iff.mp hu).1
        rw [List.length_append] at h1
        simp at h1
        omega
      subst ej
      rw [List.getElem?_append_right (by omega), hl, Nat.sub_self] at hu
      have e2 : y = u := Option.some.inj hu
      subst e2
      exact mono up r
  · rintro H ⟨s, ys, hy, hl, _, hR⟩
    exact hd ys H s hy hl hR
/-- [f(x) for x in xs if p(x)] -/
theorem lc_fm (p : V → Bool) (f : V → V) {J : It} {ok : Hp → Prop} (S : Sqn J xs ok) (hs : ∀ H, Same H1 H → ok H) (hz : xs.length < 100000) (hD : H1 D = none)
    (turn : ∀ (i : Nat) (x : V) (H : Hp) (Qc : VK) (Qn : Hp → Prop), xs[i]? = some x → Same H1 H → (p x = true → ∀ H', Same H H' → Qc (f x) H') → (p x = false → ∀ H', Same H H' → Qn H') → g x (wipe σ vs) H fun σ2 H2 => wipe σ2 vs = wipe σ vs ∧ tt σ2 H2 fun b H3 => if b = true then te σ2 H3 Qc else Qn H3)
    (hd : ∀ H, Same H1 H → H D = some (.lst ((xs.filter p).map f)) → Qd H) :
    ∃ W : Nat → Nat → Hp → Prop, (∃ m, W 0 m (upd H1 D (.lst []))) ∧ ∀ i m H, W i m H →
      (J.stop i H ∧ Qd H) ∨ (J.go i H ∧ ∃ Nx : Hp → Prop, (∀ H', Nx H' → ∃ m', m' < m ∧ W (i + 1) m' H') ∧ ∀ x H', J.yld i H x H' → g x (wipe σ vs) H' fun σ2 H2 => wipe σ2 vs = wipe σ vs ∧ tt σ2 H2 fun b H3 =>
        if b = true then te σ2 H3 fun y H4 => ∃ acc, H4 D = some (.lst acc) ∧ acc.length < sizeLine ∧ Nx (upd H4 D (.lst (acc ++ [y]))) else Nx H3) := by
  refine lc_seq S (fun i H => Same H1 H ∧ i ≤ xs.length ∧ H D = some (.lst (((xs.take i).filter p).map f))) ?_ ?_ ?_ ?_
  · exact ⟨Same.upd hD, Nat.zero_le _, upd_same⟩
  · rintro i H ⟨s, _⟩
    exact hs H s
  · rintro i x H hx ⟨s, hi, hy⟩
    have hi' : i < xs.length := (List.getElem?_eq_some_iff.mp hx).1
    have hl : (((xs.take i).filter p).map f).length < 100000 := by
      rw [List.length_map]
      have h1 := List.length_filter_le p (xs.take i)
      rw [List.length_take] at h1
      omega
    refine turn i x H _ _ hx s (fun hp H' s' => ⟨_, s' _ _ hy, sz_lt hl, Same.mut (s.trans s') hD, hi', ?_⟩) (fun hp H' s' => ⟨s.trans s', hi', ?_⟩)
    · rw [take_snoc hx, List.filter_append, List.map_append, List.filter_cons_of_pos hp]
      exact upd_same
    · rw [take_snoc hx, List.filter_append, List.map_append, List.filter_cons_of_neg (by rw [hp]; decide)]
      have e := s' _ _ hy
      rw [e]
      simp
  · rintro H ⟨s, _, hy⟩
    rw [List.take_length] at hy
    exact hd H s hy
end
/-- a list of Trues -/
theorem all_true {ys : List V} {n : Nat} (hl : ys.length = n) (h : ∀ (i : Nat) (y : V), ys[i]? = some y → y = .bl true) : ys = (List.replicate n true).map V.bl := by
  rw [List.map_replicate]
  exact List.eq_replicate_iff.mpr ⟨hl, fun y hy => by
    obtain ⟨i, hi, e⟩ := List.getElem_of_mem hy
    exact h i y (by rw [List.getElem?_eq_getElem hi, e])⟩
/-! ### isinstance, things, pairs -/
section
variable {K : PySem.W.Frag} {σ : L2.St} {H H' : Hp} {Q : VK} {x v : V} {a p : Addr} {xs ys : List V} {m l : Int} {c b : Bool}
theorem i_eqI (h : Q (.bl (decide (m = l))) H) : rEq (.int m) (.int l) H Q := ⟨rfl, by
  have e : decide (V.int m = V.int l) = decide (m = l) := by
    by_cases h : m = l
    · subst h; simp
    · rw [decide_eq_false h, decide_eq_false (fun q => h (V.int.inj q))]
  rw [e]; exact h⟩
theorem i_neI (h : Q (.bl (!decide (m = l))) H) : rNe (.int m) (.int l) H Q := ⟨rfl, by
  have e : decide (V.int m = V.int l) = decide (m = l) := by
    by_cases h : m = l
    · subst h; simp
    · rw [decide_eq_false h, decide_eq_false (fun q => h (V.int.inj q))]
  rw [e]; exact h⟩
theorem i_isi {T : String} {y : String} {r : Bool} (ty : TyX K H x (.type T)) (kb : kitB T y = some r) (h : Q (.bl r) H) : rIsi K [x, .ty y] H Q := ⟨x, .ty y, .type T, .type y, r, rfl, .ty y, ty, kit_ty kb, h⟩
theorem ty_int : TyX K H (.int m) (.type "int") := .base (.int m)
theorem ty_list (h : H p = some (.lst xs)) : TyX K H (.ref p) (.type "list") := .base (.lst h)
theorem ty_sqL (h : SqL K H p xs) : TyX K H (.ref p) (.type "list") := by
  rcases h with (h | ⟨o, h⟩) | ⟨o, its, n, h1, h2, _⟩
  · exact .base (.lst h)
  · exact .base (.frz h)
  · exact .kList h1 h2
theorem ty_sqT (h : SqT K H p xs) : TyX K H (.ref p) (.type "tuple") := by
  rcases h with (h | ⟨o, h⟩) | ⟨o, its, n, h1, h2, _⟩
  · exact .base (.tup h)
  · exact .fTuple h
  · exact .kTuple h1 h2
/-- v is a tuple of these three lengths -/
def IsT (K : PySem.W.Frag) (H : Hp) (v : V) (t : T3) : Prop := ∃ p, v = .ref p ∧ SqT K H p [.int t.1, .int t.2.1, .int t.2.2]
/-- v is a pair of whole numbers -/
def IsP (K : PySem.W.Frag) (H : Hp) (v : V) (t : Int × Int) : Prop := ∃ p, v = .ref p ∧ SqT K H p [.int t.1, .int t.2]
theorem IsT.mono {t : T3} (e : SameT K H H') (h : IsT K H v t) : IsT K H' v t := let ⟨p, e1, h1⟩ := h; ⟨p, e1, e _ _ h1⟩
theorem IsP.mono {t : Int × Int} (e : SameT K H H') (h : IsP K H v t) : IsP K H' v t := let ⟨p, e1, h1⟩ := h; ⟨p, e1, e _ _ h1⟩
/-- item by item -/
structure All2 {α β : Type} (R : α → β → Prop) (xs : List α) (ys : List β) : Prop where
  len : xs.length = ys.length
  get : ∀ (i : Nat) (x : α) (y : β), xs[i]? = some x → ys[i]? = some y → R x y
theorem All2.mono {α β : Type} {R R' : α → β → Prop} {xs : List α} {ys : List β} (f : ∀ x y, R x y → R' x y) (h : All2 R xs ys) : All2 R' xs ys := ⟨h.len, fun i x y a b => f x y (h.get i x y a b)⟩
theorem All2.nil {α β : Type} {R : α → β → Prop} : All2 R [] [] := ⟨rfl, fun i x y h => by simp at h⟩
theorem All2.at_ {α β : Type} {R : α → β → Prop} {xs : List α} {ys : List β} (h : All2 R xs ys) {i : Nat} {y : β} (e : ys[i]? = some y) : ∃ x, xs[i]? = some x ∧ R x y := by
  have hi : i < xs.length := by rw [h.len]; exact (List.getElem?_eq_some_iff.mp e).1
  exact ⟨xs[i], List.getElem?_eq_getElem hi, h.get i _ _ (List.getElem?_eq_getElem hi) e⟩
theorem All2.at' {α β : Type} {R : α → β → Prop} {xs : List α} {ys : List β} (h : All2 R xs ys) {i : Nat} {x : α} (e : xs[i]? = some x) : ∃ y, ys[i]? = some y ∧ R x y := by
  have hi : i < ys.length := by rw [← h.len]; exact (List.getElem?_eq_some_iff.mp e).1
  exact ⟨ys[i], List.getElem?_eq_getElem hi, h.get i _ _ e (List.getElem?_eq_getElem hi)⟩
theorem All2.snoc {α β : Type} {R : α → β → Prop} {xs : List α} {ys : List β} {x : α} {y : β} (h : All2 R xs ys) (r : R x y) : All2 R (xs ++ [x]) (ys ++ [y]) := by
  refine ⟨by rw [List.length_append, List.length_append, h.len]; rfl, fun i z u h1 h2 => ?_⟩
  by_cases hi : i < xs.length
  · rw [List.getElem?_append_left hi] at h1
    rw [List.getElem?_append_left (by rw [← h.len]; exact hi)] at h2
    exact h.get i z u h1 h2
  · have k1 := (List.getElem?_eq_some_iff.mp h1).1
    rw [List.length_append, List.length_singleton] at k1
    have e : i = xs.length := by omega
    subst e
    rw [List.getElem?_append_right (Nat.le_refl _), Nat.sub_self] at h1
    rw [List.getElem?_append_right (by rw [h.len]; exact Nat.le_refl _), h.len, Nat.sub_self] at h2
    cases h1
    cases h2
    exact r
theorem All2.set {α β : Type} {R : α → β → Prop} {xs : List α} {ys : List β} {x : α} {y : β} {k : Nat} (h : All2 R xs ys) (r : R x y) : All2 R (xs.set k x) (ys.set k y) := by
  refine ⟨by rw [List.length_set, List.length_set, h.len], fun i z u h1 h2 => ?_⟩
  by_cases hi : k = i
  · subst hi
    rw [List.getElem?_set] at h1 h2
    rw [if_pos rfl] at h1 h2
    split at h1
    · split at h2
      · cases h1; cases h2; exact r
      · cases h2
    · cases h1
  · rw [List.getElem?_set_ne hi] at h1 h2
    exact h.get i z u h1 h2
theorem All2.rep {α β : Type} {R : α → β → Prop} {x : α} {y : β} (n : Nat) (r : R x y) : All2 R (List.replicate n x) (List.replicate n y) := by
  refine ⟨by rw [List.length_replicate, List.length_replicate], fun i z u h1 h2 => ?_⟩
  have hi : i < n := by
    have := (List.getElem?_eq_some_iff.mp h1).1
    rwa [List.length_replicate] at this
  rw [List.getElem?_replicate, if_pos hi] at h1 h2
  cases h1
  cases h2
  exact r
theorem All2.take {α β : Type} {R : α → β → Prop} {xs : List α} {ys : List β} (h : All2 R xs ys) (n : Nat) : All2 R (xs.take n) (ys.take n) := by
  refine ⟨by rw [List.length_take, List.length_take, h.len], fun i x y h1 h2 => ?_⟩
  rw [List.getElem?_take] at h1 h2
  split at h1
  · exact h.get i x y h1 (by rw [if_pos (by assumption)] at h2; exact h2)
  · cases h1
theorem All2.drop {α β : Type} {R : α → β → Prop} {xs : List α} {ys : List β} (h : All2 R xs ys) (n : Nat) : All2 R (xs.drop n) (ys.drop n) := by
  refine ⟨by rw [List.length_drop, List.length_drop, h.len], fun i x y h1 h2 => ?_⟩
  rw [List.getElem?_drop] at h1 h2
  exact h.get _ x y h1 h2
theorem All2.app {α β : Type} {R : α → β → Prop} {xs xs' : List α} {ys ys' : List β} (h : All2 R xs ys) (h' : All2 R xs' ys') : All2 R (xs ++ xs') (ys ++ ys') := by
  refine ⟨by rw [List.length_append, List.length_append, h.len, h'.len], fun i x y h1 h2 => ?_⟩
  by_cases hi : i < xs.length
  · rw [List.getElem?_append_left hi] at h1
    rw [List.getElem?_append_left (by rw [← h.len]; exact hi)] at h2
    exact h.get i x y h1 h2
  · rw [List.getElem?_append_right (by omega)] at h1
    rw [List.getElem?_append_right (by rw [← h.len]; omega), ← h.len] at h2
    exact h'.get _ x y h1 h2
theorem All2.rev {α β : Type} {R : α → β → Prop} {xs : List α} {ys : List β} (h : All2 R xs ys) : All2 R xs.reverse ys.reverse := by
  refine ⟨by rw [List.length_reverse, List.length_reverse, h.len], fun i x y h1 h2 => ?_⟩
  have hi : i < xs.length := by
    have := (List.getElem?_eq_some_iff.mp h1).1
    rwa [List.length_reverse] at this
  rw [List.getElem?_reverse hi] at h1
  rw [List.getElem?_reverse (by rw [← h.len]; exact hi), ← h.len] at h2
  exact h.get _ x y h1 h2
abbrev ThL (K : PySem.W.Frag) (H : Hp) (vs : List V) (ts : List T3) : Prop := All2 (IsT K H) vs ts
abbrev PrL (K : PySem.W.Frag) (H : Hp) (vs : List V) (ps : List (Int × Int)) : Prop := All2 (IsP K H) vs ps
theorem ThL.mono {ts : List T3} (e : SameT K H H') (h : ThL K H xs ts) : ThL K H' xs ts := All2.mono (fun _ _ r => r.mono e) h
theorem PrL.mono {ps : List (Int × Int)} (e : SameT K H H') (h : PrL K H xs ps) : PrL K H' xs ps := All2.mono (fun _ _ r => r.mono e) h
/-- at a stands a list of things -/
def Things (K : PySem.W.Frag) (H : Hp) (a : Addr) (ts : List T3) : Prop := ∃ vs, SqL K H a vs ∧ ThL K H vs ts
theorem Things.mono {ts : List T3} (e : Same H H') (h : Things K H a ts) : Things K H' a ts := let ⟨vs, h1, h2⟩ := h; ⟨vs, e.seq h1, ThL.mono (smT e) h2⟩
theorem Things.at_ {ts : List T3} {k : Nat} {t : T3} (h : Things K H a ts) (e : ts[k]? = some t) : ∃ vs p, SqL K H a vs ∧ atI vs (k : Int) = some (.ref p) ∧ SqT K H p [.int t.1, .int t.2.1, .int t.2.2] := by
  obtain ⟨vs, h1, h2⟩ := h
  obtain ⟨x, ex, p, rfl, hp⟩ := h2.at_ e
  exact ⟨vs, p, h1, atI_nat ex, hp⟩
/-- things[k] -/
theorem i_thing {ts : List T3} {k : Nat} {t : T3} (h : Things K H a ts) (e : ts[k]? = some t) (q : ∀ p, SqT K H p [.int t.1, .int t.2.1, .int t.2.2] → Q (.ref p) H) : rIxL K (.ref a) (.int (k : Int)) H Q := by
  obtain ⟨vs, p, h1, h2, h3⟩ := h.at_ e
  exact i_ixL h1 h2 (q p h3)
theorem zs_at {os : List Nat} {i : Nat} {x : V} (h : ((zs os).map V.int)[i]? = some x) : ∃ k, os[i]? = some k ∧ x = .int (k : Int) := by
  unfold zs at h
  rw [List.map_map, List.getElem?_map] at h
  cases e : os[i]? with
  | none => rw [e] at h; cases h
  | some k => rw [e] at h; exact ⟨k, rfl, (Option.some.inj h).symm⟩
theorem zs_len' (os : List Nat) : ((zs os).map V.int).length = os.length := by rw [List.length_map, zs_len]
end
/-! ### calls of built-ins, their relations by names -/
def rLenB (K : PySem.W.Frag) : List V → Hp → VK → Prop := fun xs H Q => ∃ p ys, xs = [.ref p] ∧ (SqL K H p ys ∨ SqT K H p ys) ∧ Q (.int ys.length) H
def rMax2 : List V → Hp → VK → Prop := fun xs H Q => ∃ i j, xs = [.int i, .int j] ∧ Q (.int (if j > i then j else i)) H
def rListB (K : PySem.W.Frag) : List V → Hp → VK → Prop := fun xs H Q => ∃ p ys, xs = [.ref p] ∧ (SqL K H p ys ∨ SqT K H p ys) ∧ ∀ l, H l = none → Q (.ref l) (upd H l (.lst ys))
def rIns : V → List V → Hp → VK → Prop := fun x vs H Q => ∃ (l : Addr) (xs : List V) (i : Int) (y : V), x = .ref l ∧ vs = [.int i, y] ∧ H l = some (.lst xs) ∧ xs.length < sizeLine ∧ 0 ≤ i ∧ i < 2 ^ 63 ∧ Q .non (upd H l (.lst (xs.take i.toNat ++ [y] ++ xs.drop i.toNat)))
section
variable {X : Cx}
theorem cb_len : CallR X (.builtin "len") (rLenB X.K) := call_len_seq
theorem cb_max2 (hc : X.calm = true) : CallR X (.builtin "max") rMax2 := call_max2 hc
theorem cb_list : CallR X (.type "list") (rListB X.K) := call_list_of
theorem mt_ins : MtR X "list.insert" rIns := mt_insert
end
section
variable {K : PySem.W.Frag} {H : Hp} {Q : VK} {a p : Addr} {xs : List V} {v : V} {m l : Int} {n : Nat}
theorem i_lenL (hs : SqL K H p xs) (h : Q (.int xs.length) H) : rLenB K [.ref p] H Q := ⟨p, xs, rfl, .inl hs, h⟩
theorem i_lenT (hs : SqT K H p xs) (h : Q (.int xs.length) H) : rLenB K [.ref p] H Q := ⟨p, xs, rfl, .inr hs, h⟩
theorem i_lenThings {ts : List T3} (hT : Things K H a ts) (h : Q (.int ts.length) H) : rLenB K [.ref a] H Q := by
  obtain ⟨vs, h1, h2⟩ := hT
  exact ⟨a, vs, rfl, .inl h1, by rw [h2.len]; exact h⟩
theorem i_max2 (h : Q (.int (gr m l)) H) : rMax2 [.int m, .int l] H Q := ⟨m, l, rfl, h⟩
theorem i_listL (hs : SqL K H p xs) (h : ∀ l H', H l = none → Same H H' → H' l = some (.lst xs) → Q (.ref l) H') : rListB K [.ref p] H Q := ⟨p, xs, rfl, .inl hs, i_new h⟩
theorem i_ins {i : Nat} (hp : H p = some (.lst xs)) (hz : xs.length < 100000) (e : m = (i : Int)) (hi : i ≤ 100000) (h : Q .non (upd H p (.lst (xs.take i ++ [v] ++ xs.drop i)))) : rIns (.ref p) [.int m, v] H Q := by
  subst e
  exact ⟨p, xs, _, v, rfl, rfl, hp, sz_lt hz, by omega, by omega, h⟩
theorem i_all {bs : List Bool} (hs : SqL K H a (bs.map V.bl)) (h : Q (.bl (bs.all id)) H) : rAll K [.ref a] H Q := ⟨a, bs, rfl, hs, h⟩
theorem i_any {bs : List Bool} (hs : SqL K H a (bs.map V.bl)) (h : Q (.bl (bs.any id)) H) : rAny K [.ref a] H Q := ⟨a, bs, rfl, hs, h⟩
theorem i_sum {ns : List Int} (hs : SqL K H a (ns.map V.int)) (h : Q (.int ns.sum) H) : rSum K [.ref a] H Q := ⟨a, ns, rfl, hs, h⟩
theorem i_allT {n : Nat} (hs : H a = some (.lst ((List.replicate n true).map V.bl))) (h : Q (.bl true) H) : rAll K [.ref a] H Q := i_all (bs := List.replicate n true) (SqL.of hs) (by
  have e : (List.replicate n true).all id = true := List.all_eq_true.mpr fun b hb => (List.mem_replicate.mp hb).2
  rw [e]; exact h)
/-- sorted of whole numbers -/
theorem i_sortI {ns : List Int} (hs : SqL K H a (ns.map V.int)) (h : ∀ (ns' : List Int) (p : Addr) (H' : Hp), ns'.Perm ns → ns'.Pairwise (· ≤ ·) → H p = none → Same H H' → H' p = some (.lst (ns'.map V.int)) → Q (.ref p) H') : rSortedI K [.ref a] H Q :=
  ⟨a, ns, rfl, hs, fun ns' p h1 h2 np => h ns' p _ h1 h2 np (Same.upd np) upd_same⟩
/-- list(range(n)) -/
def kRg (Q : VK) : VK := fun x H1 => ∃ m, x = .int m ∧ RgOk 0 m ∧ ∀ q, H1 q = none → Q (.ref q) (upd H1 q (.lst (rgV 0 m)))
theorem i_listRg {te : TE} {σ : L2.St} (h : te σ H (kRg Q)) : tLstRg (tRg1 te) σ H Q := h
theorem i_rg (e : m = (n : Int)) (hn : n ≤ 100000) (h : ∀ q H', H q = none → Same H H' → H' q = some (.lst ((rg n).map V.int)) → Q (.ref q) H') : kRg Q (.int m) H := by
  subst e
  refine ⟨(n : Int), rfl, RgOk.of_le (by omega) (by omega) (by omega) (by omega), fun q hq => h q _ hq (Same.upd hq) ?_⟩
  have e : rgV 0 (n : Int) = (rg n).map V.int := by
    unfold rgV rg zs
    rw [List.map_map]
    have e1 : ((n : Int) - 0).toNat = n := by omega
    rw [e1]
    refine List.map_congr_left fun k _ => ?_
    show V.int (0 + (k : Int)) = V.int (k : Int)
    rw [Int.zero_add]
  rw [e]
  exact upd_same
/-- == and != of data -/
theorem i_eqD {x y : V} {d e : PyData} (h1 : Dp K H x d) (h2 : Dp K H y e) (s1 : SeqAt.shaped d = true) (s2 : SeqAt.shaped e = true) (h : Q (.bl (PyData.eqv d e)) H) : rEqD K x y H Q := ⟨d, e, h1, h2, s1, s2, h⟩
theorem i_neD {x y : V} {d e : PyData} (h1 : Dp K H x d) (h2 : Dp K H y e) (s1 : SeqAt.shaped d = true) (s2 : SeqAt.shaped e = true) (h : Q (.bl (!PyData.eqv d e)) H) : rNeD K x y H Q := ⟨d, e, h1, h2, s1, s2, h⟩
end
/-! ### data: lists of whole numbers, lists of tuples of such -/
def sOk (n : Nat) (d : PyData) : Prop := d.canLay0 = true ∧ d.depth ≤ n
theorem sok_all {n : Nat} : ∀ {ds : List PyData}, (∀ x ∈ ds, sOk n x) → PyData.canLayAll0 ds = true ∧ PyData.depthAll ds ≤ n
  | [], _ => ⟨by simp [PyData.canLayAll0], by simp [PyData.depthAll]⟩
  | d :: ds, h => by
    have h1 := h d List.mem_cons_self
    have h2 := sok_all fun x hx => h x (List.mem_cons_of_mem d hx)
    refine ⟨?_, ?_⟩
    · rw [PyData.canLayAll0, h1.1, h2.1]; rfl
    · rw [PyData.depthAll]
      exact Nat.max_le.mpr ⟨h1.2, h2.2⟩
theorem sok_list {n : Nat} {ds : List PyData} (h : ∀ x ∈ ds, sOk n x) : sOk (n + 1) (.list ds) := by
  have h2 := sok_all h
  exact ⟨by rw [PyData.canLay0]; exact h2.1, by rw [PyData.depth]; exact Nat.succ_le_succ h2.2⟩
theorem sok_tup {n : Nat} {ds : List PyData} (h : ∀ x ∈ ds, sOk n x) : sOk (n + 1) (.tuple ds) := by
  have h2 := sok_all h
  exact ⟨by rw [PyData.canLay0]; exact h2.1, by rw [PyData.depth]; exact Nat.succ_le_succ h2.2⟩
theorem sok_int (n : Nat) (i : Int) : sOk n (.int i) := ⟨rfl, Nat.zero_le _⟩
theorem sok_shaped {n : Nat} {d : PyData} (h : sOk n d) (hn : n ≤ 64) : SeqAt.shaped d = true := by
  unfold SeqAt.shaped
  rw [h.1, Bool.true_and, decide_eq_true_eq]
  exact Nat.le_trans h.2 hn
theorem eqv_map {α : Type} [DecidableEq α] (f : α → PyData) (hf : ∀ x y, PyData.eqv (f x) (f y) = decide (x = y)) : ∀ a b : List α, PyData.eqvAll (a.map f) (b.map f) = decide (a = b)
  | [], [] => by simp [PyData.eqvAll]
  | [], _ :: _ => by simp [PyData.eqvAll]
  | _ :: _, [] => by simp [PyData.eqvAll]
  | x :: a, y :: b => by
    rw [List.map_cons, List.map_cons, PyData.eqvAll, hf, eqv_map f hf a b]
    by_cases h : x = y
    · subst h
      simp
    · simp [h]
theorem eqv_int (x y : Int) : PyData.eqv (.int x) (.int y) = decide (x = y) := by
  rw [PyData.eqv]
  exact Bool.beq_eq_decide_eq x y
theorem eqv_list (a b : List PyData) : PyData.eqv (.list a) (.list b) = PyData.eqvAll a b := by rw [PyData.eqv]
theorem eqv_tuple (a b : List PyData) : PyData.eqv (.tuple a) (.tuple b) = PyData.eqvAll a b := by rw [PyData.eqv]
def dI (ns : List Int) : PyData := .list (ns.map PyData.int)
theorem eqv_dI (a b : List Int) : PyData.eqv (dI a) (dI b) = decide (a = b) := by
  unfold dI
  rw [eqv_list, eqv_map _ eqv_int]
theorem sok_dI (ns : List Int) : sOk 1 (dI ns) := sok_list fun x hx => by
  obtain ⟨n, _, rfl⟩ := List.mem_map.mp hx
  exact sok_int 0 n
theorem shaped_dI (ns : List Int) : SeqAt.shaped (dI ns) = true := sok_shaped (sok_dI ns) (by decide)
/-- a triple, a pair as data -/
def d3 (t : T3) : PyData := .tuple [.int t.1, .int t.2.1, .int t.2.2]
def d2 (t : Int × Int) : PyData := .tuple [.int t.1, .int t.2]
theorem eqv_d3 (x y : T3) : PyData.eqv (d3 x) (d3 y) = decide (x = y) := by
  obtain ⟨a, b, c⟩ := x
  obtain ⟨d, e, f⟩ := y
  have h := eqv_map PyData.int eqv_int [a, b, c] [d, e, f]
  show PyData.eqv (.tuple [.int a, .int b, .int c]) (.tuple [.int d, .int e, .int f]) = _
  rw [eqv_tuple]
  refine h.trans ?_
  simp [Prod.mk.injEq]
theorem eqv_d2 (x y : Int × Int) : PyData.eqv (d2 x) (d2 y) = decide (x = y) := by
  obtain ⟨a, b⟩ := x
  obtain ⟨d, e⟩ := y
  have h := eqv_map PyData.int eqv_int [a, b] [d, e]
  show PyData.eqv (.tuple [.int a, .int b]) (.tuple [.int d, .int e]) = _
  rw [eqv_tuple]
  refine h.trans ?_
  simp [Prod.mk.injEq]
def dT (ts : List T3) : PyData := .list (ts.map d3)
def dP (ps : List (Int × Int)) : PyData := .list (ps.map d2)
theorem eqv_dT (a b : List T3) : PyData.eqv (dT a) (dT b) = decide (a = b) := by
  unfold dT
  rw [eqv_list, eqv_map _ eqv_d3]
theorem eqv_dP (a b : List (Int × Int)) : PyData.eqv (dP a) (dP b) = decide (a = b) := by
  unfold dP
  rw [eqv_list, eqv_map _ eqv_d2]
theorem sok_dT (ts : List T3) : sOk 2 (dT ts) := sok_list fun x hx => by
  obtain ⟨t, _, rfl⟩ := List.mem_map.mp hx
  exact sok_tup fun y hy => by
    rcases List.mem_cons.mp hy with rfl | hy
    · exact sok_int 0 _
    · rcases List.mem_cons.mp hy with rfl | hy
      · exact sok_int 0 _
      · rcases List.mem_cons.mp hy with rfl | hy
        · exact sok_int 0 _
        · cases hy
theorem sok_dP (ts : List (Int × Int)) : sOk 2 (dP ts) := sok_list fun x hx => by
  obtain ⟨t, _, rfl⟩ := List.mem_map.mp hx
  exact sok_tup fun y hy => by
    rcases List.mem_cons.mp hy with rfl | hy
    · exact sok_int 0 _
    · rcases List.mem_cons.mp hy with rfl | hy
      · exact sok_int 0 _
      · cases hy
theorem shaped_dT (ts : List T3) : SeqAt.shaped (dT ts) = true := sok_shaped (sok_dT ts) (by decide)
theorem shaped_dP (ts : List (Int × Int)) : SeqAt.shaped (dP ts) = true := sok_shaped (sok_dP ts) (by decide)
section
variable {K : PySem.W.Frag} {H : Hp} {p : Addr} {v : V}
theorem dpAll_ints : ∀ ns : List Int, DpAll K H (ns.map V.int) (ns.map PyData.int)
  | [] => .nil
  | n :: ns => .cons (.int n) (dpAll_ints ns)
theorem dp_ints {ns : List Int} (h : SqL K H p (ns.map V.int)) : Dp K H (.ref p) (dI ns) := .lst h (dpAll_ints ns)
theorem dpAll_of {α : Type} {R : V → α → Prop} {f : α → PyData} (hf : ∀ v x, R v x → Dp K H v (f x)) : ∀ {vs : List V} {xs : List α}, All2 R vs xs → DpAll K H vs (xs.map f)
  | [], [], _ => .nil
  | [], _ :: _, h => absurd h.len (by simp)
  | _ :: _, [], h => absurd h.len (by simp)
  | v :: vs, x :: xs, h => .cons (hf v x (h.get 0 v x rfl rfl)) (dpAll_of hf ⟨by have := h.len; simpa using this, fun i y z h1 h2 => h.get (i + 1) y z (by simpa using h1) (by simpa using h2)⟩)
theorem dp_d3 {t : T3} (h : IsT K H v t) : Dp K H v (d3 t) := by
  obtain ⟨p, rfl, hp⟩ := h
  exact .tup hp (.cons (.int _) (.cons (.int _) (.cons (.int _) .nil)))
theorem dp_d2 {t : Int × Int} (h : IsP K H v t) : Dp K H v (d2 t) := by
  obtain ⟨p, rfl, hp⟩ := h
  exact .tup hp (.cons (.int _) (.cons (.int _) .nil))
theorem dp_things {ts : List T3} (h : Things K H p ts) : Dp K H (.ref p) (dT ts) := by
  obtain ⟨vs, h1, h2⟩ := h
  exact .lst h1 (dpAll_of (f := d3) (fun _ _ => dp_d3) h2)
theorem dp_pairs {vs : List V} {ps : List (Int × Int)} (h1 : SqL K H p vs) (h2 : PrL K H vs ps) : Dp K H (.ref p) (dP ps) := .lst h1 (dpAll_of (f := d2) (fun _ _ => dp_d2) h2)
end
/-! ### more steps -/
def kItc (R : It → Hp → Prop) : List V → Hp → Prop := fun vs H1 => ∃ (i j c : Int) (n : Nat), vs = [.int i, .int j, .int c] ∧ RgC i j c n ∧ R (Itc i c n) H1
def kRev (K : PySem.W.Frag) (Q : VK) : VK := fun x H1 => ∃ a xs, x = .ref a ∧ SqL K H1 a xs ∧ ∀ p, H1 p = none → Q (.ref p) (upd H1 p (.lst xs.reverse))
/-- a statement, then the rest, with a word between them -/
def tMid (t u : TS) : TS := fun D σ H => ∃ M : L2.St → Hp → Prop, t { D with nx := M } σ H ∧ ∀ σ' H', M σ' H' → u D σ' H'
section
variable {X : Cx}
theorem pss_mid {st : Stmt} {rest : List Stmt} {t u : TS} (h1 : PS X st t) (h2 : PSs X rest u) : PSs X (st :: rest) (tMid t u) := by
  refine ⟨fun pins s σ H D I h => ?_⟩
  obtain ⟨M, hm, hu⟩ := h
  refine wpAny_execs_cons (thn (h1.run pins s σ H { D with nx := M } I hm) fun f s1 q => ?_)
  cases f with
  | next =>
    obtain ⟨σ', H', I', q⟩ := q
    exact h2.run pins s1 σ' H' D I' (hu σ' H' q)
  | ret v => exact q
  | brk => exact q
  | cont => exact q
end
section
variable {K : PySem.W.Frag} {σ : L2.St} {H : Hp} {Q : VK} {D : Ends} {te : TE} {ts : TA} {a p q : Addr} {xs ys : List V} {R : It → Hp → Prop} {lo hi : Option Int}
theorem i_iRng3 (h : ts σ H (kItc R)) : iRng3 ts σ H R := h
theorem i_itc {i j c : Int} {n : Nat} (r : RgC i j c n) (h : R (Itc i c n) H) : kItc R [.int i, .int j, .int c] H := ⟨i, j, c, n, rfl, r, h⟩
theorem rg3 {m : Nat} (hm : m ≤ 63) : RgC 0 (m : Int) 3 ((m + 2) / 3) := by
  have k : ∀ m : Fin 64, Builtin.Range.small 0 (m.val : Int) 3 = true ∧ Builtin.Range.rangeSize 0 (m.val : Int) 3 = (((m.val + 2) / 3 : Nat) : Int) := by decide +kernel
  have z := k ⟨m, by omega⟩
  exact ⟨by decide, by decide, z.1, z.2⟩
theorem i_revL (h : te σ H (kRev K Q)) : tRevL K te σ H Q := h
theorem i_revk (hs : SqL K H a xs) (h : ∀ p H', H p = none → Same H H' → H' p = some (.lst xs.reverse) → Q (.ref p) H') : kRev K Q (.ref a) H := ⟨a, xs, rfl, hs, i_new h⟩
theorem i_slL (hs : SqL K H a xs) (h : ∀ p H', H p = none → Same H H' → H' p = some (.lst (cutV xs lo hi)) → Q (.ref p) H') : rSlL K (.ref a) lo hi H Q := ⟨a, xs, rfl, hs, i_new h⟩
theorem i_cat (h1 : H p = some (.lst xs)) (h2 : H q = some (.lst ys)) (hz : xs.length + ys.length ≤ 100000) (h : ∀ r H', H r = none → Same H H' → H' r = some (.lst (xs ++ ys)) → Q (.ref r) H') : rCat (.ref p) (.ref q) H Q := ⟨p, q, xs, ys, rfl, rfl, h1, h2, sz_le hz, i_new h⟩
theorem i_rep {v : V} {n : Nat} {m : Int} (h1 : H p = some (.lst [v])) (e : m = (n : Int)) (hz : n ≤ 100000) (h : ∀ r H', H r = none → Same H H' → H' r = some (.lst (List.replicate n v)) → Q (.ref r) H') : rRep (.ref p) (.int m) H Q := by
  subst e
  refine ⟨p, _, [v], rfl, rfl, h1, by omega, by omega, by rw [List.length_singleton, Int.toNat_natCast, Nat.one_mul]; exact sz_le hz, i_new fun r H' h1 h2 h3 => h r H' h1 h2 ?_⟩
  rw [h3, Int.toNat_natCast, List.flatten_replicate_singleton]
theorem i_mid {t u : TS} (M : L2.St → Hp → Prop) (h1 : t { D with nx := M } σ H) (h2 : ∀ σ' H', M σ' H' → u D σ' H') : tMid t u D σ H := ⟨M, h1, h2⟩
theorem cut_to (xs : List V) (k : Nat) : cutV xs none (some (k : Int)) = xs.take k := by
  unfold cutV
  rw [HT.sIx_none, HT.sIx_nat, List.drop_zero, Nat.sub_zero]
  by_cases h : k ≤ xs.length
  · rw [Nat.min_eq_left h]
  · rw [Nat.min_eq_right (by omega), List.take_length, List.take_of_length_le (by omega)]
theorem cut_from (xs : List V) (k : Nat) : cutV xs (some (k : Int)) none = xs.drop k := by
  unfold cutV
  rw [HT.sIx_none, HT.sIx_nat]
  by_cases h : k ≤ xs.length
  · rw [Nat.min_eq_left h, List.take_of_length_le (by rw [List.length_drop]; exact Nat.le_refl _)]
  · rw [Nat.min_eq_right (by omega), Nat.sub_self, List.take_zero, List.drop_of_length_le (by omega)]
theorem cut_mid (xs : List V) (i j : Nat) (h : i + j ≤ xs.length) : cutV xs (some (i : Int)) (some ((i + j : Nat) : Int)) = (xs.drop i).take j := by
  unfold cutV
  rw [HT.sIx_nat, HT.sIx_nat, Nat.min_eq_left (show i ≤ xs.length by omega), Nat.min_eq_left h, Nat.add_sub_cancel_left]
end
section
variable {σ : L2.St} {H : Hp} {Q : VK} {D : Ends} {t : TS} {g : TG}
theorem i_itdC {c : Prop} [Decidable c] {v1 v2 : V} (h : ∀ v, (v = v1 ∨ v = v2) → Q v H) : if decide c = true then tC v1 σ H Q else tC v2 σ H Q := i_itd (fun _ => h v1 (.inl rfl)) (fun _ => h v2 (.inr rfl))
/-- for k in range(n) -/
theorem for_rng {n : Nat} (Pv : Nat → L2.St → Hp → Prop) (h0 : Pv 0 σ H) (hs : ∀ (i : Nat) σ H, i < n → Pv i σ H → g (.int (i : Int)) σ H fun σ2 H2 => t { D with nx := Pv (i + 1), ct := Pv (i + 1), bk := D.nx } σ2 H2) (hd : ∀ σ H, Pv n σ H → D.nx σ H) :
    ∃ W : Nat → Nat → L2.St → Hp → Prop, (∃ m, W 0 m σ H) ∧ ∀ i m σ H, W i m σ H →
      ((Itr 0 n).stop i H ∧ D.nx σ H) ∨ ((Itr 0 n).go i H ∧ ∃ N : L2.St → Hp → Prop, (∀ σ' H', N σ' H' → ∃ m', m' < m ∧ W (i + 1) m' σ' H') ∧ ∀ x H', (Itr 0 n).yld i H x H' → g x σ H' fun σ2 H2 => t { D with nx := N, ct := N, bk := D.nx } σ2 H2) :=
  for_range (lo := 0) Pv h0 (fun i σ H hi p => by
    have e : (0 : Int) + (i : Int) = (i : Int) := Int.zero_add _
    rw [e]
    exact hs i σ H hi p) hd
theorem log_small {n : Nat} (h : n < 2 ^ 200) : n.log2 < 9000 := by
  by_cases h0 : n = 0
  · subst h0; decide
  · exact Nat.lt_trans ((Nat.log2_lt h0).mpr h) (by decide)
end
end Bp
/-! Benchpair: the set of a list of whole numbers, and such a set sorted, of up to some four thousand members. -/
namespace L2
open PySem PySem.Spec PyProof.Rows
/-- the set object that stands first -/
def bpNew (w : World) : Obj := { cls := .type "set", dict := none, data := .set #[] 0 (.fresh 0 0 (!w.params.followText "set-order")) }
def bpHp (w : World) (h : Heap) : Heap := h.push (bpNew w)
/-- what set.__init__ leaves -/
def BpMade (w : World) (s : Shared) (ns : List Int) (s₂ : Shared) : Prop := ∃ h' tk c, s₂ = { s with heap := h', toks := tk } ∧ SetR w h' s.heap.objs.size (fun j => decide (j ∈ ns)) c ∧ c ≤ ns.length ∧ ∀ b o, s.heap.get? b = some o → h'.get? b = some o
section
variable {P : Program} {w : World} {A : Around} {E : Value → Shared → Prop} {s : Shared}
theorem bp_init {l : Addr} {xs : Array Value} (ns : List Int) (hd : A.handled = none) (hx : s.heap.IsList l xs) (hi : IntsAre xs.toList ns) (room : ns.length + 1 < scanBound) :
    codeAny (model P w) A (.call (.builtin "set.__init__") ⟨[.ref s.heap.objs.size, .ref l], []⟩) (wants (fun r s₂ => r = .none ∧ BpMade w s ns s₂) E) { s with heap := bpHp w s.heap } := by
  have len : xs.size = ns.length := (Array.length_toList (xs := xs)).symm.trans (IntsAre.length hi)
  have me : (bpHp w s.heap).get? s.heap.objs.size = some (bpNew w) := Heap.get?_push_size _ rfl
  have ty : Shared.TypeIs { s with heap := bpHp w s.heap } (.ref s.heap.objs.size) "set" := ⟨_, me, rfl⟩
  refine codeAny_call_builtin F.called_set.init.plain F.entry_set_init (check_set_init_1 ty ?_)
  obtain ⟨o0, g0, k0, n0, d0⟩ := id hx
  obtain ⟨oc, od, oa, os⟩ := o0
  simp only at k0 d0
  subst k0
  subst d0
  have g1 : (bpHp w s.heap).get? l = some { cls := .type "list", dict := od, data := .seq xs n0, slots := os } := Heap.get?_push_of_some _ g0
  have hx1 : (bpHp w s.heap).IsList l xs := ⟨_, g1, rfl, n0, rfl⟩
  have z1 := F.sub_list_set
  have z2 := F.sub_list_frozenset
  have z3 : (Value.type "list" == Value.type "dict") = false := by decide
  unfold Builtin.«set.__init__» noKeywords Builtin.Frozenset.updateFrom
  generalize qq : pyIter = PI
  wp_walk
  subst qq
  refine wpAny_pyIter_list hx1 ?_
  refine wpAny_bind (wpAny_runValue ?_)
  have lts : l < s.heap.objs.size := Heap.lt_size g0
  have hd3 : A.in1.in1.handled = none := by simp [hd]
  have zs : (bpHp w s.heap).objs.size = s.heap.objs.size + 1 := Heap.size_push ..
  have ne1 : l ≠ (bpHp w s.heap).objs.size := by rw [zs]; exact Nat.ne_of_lt (Nat.lt_succ_of_lt lts)
  have out1 : s.heap.objs.size ∉ [(bpHp w s.heap).objs.size, l] := by
    rw [zs]
    intro hm
    rcases List.mem_cons.mp hm with hm | hm
    · exact Nat.ne_of_lt (Nat.lt_succ_self _) hm
    · exact Nat.ne_of_gt lts (List.mem_singleton.mp hm)
  have vals : ∀ (i : Nat) (v : Value), xs[i]? = some v → ∃ k t, ns[i]? = some k ∧ v = .int k t := fun i v hv => by
    have lt : i < ns.length := by rw [← len]; exact (Array.getElem?_eq_some_iff.mp hv).1
    obtain ⟨t, ht⟩ := IntsAre.int_at hi i v ((Array.getElem?_toList (xs := xs)).trans hv)
    refine ⟨ns[i], t, List.getElem?_eq_getElem lt, ht.trans ?_⟩
    rw [List.getD_eq_getElem?_getD, List.getElem?_eq_getElem lt]
    rfl
  refine set_update_ints ((Walks.list hd3 _ l ne1 xs).toS) s.heap.objs.size out1 ns len room vals (xs.size - 0) 0 _ rfl (Nat.zero_le _) ⟨⟨_, Heap.get?_push_size _ rfl, rfl, rfl⟩, hx1.push _⟩ ⟨0, Nat.le_refl 0, setR_new_at (Heap.get?_push_of_some _ me)⟩ fun s' c' hm hc' hS' => ?_
  obtain ⟨h', g', d', tk', os'⟩ := s'
  have q1 : g' = s.gens := hm.gens
  have q2 : d' = s.drawn := hm.drawn
  have q3 : os' = s.os := hm.os
  subst q1
  subst q2
  subst q3
  refine wpAny_pure ?_
  show wpAny _ _ (ret Value.none) _ _ _
  refine wpAny_pure ⟨rfl, h', tk', c', rfl, hS', (by rw [← len]; exact hc'), fun b o e => ?_⟩
  have b0 : b < s.heap.objs.size := Heap.lt_size e
  refine hm.heap b o (fun hb => ?_) (Heap.get?_push_of_some _ (Heap.get?_push_of_some _ e))
  rcases List.mem_cons.mp hb with hb | hb
  · exact Nat.ne_of_lt b0 hb
  · exact Nat.ne_of_lt (Nat.lt_succ_of_lt b0) ((List.mem_singleton.mp hb).trans zs)
theorem bp_set_list {l : Addr} {xs : Array Value} (ns : List Int) {Q : Value → Shared → Prop} (hd : A.handled = none) (hx : s.heap.IsList l xs) (hi : IntsAre xs.toList ns) (room : ns.length + 1 < scanBound)
    (h : ∀ s₂, BpMade w s ns s₂ → Q (.ref s.heap.objs.size) s₂) : wpAny (model P w) A (call (.type "set") [.ref l]) Q E s := by
  obtain ⟨c, tl, hmro⟩ := F.called_set.mro
  have q0 := F.called_set.made
  have q1 := F.called_set.sub
  refine wpAny_call (codeAny_of_tree ?_)
  show wpAny _ _ (callAny (.type "set") _) _ _ _
  refine wpAny_pure ⟨Code.quiet_builtin _ (by decide +kernel), codeAny_builtin F.entry_type_call ?_⟩
  rw [Around.under_plain (weight_type_call_type "set" [.ref l] []) rfl]
  have q2 := F.called_set.notType
  have q3 := F.called_set.canCreate
  have q4 := F.typeCall_set_1 (.ref l)
  repeat (any_goals (first | assumption | wp_step))
  refine codeAny_mono (code_set_led1 (.ref l) (E := E) (Q₁ := fun x s₁ => x = .ref s.heap.objs.size ∧ s₁ = { s with heap := bpHp w s.heap }) ⟨rfl, rfl⟩) fun r s₁ hr => ?_
  cases r with
  | error e => exact hr
  | ok fl =>
    cases fl with
    | ret obj =>
      obtain ⟨rfl, rfl⟩ := hr
      have me : (bpHp w s.heap).get? s.heap.objs.size = some (bpNew w) := Heap.get?_push_size _ rfl
      have ty : Shared.TypeIs { s with heap := bpHp w s.heap } (.ref s.heap.objs.size) "set" := ⟨_, me, rfl⟩
      have i1 := F.called_set.init.lookup
      have i2 := F.called_set.init.bind (.ref s.heap.objs.size)
      repeat (any_goals (first | assumption | wp_step))
      refine codeAny_mono (bp_init (E := E) ns (by simp [hd]) hx hi room) fun r₂ s₂ hr₂ => ?_
      cases r₂ with
      | error e => exact hr₂
      | ok fl₂ =>
        cases fl₂ with
        | ret r =>
          obtain ⟨rfl, hm⟩ := hr₂
          repeat (any_goals (first | assumption | wp_step))
          exact h _ hm
        | _ => exact hr₂.elim
    | _ => exact hr.elim
/-- sorted(set), of any size below the line -/
theorem bp_sorted_set {a : Addr} {S : Int → Bool} {n : Nat} {Q : Value → Shared → Prop} (R : SetR w s.heap a S n) (hd : A.handled = none)
    (q : ∀ s' p (out : List Value) (c : Nat) (ns : List Int), (∀ b o, s.heap.get? b = some o → s'.heap.get? b = some o) → s'.gens = s.gens → s'.os = s.os → s.heap.objs.size ≤ p →
      s'.heap.get? p = some (seqObj "list" out.toArray c) → IntsAre out ns → ns.Pairwise (· < ·) → (∀ k, k ∈ ns ↔ S k = true) → ns.length = n → n < scanBound → Q (.ref p) s') : wpAny (model P w) A (call (.builtin "sorted") [.ref a]) Q E s := by
  obtain ⟨o, es, ep, t, ho, hex, hdt, g, nd, hm, hb, hf, hn, hr, hl⟩ := R
  refine Calls.call_function_entry kind_sorted plain_sorted entry_sorted (args_sorted1 _) ?_
  unfold Builtin.«sorted»
  refine wpAny_bind (m := checkCount "sorted" 1 1 _) (wpAny_pure ?_)
  refine wpAny_bind (collect_set (A := A.in1) hd ⟨o, ho, hex.1, hdt⟩ hf hb hr hl fun s1 vs k1 hz g1 o1 pm => ?_)
  have lv : vs.length = n := (pm.length_eq.trans (by rw [List.length_map, Array.length_toList])).trans hn
  have mem : ∀ v ∈ vs, ∃ k tk, v = Value.int k tk := fun v hv => by
    obtain ⟨e, he, hq⟩ := List.mem_map.mp (pm.mem_iff.mp hv)
    obtain ⟨k, tk, h1, _⟩ := g e he
    exact ⟨k, tk, hq.symm.trans h1⟩
  have hI := SrtO.ints_iv mem
  have pk : (vs.map SrtO.iv).Perm (es.toList.map keyOf) := by
    have z := pm.map SrtO.iv
    rw [List.map_map] at z
    exact z
  have lz : vs.length ≤ sizeLine := by rw [lv, ← hn]; exact fits_of_scanBound hb
  refine wpAny_bind (wpAny_newList ?_ lz)
  have here : (s1.heap.push (seqObj "list" vs.toArray 0)).get? s1.heap.objs.size = some (seqObj "list" vs.toArray 0) := Heap.get?_push_size _ rfl
  refine wpAny_bind (wpAny_holding (wpAny_call_entry slot_list_sort ⟨_, here, rfl⟩ entry_list_sort (SrtO.list_sort_ord SrtO.swo_int here lz (fun h2 => SrtO.ints_sortable hI h2) fun out h1 h2 => ⟨_, rfl, ?_⟩) (args_list_sort _)))
  obtain ⟨a1, a2, a3⟩ := SrtO.ints_out hI h1 h2
  obtain ⟨c, hc⟩ := sortedHeap_at (vs := vs) (out := out.toArray) here
  have pn := a2.trans pk
  refine wpAny_pure ⟨_, rfl, q _ s1.heap.objs.size out c (out.map SrtO.iv) (fun b u e => ?_) g1 o1 hz hc a1 (lt_of_le_nodup _ a3 (pn.nodup_iff.mpr nd)) (fun k => (pn.mem_iff).trans (hm k).symm) ?_ (by rw [← hn]; exact hb)⟩
  · have e1 := k1 b u e
    have lt := Heap.lt_size e1
    exact (sortedHeap_old (Nat.ne_of_lt lt) (by rw [size_push']; exact Nat.lt_succ_of_lt lt)).trans (Heap.get?_push_of_some _ e1)
  · exact (pn.length_eq.trans (by rw [List.length_map, Array.length_toList])).trans hn
end
/-- set(xs) of a list of whole numbers -/
def rSetI (K : PySem.W.Frag) (w : World) : List V → Hp → VK → Prop := fun vs H Q => ∃ (a : Addr) (ns : List Int), vs = [V.ref a] ∧ SqL K H a (ns.map V.int) ∧ ns.length ≤ 1000 ∧
  ∀ (p : Addr) (c : Nat), H p = none → Q (.ref p) (upd H p (SetO w p (fun j => decide (j ∈ ns)) c))
/-- sorted(s) of such a set -/
def rSortS (w : World) : List V → Hp → VK → Prop := fun vs H Q => ∃ (a : Addr) (S : Int → Bool) (n : Nat), vs = [V.ref a] ∧ H a = some (SetO w a S n) ∧
  ∀ (ns : List Int) (p : Addr), ns.Pairwise (· < ·) → (∀ k : Int, k ∈ ns ↔ S k = true) → H p = none → Q (.ref p) (upd H p (.lst (ns.map V.int)))
section
variable {X : Cx}
theorem cr_setI (hc : X.calm = true) : CallR X (.type "set") (rSetI X.K X.w) := by
  intro pins s σ H vs us Q I r h
  obtain ⟨a, ns, rfl, hs, lz, q⟩ := h
  obtain ⟨its, rv, hl, hz⟩ := I.list hs
  rw [Vals.ref1 r]
  refine bp_set_list ns (I.ok.hd hc) hl.isList (by simpa using rv.ints) (by unfold scanBound; omega) fun s₂ hm => ?_
  obtain ⟨h', tk, c, rfl, R, _, k⟩ := hm
  exact ⟨.ref _, upd H s.heap.objs.size (SetO X.w s.heap.objs.size (fun j => decide (j ∈ ns)) c), I.laid (t' := tk) k (Nat.le_refl _) (setO_new R), rfl, q _ c (I.hok.fresh (Nat.le_refl _))⟩
theorem cr_sortS (hc : X.calm = true) : CallR X (.builtin "sorted") (rSortS X.w) := by
  intro pins s σ H vs us Q I r h
  obtain ⟨a, S, n, rfl, ha, q⟩ := h
  rw [Vals.ref1 r]
  refine bp_sorted_set (setO_get I ha) (I.ok.hd hc) fun s' p out c ns k g o hp hg hi hs hm hl hb => ?_
  have lz : (ns.map V.int).length ≤ sizeLine := by rw [List.length_map, hl]; exact fits_of_scanBound hb
  have np : H p = none := I.hok.fresh hp
  cases s' with
  | mk h1 g1 d1 t1 o1 =>
    cases g
    cases o
    have J : Inv X pins σ (upd H p (.lst (ns.map V.int))) { s with heap := h1, drawn := d1, toks := t1 } :=
      I.call (ch := []) (Un.laid k hp np) (I.hok.laid k hp ⟨lz, out, c, vals_of_ints hi, hg⟩) I.bare (fun _ z => nomatch z)
    exact ⟨.ref p, _, J, rfl, q ns p hs hm np⟩
end
end L2
/-! Benchpair: classes made, their methods, isinstance of own classes, is of truths. -/
namespace Bp
open PySem PySem.Spec PyProof.Rows L2
/-- a method of the text's class at C -/
structure DefM (K : PySem.W.Frag) (C : Addr) (m q : Str) (st : Stmt) (ps : List Str) : Prop where
  cls : Cls K C
  ex : ∃ (f : Addr) (fd : FuncData), FunD K m q (defArgs st) (defBody st) (defScope st) [] [] f fd ∧ Meth K C m f ∧ Binds K fd ps []
structure MetX (P : Program) (w : World) (K : PySem.W.Frag) (mg : Str → Option Value) (base : Heap) (k : Nat) (C : Addr) (m : Str) (sp : Sp) : Prop where
  ex : ∃ (f : Addr) (fd : FuncData) (ps : List Str), Cls K C ∧ Meth K C m f ∧ FnOk P w K mg base CX0 k f fd ps sp ∧ Binds K fd ps []
/-- the __init__ of the class at C, named x -/
structure DefI (K : PySem.W.Frag) (mg : Str → Option Value) (x : Str) (C : Addr) (q : Str) (st : Stmt) (ps : List Str) : Prop where
  g : mg x = some (.ref C)
  ex : ∃ (f : Addr) (fd : FuncData), FunD K "__init__" q (defArgs st) (defBody st) (defScope st) [] [] f fd ∧ Mk K C f ∧ Binds K fd ps []
structure MakX (P : Program) (w : World) (K : PySem.W.Frag) (mg : Str → Option Value) (base : Heap) (k : Nat) (x : Str) (C : Addr) (sp : Sp) : Prop where
  ex : ∃ (f : Addr) (fd : FuncData) (ps : List Str), Mk K C f ∧ FnOk P w K mg base CX0 k f fd ps sp ∧ mg x = some (.ref C) ∧ Binds K fd ps []
section
variable {P : Program} {w : World} {K : PySem.W.Frag} {mg : Str → Option Value} {base : Heap} {x m q : Str} {C : Addr} {st : Stmt} {ps N : List Str} {k : Nat} {sp : Sp}
theorem DefM.met (D : DefM K C m q st ps) (S : FnScope N ps (defScope st)) (len : ∀ vs H Q E, sp vs H Q E → vs.length = ps.length)
    (body : ∀ (f : Addr) (cdv : Value) (A : Around) (outer : List Env) (s : Shared) (H : Hp) (vs : List V) (Q : VK) (E : XK), Room k (A.deeper (envOfC q (defScope st) s.heap.objs.size f cdv)) → sp vs H Q E →
      ∃ t, PSs (cxOf CX0 P w K mg base N q (defScope st) f cdv A outer s H E).nox (defBody st) t ∧ t { nx := fun _ H' => Q .non H', rt := Q } (start N vs) H) : MetX P w K mg base (k + 1) C m sp := by
  obtain ⟨f, fd, F, me, b⟩ := D.ex
  refine ⟨f, fd, ps, D.cls, me, F.ok S len fun cdv A outer s H vs Q E hr h => ?_, b⟩
  obtain ⟨t, h1, h2⟩ := body f cdv A outer s H vs Q E hr h
  exact ⟨t, h1.nox, h2⟩
theorem DefI.mak (D : DefI K mg x C q st ps) (S : FnScope N ps (defScope st)) (len : ∀ vs H Q E, sp vs H Q E → vs.length = ps.length)
    (body : ∀ (f : Addr) (cdv : Value) (A : Around) (outer : List Env) (s : Shared) (H : Hp) (vs : List V) (Q : VK) (E : XK), Room k (A.deeper (envOfC q (defScope st) s.heap.objs.size f cdv)) → sp vs H Q E →
      ∃ t, PSs (cxOf CX0 P w K mg base N q (defScope st) f cdv A outer s H E).nox (defBody st) t ∧ t { nx := fun _ H' => Q .non H', rt := Q } (start N vs) H) : MakX P w K mg base (k + 1) x C sp := by
  obtain ⟨f, fd, F, me, b⟩ := D.ex
  refine ⟨f, fd, ps, me, F.ok S len fun cdv A outer s H vs Q E hr h => ?_, D.g, b⟩
  obtain ⟨t, h1, h2⟩ := body f cdv A outer s H vs Q E hr h
  exact ⟨t, h1.nox, h2⟩
end
/-- o.m(e, ..), C(e, ..) by their promises -/
def tMet (C : Addr) (m : Str) (sp : Sp) (ta : TE) (t : TA) : TE := fun σ H Q => ta σ H fun x H1 => ∃ a dx fs, x = .ref a ∧ H1 a = some (.ins C dx fs) ∧ fs.lookup m = none ∧ t σ H1 fun vs H2 => sp (x :: vs) H2 Q E0
def tMak (C : Addr) (sp : Sp) (t : TA) : TE := fun σ H Q => t σ H fun vs H1 => ∀ x dx, H1 x = none → H1 dx = none → dx ≠ x → sp (.ref x :: vs) (upd (upd H1 dx (.own x)) x (.ins C dx [])) (fun v H2 => v = .non ∧ Q (.ref x) H2) E0
theorem tMet_eq (C : Addr) (m : Str) (sp : Sp) (ta : TE) (t : TA) : tMeth C m sp [] E0 ta t = tMet C m sp ta t := by
  funext σ H Q
  unfold tMeth tMet
  simp only [List.append_nil]
theorem tMak_eq (C : Addr) (sp : Sp) (t : TA) : tMake C sp [] E0 t = tMak C sp t := by
  funext σ H Q
  unfold tMake tMak
  simp only [List.append_nil]
section
variable {X : Cx} {k j : Nat} {C : Addr} {x m : Str} {sp : Sp} {p pos apos : Pos} {e o : Expr} {es : List Expr} {ta : TE} {t : TA}
theorem pe_met {pl : Sem Bool} (c : MetX X.prog X.w X.K X.mg X.base k C m sp) (hr : Room j X.A) (hk : k ≤ j) (he : PE X o ta) (ha : PA X (e :: es) t)
    (h1 : starEach (e :: es) X.env = (false, eval e X.env) :: starEach es X.env := by rfl) (h2 : (backTo pos (starEach es X.env)).any (·.1) = false := by rfl)
    (h3 : eval (.Call (.Attribute o m apos) (e :: es) [] pos) X.env = (eval o X.env >>= fun ov => standAt apos.atName >>= fun _ => holding [ov] (getMethod ov m pl) >>= fun r =>
      callWith pos r.1 r.2 (backTo pos (starEach (e :: es) X.env)) (backToKw pos (keywordEach [] X.env))) := by rfl) : PE X (.Call (.Attribute o m apos) (e :: es) [] pos) (tMet C m sp ta t) := by
  obtain ⟨f, fd, ps, hc, hm, F, b⟩ := c.ex
  rw [← tMet_eq]
  exact pe_meth (pl := pl) he hc hm F (hr.mono hk) b .nil pass0 ha h1 h2 h3
theorem pe_mak (c : MakX X.prog X.w X.K X.mg X.base k x C sp) (hr : Room j X.A) (hk : k + 1 ≤ j) (hg : Gl X x) (ha : PA X (e :: es) t) (hdb : (x == ("__debug__" : Str)) = false := by decide)
    (h1 : starEach (e :: es) X.env = (false, eval e X.env) :: starEach es X.env := by rfl) (h2 : (backTo pos (starEach es X.env)).any (·.1) = false := by rfl) : PE X (.Call (.Name x p) (e :: es) [] pos) (tMak C sp t) := by
  obtain ⟨f, fd, ps, M, F, hm, b⟩ := c.ex
  rw [← tMak_eq]
  exact pe_make M F (hr.mono hk) hg hm b .nil pass0 ha hdb h1 h2
/-- an expression that is read in one of two ways -/
theorem pe_or {t1 t2 : TE} (h1 : PE X e t1) (h2 : PE X e t2) : PE X e fun σ H Q => t1 σ H Q ∨ t2 σ H Q := ⟨fun pins s σ H Q I h => by
  rcases h with h | h
  · exact h1.run pins s σ H Q I h
  · exact h2.run pins s σ H Q I h⟩
end
/-! ### is -/
def rIsN : R2 := fun x y H Q => y = .non ∧ Q (.bl (decide (x = .non))) H
def rNotN : R2 := fun x y H Q => y = .non ∧ Q (.bl (!decide (x = .non))) H
def rIsB : R2 := fun x y H Q => ∃ b c, x = .bl b ∧ y = .bl c ∧ Q (.bl (b == c)) H
def rNotB : R2 := fun x y H Q => ∃ b c, x = .bl b ∧ y = .bl c ∧ Q (.bl (!(b == c))) H
def rEqB : R2 := fun x y H Q => ∃ b c, x = .bl b ∧ y = .bl c ∧ Q (.bl (b == c)) H
section
variable {X : Cx}
theorem cp_isN : OpR X (compareOp .Is) rIsN := op_isN
theorem cp_notN : OpR X (compareOp .IsNot) rNotN := op_notN
theorem cp_isB : OpR X (compareOp .Is) rIsB := by
  intro pins s σ H x y v u Q I rx ry h
  obtain ⟨b, c, rfl, rfl, q⟩ := h
  cases rx
  cases ry
  refine (wpAny_bind (wpAny_isSame_plain (by cases b <;> cases c <;> rfl) (wpAny_pure (fin_bl I q ?_))) : wpAny _ _ ((isSame (Value.bool b) (Value.bool c)) >>= fun z => pure (Value.bool z)) _ _ s)
  cases b <;> cases c <;> rfl
theorem cp_notB : OpR X (compareOp .IsNot) rNotB := by
  intro pins s σ H x y v u Q I rx ry h
  obtain ⟨b, c, rfl, rfl, q⟩ := h
  cases rx
  cases ry
  refine (wpAny_bind (wpAny_isSame_plain (by cases b <;> cases c <;> rfl) (wpAny_pure (fin_bl I q ?_))) : wpAny _ _ ((isSame (Value.bool b) (Value.bool c)) >>= fun z => pure (Value.bool (!z))) _ _ s)
  cases b <;> cases c <;> rfl
end
section
variable {K : PySem.W.Frag} {σ : L2.St} {H : Hp} {Q : VK} {D : Ends} {ta tv : TE} {ts : TA} {x : V} {p C CD dx : Addr} {fs : List (Str × V)} {m : Int} {b c r : Bool} {sp : Sp} {f mm : Str} {v : V}
theorem i_isN (h : Q (.bl (decide (x = .non))) H) : rIsN x .non H Q := ⟨rfl, h⟩
theorem i_notNi (h : Q (.bl true) H) : rNotN (.int m) .non H Q := ⟨rfl, h⟩
theorem i_notNn (h : Q (.bl false) H) : rNotN .non .non H Q := ⟨rfl, h⟩
theorem i_isB (h : Q (.bl (b == c)) H) : rIsB (.bl b) (.bl c) H Q := ⟨b, c, rfl, rfl, h⟩
theorem i_notB (h : Q (.bl (!(b == c))) H) : rNotB (.bl b) (.bl c) H Q := ⟨b, c, rfl, rfl, h⟩
def kFld (K : PySem.W.Frag) (f : Str) (Q : VK) : VK := fun x H1 => ∃ a C dx fs v, x = .ref a ∧ H1 a = some (.ins C dx fs) ∧ Cls K C ∧ NoAttr K C f ∧ fs.lookup f = some v ∧ Q v H1
theorem i_fld (h : ta σ H (kFld K f Q)) : tFld K ta f σ H Q := h
theorem i_fldE (e : H p = some (.ins C dx fs)) (c : Cls K C) (n : NoAttr K C f) (l : fs.lookup f = some v) (h : Q v H) : kFld K f Q (.ref p) H := ⟨p, C, dx, fs, v, rfl, e, c, n, l, h⟩
theorem i_sfld (h : tv σ H fun y H1 => ta σ H1 fun x H2 => ∃ a C dx fs, x = .ref a ∧ H2 a = some (.ins C dx fs) ∧ Cls K C ∧ NoAttr K C f ∧ fs.length < 1000 ∧ D.nx σ (upd H2 a (.ins C dx (putF f y fs)))) : sFld K ta tv f D σ H := h
theorem i_sfldE {y : V} {R : Hp → Prop} (e : H p = some (.ins C dx fs)) (c : Cls K C) (n : NoAttr K C f) (l : fs.length < 1000) (h : R (upd H p (.ins C dx (putF f y fs)))) : ∃ a C dx fs, V.ref p = .ref a ∧ H a = some (.ins C dx fs) ∧ Cls K C ∧ NoAttr K C f ∧ fs.length < 1000 ∧ R (upd H a (.ins C dx (putF f y fs))) := ⟨p, C, dx, fs, rfl, e, c, n, l, h⟩
def kMet (C : Addr) (mm : Str) (sp : Sp) (ts : TA) (σ : L2.St) (Q : VK) : VK := fun x H1 => ∃ a dx fs, x = .ref a ∧ H1 a = some (.ins C dx fs) ∧ fs.lookup mm = none ∧ ts σ H1 fun vs H2 => sp (x :: vs) H2 Q E0
theorem i_met (h : ta σ H (kMet C mm sp ts σ Q)) : tMet C mm sp ta ts σ H Q := h
theorem i_metE (e : H p = some (.ins C dx fs)) (l : fs.lookup mm = none) (h : ts σ H fun vs H2 => sp (.ref p :: vs) H2 Q E0) : kMet C mm sp ts σ Q (.ref p) H := ⟨p, dx, fs, rfl, e, l, h⟩
theorem i_mak (h : ts σ H fun vs H1 => ∀ x dx, H1 x = none → H1 dx = none → dx ≠ x → sp (.ref x :: vs) (upd (upd H1 dx (.own x)) x (.ins C dx [])) (fun v H2 => v = .non ∧ Q (.ref x) H2) E0) : tMak C sp ts σ H Q := h
theorem i_eqB (h : Q (.bl (b == c)) H) : rEq (.bl b) (.bl c) H Q := ⟨rfl, by
  have e : decide (V.bl b = V.bl c) = (b == c) := by cases b <;> cases c <;> rfl
  rw [e]; exact h⟩
theorem i_neB (h : Q (.bl (!(b == c))) H) : rNe (.bl b) (.bl c) H Q := ⟨rfl, by
  have e : decide (V.bl b = V.bl c) = (b == c) := by cases b <;> cases c <;> rfl
  rw [e]; exact h⟩
theorem i_not12 (hp : H p = some (.tup [.int 1, .int 2])) (h : Q (.bl (!decide (m = 1 ∨ m = 2))) H) : rIn K true (.int m) (.ref p) H Q := by
  refine ⟨p, _, rfl, .inr (SqT.of hp), rfl, rfl, ?_⟩
  have e : inV (.int m) [.int 1, .int 2] = decide (m = 1 ∨ m = 2) := by
    simp only [inV, List.any_cons, List.any_nil, eqV, Bool.or_false]
    rw [Bool.eq_iff_iff]
    simp only [Bool.or_eq_true, decide_eq_true_eq, beq_iff_eq]
    omega
  rw [e]
  exact h
/-- for x, y in zip(xs, ys) -/
theorem for_zip {a b : Addr} {xs ys : List V} {g : TG} {t : TS} (Pv : Nat → L2.St → Hp → Prop) (h0 : Pv 0 σ H) (hl : ∀ i σ H, Pv i σ H → SqL K H a xs ∧ SqL K H b ys) (hlen : xs.length = ys.length)
    (hs : ∀ (i : Nat) (x y : V) (T : Addr) (σ : L2.St) (H H' : Hp), xs[i]? = some x → ys[i]? = some y → Pv i σ H → H T = none → Same H H' → H' T = some (.tup [x, y]) → g (.ref T) σ H' fun σ2 H2 => t { D with nx := Pv (i + 1), ct := Pv (i + 1), bk := D.nx } σ2 H2)
    (hd : ∀ σ H, Pv xs.length σ H → D.nx σ H) : ∃ W : Nat → Nat → L2.St → Hp → Prop, (∃ m, W 0 m σ H) ∧ ∀ i m σ H, W i m σ H →
      ((Itz K a b).stop i H ∧ D.nx σ H) ∨ ((Itz K a b).go i H ∧ ∃ N : L2.St → Hp → Prop, (∀ σ' H', N σ' H' → ∃ m', m' < m ∧ W (i + 1) m' σ' H') ∧ ∀ v H', (Itz K a b).yld i H v H' → g v σ H' fun σ2 H2 => t { D with nx := N, ct := N, bk := D.nx } σ2 H2) := by
  refine ⟨fun i m σ H => m = xs.length - i ∧ i ≤ xs.length ∧ Pv i σ H, ⟨xs.length, rfl, Nat.zero_le _, h0⟩, ?_⟩
  rintro i m σ H ⟨rfl, hi, pv⟩
  obtain ⟨q1, q2⟩ := hl i σ H pv
  by_cases lt : i < xs.length
  · have e1 := List.getElem?_eq_getElem lt
    have e2 := List.getElem?_eq_getElem (show i < ys.length by omega)
    refine .inr ⟨⟨xs, ys, _, _, q1, q2, e1, e2⟩, Pv (i + 1), fun σ' H' pv' => ⟨xs.length - (i + 1), by omega, rfl, lt, pv'⟩, fun v H' yl => ?_⟩
    obtain ⟨T, x, y, rfl, nT, rfl, f1, f2⟩ := yl
    exact hs i x y T σ H _ (f1 xs q1) (f2 ys q2) pv nT (Same.upd nT) upd_same
  · have e : i = xs.length := by omega
    subst e
    exact .inl ⟨⟨xs, ys, q1, q2, .inl (Nat.le_refl _)⟩, hd σ H pv⟩
/-- isinstance of own classes -/
structure Own (K : PySem.W.Frag) (C : Addr) : Prop where
  cls : Cls K C
  ha : PySem.W.findIn K (.ref C) "__class__" = some (some (.builtin "object.__class__"))
  hn : PySem.W.specialIn K (.builtin "object.__class__") "__get__" = some (some (.builtin "getset_descriptor.__get__"))
  htk : PySem.W.takesIn K (.builtin "object.__class__") = some true
  hm : PySem.W.mroIn K C (.type "object") = some true
theorem i_isC (O : Own K C) (e : H p = some (.ins C dx fs)) (kb : PySem.W.kitOne K (.ref C) (.ref CD) = some r) (h : Q (.bl r) H) : rIsi K [.ref p, .ref CD] H Q :=
  ⟨.ref p, .ref CD, .ref C, .ref CD, r, rfl, .own CD, .base (.ins e O.cls O.ha O.hn O.htk O.hm), kb, h⟩
end
def ownB (K : PySem.W.Frag) (C : Addr) : Bool := decide (PySem.W.findIn K (.ref C) "__class__" = some (some (.builtin "object.__class__"))) && decide (PySem.W.specialIn K (.builtin "object.__class__") "__get__" = some (some (.builtin "getset_descriptor.__get__"))) &&
  decide (PySem.W.takesIn K (.builtin "object.__class__") = some true) && decide (PySem.W.mroIn K C (.type "object") = some true)
theorem ownB_ok {K : PySem.W.Frag} {C : Addr} (c : Cls K C) (h : ownB K C = true) : Own K C := by
  unfold ownB at h
  rw [Bool.and_eq_true, Bool.and_eq_true, Bool.and_eq_true] at h
  exact ⟨c, of_decide_eq_true h.1.1.1, of_decide_eq_true h.1.1.2, of_decide_eq_true h.1.2, of_decide_eq_true h.2⟩
/-- what isinstance tells of two of the text's classes -/
def kitB2 (K : PySem.W.Frag) (t : Str × Str × Bool) : Bool := decide (PySem.W.kitOne K (.ref (He.ga K t.1)) (.ref (He.ga K t.2.1)) = some t.2.2)
/-- the head's further facts -/
def exB (os : List Str) (ks : List (Str × Str × Bool)) (K : PySem.W.Frag) : Bool := (os.all fun x => ownB K (He.ga K x)) && ks.all (kitB2 K)
section
variable {os : List Str} {ks : List (Str × Str × Bool)} {K : PySem.W.Frag}
theorem exB_own (h : exB os ks K = true) (i : Nat) {x : Str} (e : os[i]? = some x) (c : Cls K (He.ga K x)) : Own K (He.ga K x) := by
  unfold exB at h
  rw [Bool.and_eq_true] at h
  exact ownB_ok c (List.all_eq_true.mp h.1 x (List.mem_of_getElem? e))
theorem exB_kit (h : exB os ks K = true) (i : Nat) {x y : Str} {b : Bool} (e : ks[i]? = some (x, y, b)) : PySem.W.kitOne K (.ref (He.ga K x)) (.ref (He.ga K y)) = some b := by
  unfold exB at h
  rw [Bool.and_eq_true] at h
  exact of_decide_eq_true (List.all_eq_true.mp h.2 _ (List.mem_of_getElem? e))
end
/-- the Hook, with further facts -/
def obsX (n : Nat) (fa : List He.Fa) (fn : List He.DefD) (ex : PySem.W.Frag → Bool) (g : Addr → Option Obj) : He.AlD × Bool := (He.obsD fa fn (He.frG g (He.asD g n)), ex (He.frG g (He.asD g n)))
def SaysX (fa : List He.Fa) (fn : List He.DefD) (ex : PySem.W.Frag → Bool) (K : PySem.W.Frag) : Prop := He.SaysD fa fn K ∧ ex K = true
def hookX (n : Nat) (fa : List He.Fa) (fn : List He.DefD) (ex : PySem.W.Frag → Bool) : PySem.W.Hook where
  α := He.AlD × Bool
  obs := fun s => obsX n fa fn ex s.heap.get?
  val := fun _ => (He.valD fn, true)
  says := fun _ h => ∃ K : PySem.W.Frag, K.In h ∧ SaysX fa fn ex K
  of := fun _ _ e => ⟨_, He.frG_in, congrArg (fun z : He.AlD × Bool => z.1) e, congrArg (fun z : He.AlD × Bool => z.2) e⟩
  keeps := fun _ _ _ ⟨K, kin, c⟩ k => ⟨K, PySem.W.Frag.In.keeps kin k, c⟩
theorem obsX_eq {n : Nat} {fa : List He.Fa} {fn : List He.DefD} {ex : PySem.W.Frag → Bool} {g : Addr → Option Obj} {s : Shared} (h : ∀ a, g a = s.heap.get? a) : obsX n fa fn ex g = (hookX n fa fn ex).obs s := by
  rw [show g = s.heap.get? from funext h]
  rfl
end Bp
/-! Benchpair: a list of truths asked by any(..), and isinstance, while an exception is handled. -/
namespace L2
open PySem PySem.Spec PyProof.Rows HotX
section
variable {prog : Program} {w : World} {A : Around} {E : Value → Shared → Prop} {s : Shared}
theorem bp_list_end {it l x1 : Addr} {i : Nat} {items : Array Value} {Q : Option Value → Shared → Prop} (hot : HotAt A x1 s.heap) (ne : x1 ≠ it) (st : s.heap.IsListIter it l i) (hl : s.heap.IsList l items) (hx : items[i]? = none)
    (q : ∀ h', (∀ b o, b ≠ it → s.heap.get? b = some o → h'.get? b = some o) → Q none { s with heap := h' }) : wpAny (model prog w) A (pyNext (.ref it)) Q E s := by
  obtain ⟨oi, gi, ci, di⟩ := id st
  obtain ⟨ol, gl, _, nl, dl⟩ := hl
  obtain ⟨hh, o1, v1, g1, d1, c1⟩ := hot
  unfold pyNext
  refine wpAny_bind (wpAny_attempt (wpAny_callSpecial?_slot (name := Str.ofString "__next__") st.typeIs slot_listiter_next (wpAny_call_entry slot_listiter_next st.typeIs entry_listiter_next ?_ (args_listiter_next _))))
  show wpAny _ _ (field (.ref it) 0 >>= _) _ _ s
  refine wpAny_bind (wpAny_field gi di (x := .ref l) rfl ?_)
  show wpAny _ _ (if (Value.ref l == Value.none) = true then _ else _) _ _ s
  rw [if_neg (show ¬ ((Value.ref l == Value.none) = true) from fun z => nomatch z)]
  show wpAny _ _ (field (.ref it) 1 >>= _) _ _ s
  refine wpAny_bind (wpAny_field gi di (x := .int i 0) rfl ?_)
  show wpAny _ _ (seqItems? (.ref l) >>= _) _ _ s
  refine wpAny_bind (wpAny_seqItems gl dl ?_)
  simp only [Int.toNat_natCast, hx]
  refine wpAny_bind (wpAny_rule (wpAny_bind (wpAny_setField gi di (by simp) ?_)))
  refine wpAny_bind ?_
  show wpAny _ _ (newExc (.type "StopIteration") [] >>= _) _ _ _
  refine wpAny_bind ?_
  simp only [newExc, newTuple]
  refine wpAny_bind (wpAny_newObj_type ?_ (by size_fits))
  refine wpAny_bind (m := firstArgMember _ _) (wpAny_of_eq (a := Value.none) (by simp only [firstArgMember]; rfl) ?_)
  refine wpAny_newObj_type ?_ (by size_fits)
  refine wpAny_pure ?_
  have u1 : (s.heap.update it (Obj.mapFields fun x => x.setIfInBounds 0 Value.none)).get? x1 = some o1 := (Heap.get?_update_other _ _ (Ne.symm ne)).trans g1
  refine raiseNew_hot ⟨hh, o1, v1, Heap.get?_push_of_some _ (Heap.get?_push_of_some _ u1), d1, c1⟩ (Nat.ne_of_lt (Heap.lt_size (Heap.get?_push_of_some _ u1))) (Heap.get?_push_size _ rfl) rfl (by simp; try omega) ?_
  refine wpAny_bind (wpAny_isInstance (T := "StopIteration") (b := true) ⟨_, Heap.get?_update_self _ (Heap.get?_push_size _ rfl) rfl, rfl⟩ isSubtype_stop ?_)
  refine wpAny_pure (q _ fun b o hb e => ?_)
  have u2 : (s.heap.update it (Obj.mapFields fun x => x.setIfInBounds 0 Value.none)).get? b = some o := (Heap.get?_update_other _ _ (Ne.symm hb)).trans e
  rw [Heap.get?_update_other _ _ (Nat.ne_of_gt (Heap.lt_size (Heap.get?_push_of_some _ u2)))]
  exact Heap.get?_push_of_some _ (Heap.get?_push_of_some _ u2)
theorem bp_walks {I ax x1 : Addr} (n1 : x1 ≠ I) (n2 : ax ≠ I) (items : Array Value) (hh : A.handled = some (.ref x1)) {o1 : Obj} {v1 : Array Value} (d1 : o1.data = .fields v1) (c1 : v1[2]? = some .none) :
    Walks prog w A I [I, ax, x1] [I] items.size (fun i v => items[i]? = some v) (fun i h => h.IsListIter I ax i ∧ h.IsList ax items ∧ h.get? x1 = some o1) where
  sub := fun b hb => by
    rw [List.mem_singleton.mp hb]
    exact List.mem_cons_self
  frame := fun _ _ _ st k => ⟨st.1.at fun o e => k I (by simp) o e, st.2.1.at fun o e => k ax (by simp) o e, k x1 (by simp) o1 st.2.2⟩
  item := fun i s Q E hi st hQ => by
    refine wpAny_pyNext_list_item st.1 st.2.1 (x := items[i]) (Array.getElem?_eq_getElem hi) fun h' hit' hs' => ?_
    have keep : ∀ b o, b ∉ [I] → s.heap.get? b = some o → h'.get? b = some o := fun b o hb e => hs'.extBut b o (fun h => hb (by rw [h]; exact List.mem_cons_self)) e
    exact hQ _ h' s.toks (Array.getElem?_eq_getElem hi) ⟨hit', st.2.1.extBut hs'.extBut n2, keep x1 o1 (fun h => n1 (List.mem_singleton.mp h)) st.2.2⟩ keep
  done := fun s Q E st hQ => bp_list_end ⟨hh, o1, v1, st.2.2, d1, c1⟩ n1 st.1 st.2.1 (Array.getElem?_eq_none (Nat.le_refl _)) fun h' k => hQ h' s.toks fun b o hb e => k b o (fun h => hb (by rw [h]; exact List.mem_cons_self)) e
  self := fun _ _ _ _ st hQ => wpAny_pyIter_listiter st.1 hQ
end
section
variable {X : Cx} {a : Addr} {oe : Obj} {pn : List (Addr × Obj)} {cls : Value} {d : Option Addr}
/-- any(xs) in a suite -/
theorem bp_anyH (hz : L2N.Zn cls d oe) (hf : ∃ vs, oe.data = .fields vs) : CallR (X.suite a ((a, oe) :: pn)) (.builtin "any") (rAny X.K) := by
  intro pins s σ H vs us Q I r h
  obtain ⟨p, bs, rfl, hs, q⟩ := h
  obtain ⟨its, rv, hl, _⟩ := I.list hs
  rw [Vals.ref1 r]
  have hb := rv.bls
  obtain ⟨fv, hfv⟩ := hf
  have ctx := hz.2.2 fv hfv
  obtain ⟨ga, _, _, _, _⟩ := I.pin (a, oe) (List.mem_append.mpr (.inl List.mem_cons_self))
  refine call_any_walk (iter_any hl.isList fun s₂ e2 st hne => ?_)
  subst e2
  have na : a ≠ s.heap.objs.size := Nat.ne_of_lt (Heap.lt_size ga)
  refine ⟨_, _, _, _, _, _, _, rfl, bp_walks na hne its.toArray (A := (X.suite a ((a, oe) :: pn)).A.in1) rfl hfv ctx, ⟨st.1, st.2, Heap.get?_push_of_some _ ga⟩, truth_bools hb, fun h' tk hk => ?_⟩
  refine ⟨.bl _, H, I.kept fun b o eo => hk b o (fun hm => ?_) (Heap.get?_push_of_some _ eo), ?_, q⟩
  · exact absurd (Heap.lt_size eo) (by rw [List.mem_singleton.mp hm]; exact Nat.lt_irrefl _)
  · show Value.bool _ = Value.bool _
    rw [← any_range, hb, List.size_toArray, List.length_map]
/-- isinstance(error, c) in a suite, the error's class being told by the wish -/
def rIsX (K : PySem.W.Frag) (a : Addr) (cls : Value) (d : Option Addr) : List V → Hp → VK → Prop := fun xs H Q => ∃ D, cls = .ref D ∧ d = none ∧ ExcC K D ∧ rIsE K D a xs H Q
theorem bp_isX (hz : L2N.Zn cls d oe) (hf : ∃ vs, oe.data = .fields vs) : CallR (X.suite a ((a, oe) :: pn)) (.builtin "isinstance") (rIsX X.K a cls d) := by
  intro pins s σ H vs us Q I r h
  obtain ⟨D, rfl, rfl, C, h⟩ := h
  exact call_isE C hz.zc hf pins s σ H vs us Q I r h
end
end L2
/-! Benchpair: words about texts, max of a tuple, defs that raise an own error. -/
namespace L2
open PySem PySem.Spec PyProof.Rows
/-- max(t), t a tuple of whole numbers -/
def rMaxT (K : PySem.W.Frag) : List V → Hp → VK → Prop := fun vs H Q => ∃ (a : Addr) (ns : List Int), vs = [V.ref a] ∧ SqT K H a (ns.map V.int) ∧ 0 < ns.length ∧ ∀ m, m ∈ ns → (∀ y, y ∈ ns → y ≤ m) → Q (.int m) H
section
variable {X : Cx}
theorem bp_maxT (hc : X.calm = true) : CallR X (.builtin "max") (rMaxT X.K) := by
  intro pins s σ H vs us Q I r h
  obtain ⟨a, ns, rfl, hs, hne, q⟩ := h
  obtain ⟨its, rv, pt, hz⟩ := I.tuple hs
  rw [Vals.ref1 r]
  have hi := rv.ints
  obtain ⟨xs, e⟩ := hi.allInts.items
  have hn : numsOf (intItems xs).toList = ns := by rw [← e]; exact hi.numsOf
  rw [nums_intItems] at hn
  subst hn
  have hT : s.heap.IsTuple a (intItems xs) := by rw [← e]; exact pt
  have hsz : 0 < xs.size := by simpa using hne
  have lt : a < s.heap.objs.size := by
    obtain ⟨_, g, _⟩ := hT
    exact Heap.lt_size g
  refine call_max_walk (wpAny_pyIter_tuple hT ?_)
  refine ⟨_, [_, a], [_], _, _, _, _, rfl, Walks.tuple (A := X.A.in1) (I.ok.hd hc) _ a (Nat.ne_of_lt lt) (intItems xs), ⟨⟨_, Heap.get?_push_size _ rfl, rfl, rfl⟩, hT.push _⟩, fun d hd => ?_, by simpa [intItems] using hsz, CmpOf.ints_gt (numAt xs) (fun _ _ => intItems_at), fun v h' tk hP hk => ?_⟩
  · rw [Heap.size_push]
    rcases List.mem_cons.mp hd with rfl | hd
    · exact Nat.lt_succ_self _
    · rw [List.mem_singleton.mp hd]; exact Nat.lt_succ_of_lt lt
  · have hv : (intItems xs)[argBest (fun i j => decide (numAt xs i > numAt xs j)) (xs.size - 1)]? = some v := by simpa [intItems] using hP
    obtain ⟨t, rfl⟩ := intItems_at hv
    obtain ⟨h1, h2⟩ := argBest_gt (numAt xs) (xs.size - 1)
    refine ⟨.int _, H, I.kept (t' := tk) (fun b o eo => hk b o (fun hm => ?_) (Heap.get?_push_of_some _ eo)), ⟨_, rfl⟩, q _ ?_ fun y hy => ?_⟩
    · exact absurd (Heap.lt_size eo) (by rw [List.mem_singleton.mp hm]; exact Nat.lt_irrefl _)
    · rw [numAt_eq]; exact PySem.getD_mem (by rw [List.length_map, Array.length_toList]; omega)
    · obtain ⟨j, hj, rfl⟩ := mem_getD hy
      rw [List.length_map, Array.length_toList] at hj
      rw [← numAt_eq]; exact h2 j (by omega)
end
end L2
namespace Bp
open PySem PySem.Spec PyProof.Rows L2 SX
/-- a text times a number -/
def rMulS : R2 := fun x y H Q => ∃ (z : Str) (n : Int), x = .str z ∧ y = .int n ∧ MulOk z n ∧ Q (.str (Txt.mul z n)) H
def rAddS : R2 := fun x y H Q => ∃ i j : Str, x = .str i ∧ y = .str j ∧ i.length + j.length ≤ sizeLine ∧ Q (.str (i ++ j)) H
def rLenS : List V → Hp → VK → Prop := fun xs H Q => ∃ z : Str, xs = [.str z] ∧ z.length ≤ sizeLine ∧ Q (.int z.length) H
def rStrI : List V → Hp → VK → Prop := fun xs H Q => ∃ i : Int, xs = [.int i] ∧ i.natAbs.log2 < 1920 ∧ Q (.str (toString i)) H
def rIntS : List V → Hp → VK → Prop := fun xs H Q => ∃ (a : Str) (n : Int), xs = [.str a] ∧ PySem.intText? a = some n ∧ a.length ≤ 640 ∧ Q (.int n) H
def rStripC : V → List V → Hp → VK → Prop := fun x xs H Q => ∃ a b : Str, x = .str a ∧ xs = [.str b] ∧ a.length ≤ sizeLine ∧ Q (.str (Txt.stripChars a b)) H
def rSplitS : V → List V → Hp → VK → Prop := fun x xs H Q => ∃ a b : Str, x = .str a ∧ xs = [.str b] ∧ (b.length == 0) = false ∧ a.length + 2 ≤ sizeLine ∧ rNewStrs (Txt.split a b) H Q
def rJoinS (K : PySem.W.Frag) : V → List V → Hp → VK → Prop := fun x xs H Q => ∃ (a : Str) (p : Addr) (ys : List Str), x = .str a ∧ xs = [.ref p] ∧ (SqL K H p (ys.map V.str) ∨ SqT K H p (ys.map V.str)) ∧ (ys.map (·.length)).sum + ys.length * a.length ≤ 16777216 ∧ Q (.str (Txt.join a ys)) H
section
variable {X : Cx} {o e : Expr} {to te : TE} {apos pos : Pos}
theorem op_mulS : OpR X (binaryOp .Mult) rMulS := by
  intro pins s σ H x y v u Q I rx ry h
  obtain ⟨z, n, rfl, rfl, ok, q⟩ := h
  obtain ⟨t, rfl⟩ := rx
  obtain ⟨t', rfl⟩ := ry
  exact PySem.SB.mul ok fun t'' k => ⟨.str (Txt.mul z n), H, I.tok k, ⟨t'', rfl⟩, q⟩
theorem op_addS : OpR X (binaryOp .Add) rAddS := op_add_str
theorem cs_len : CallR X (.builtin "len") rLenS := call_len_str
theorem cs_str : CallR X (.type "str") rStrI := call_str_int
theorem cs_int : CallR X (.type "int") rIntS := call_int_str
theorem ms_strip : MtR X "str.strip" rStripC := mt_stripChars
theorem pe_splitS (ho : PE X o to) (he : PE X e te) (hs : starEach [e] X.env = [(false, eval e X.env)] := by rfl) (hb : attributeBase o "split" X.env (eval o X.env) = eval o X.env := by rfl) (hl : (apos.endLine == pos.line) = true := by rfl) :
    PE X (.Call (.Attribute o "split" apos) [e] [] pos) (tM1 rSplitS to te) := pe_split ho he hs hb hl
theorem pe_joinS (ho : PE X o to) (he : PE X e te) (hs : starEach [e] X.env = [(false, eval e X.env)] := by rfl) (hb : attributeBase o "join" X.env (eval o X.env) = eval o X.env := by rfl) (hl : (apos.endLine == pos.line) = true := by rfl) :
    PE X (.Call (.Attribute o "join" apos) [e] [] pos) (tM1 (rJoinS X.K) to te) := pe_join ho he hs hb hl
theorem pe_gnum {x : Str} {p : Pos} {i : Int} (hg : Gl X x) (h : ∃ t, X.mg x = some (.int i t)) (hd : (x == ("__debug__" : Str)) = false := by decide) : PE X (.Name x p) (tC (.int i)) := by
  obtain ⟨t, h⟩ := h
  exact pe_glob hg h ⟨t, rfl⟩ hd
theorem pe_gtxt {x z : Str} {p : Pos} (hg : Gl X x) (h : ∃ t, X.mg x = some (.str z t)) (hd : (x == ("__debug__" : Str)) = false := by decide) : PE X (.Name x p) (tC (.str z)) := by
  obtain ⟨t, h⟩ := h
  exact pe_glob hg h ⟨t, rfl⟩ hd
end
section
variable {K : PySem.W.Frag} {H : Hp} {Q : VK} {a b : List Nat} {x y : Str} {p : Addr} {m : Int} {σ : L2.St} {ta tb : TE} {rr : V → List V → Hp → VK → Prop}
theorem i_m1 (h : ta σ H fun x H1 => (∃ a, x = .str a) ∧ tb σ H1 fun y H2 => rr x [y] H2 Q) : tM1 rr ta tb σ H Q := h
theorem i_eqS (h : Q (.bl (decide (x = y))) H) : rEq (.str x) (.str y) H Q := ⟨rfl, by
  have e : decide (V.str x = V.str y) = decide (x = y) := decide_eq_decide.mpr ⟨fun h => V.str.inj h, fun h => by rw [h]⟩
  rw [e]; exact h⟩
theorem i_neS (h : Q (.bl (!decide (x = y))) H) : rNe (.str x) (.str y) H Q := ⟨rfl, by
  have e : decide (V.str x = V.str y) = decide (x = y) := decide_eq_decide.mpr ⟨fun h => V.str.inj h, fun h => by rw [h]⟩
  rw [e]; exact h⟩
theorem i_lenS (hz : x.length ≤ 1000000) (h : Q (.int x.length) H) : rLenS [.str x] H Q := ⟨x, rfl, Nat.le_trans hz (by decide), h⟩
theorem i_addS (hz : x.length + y.length ≤ 1000000) (h : Q (.str (x ++ y)) H) : rAddS (.str x) (.str y) H Q := ⟨x, y, rfl, rfl, Nat.le_trans hz (by decide), h⟩
theorem S_eq {a b : List Nat} : (S a = S b) ↔ a = b := ⟨S_inj, fun h => by rw [h]⟩
theorem tw_all {g : Nat → Bool} : ∀ l : List Nat, (∀ c ∈ l, g c = true) → l.takeWhile g = l
  | [], _ => rfl
  | c :: r, h => by
    rw [List.takeWhile_cons, if_pos (h c List.mem_cons_self), tw_all r fun d hd => h d (List.mem_cons_of_mem c hd)]
theorem tw_len {g : Nat → Bool} : ∀ l : List Nat, (l.takeWhile g).length ≤ l.length ∧ ((l.takeWhile g).length = l.length → ∀ c ∈ l, g c = true)
  | [] => ⟨Nat.le_refl _, fun _ c hc => nomatch hc⟩
  | c :: r => by
    obtain ⟨h1, h2⟩ := tw_len (g := g) r
    rw [List.takeWhile_cons]
    split
    · rename_i hc
      refine ⟨Nat.succ_le_succ h1, fun e d hd => ?_⟩
      rcases List.mem_cons.mp hd with rfl | hd
      · exact hc
      · exact h2 (Nat.succ.inj e) d hd
    · exact ⟨Nat.zero_le _, fun e => nomatch e⟩
theorem tw_next {g : Nat → Bool} : ∀ l : List Nat, (l.takeWhile g).length < l.length → ∃ c r, l.drop (l.takeWhile g).length = c :: r ∧ g c = false
  | [], h => absurd h (Nat.lt_irrefl _)
  | c :: r, h => by
    rw [List.takeWhile_cons] at h ⊢
    split
    · rename_i hc
      rw [if_pos hc] at h
      obtain ⟨d, q, h1, h2⟩ := tw_next (g := g) r (Nat.lt_of_succ_lt_succ h)
      exact ⟨d, q, h1, h2⟩
    · rename_i hc
      exact ⟨c, r, rfl, by simpa using hc⟩
/-- strip of figures leaves nothing just where there are figures alone -/
theorem strip_all (a b : List Nat) : (Txt.stripChars (S a) (S b) = S []) ↔ ∀ c ∈ a, c ∈ b := by
  have hg : ∀ c, (S b).cps.contains c = true ↔ c ∈ b := fun c => by simp
  generalize hgg : (S b).cps.contains = g at hg
  have lo : stripLo g true (S a) = (a.takeWhile g).length := rfl
  have hi : stripHi g true (S a) (a.takeWhile g).length = a.length - ((a.drop (a.takeWhile g).length).reverse.takeWhile g).length := by
    show (S a).length - _ = _
    rw [S_len]
  obtain ⟨l1, l2⟩ := tw_len (g := g) a
  unfold Txt.stripChars Txt.stripBy
  rw [hgg]
  constructor
  · intro h c hc
    by_cases all : (a.takeWhile g).length = a.length
    · exact (hg c).mp (l2 all c hc)
    · exfalso
      obtain ⟨d, r, e1, e2⟩ := tw_next (g := g) a (by omega)
      have dl : (a.drop (a.takeWhile g).length).length = a.length - (a.takeWhile g).length := List.length_drop
      obtain ⟨k1, k2⟩ := tw_len (g := g) (a.drop (a.takeWhile g).length).reverse
      rw [List.length_reverse] at k1 k2
      have kne : ((a.drop (a.takeWhile g).length).reverse.takeWhile g).length ≠ (a.drop (a.takeWhile g).length).length := fun z => by
        have := k2 z d (by rw [List.mem_reverse, e1]; exact List.mem_cons_self)
        rw [e2] at this
        cases this
      split at h
      · have e := S_inj h
        rw [e] at hc
        cases hc
      · unfold stripped at h
        rw [lo, hi] at h
        have e := congrArg (fun z : Str => z.length) h
        simp only [Builtin.Str.strSub, Str.length, Array.size_extract] at e
        have sz : a.toArray.size = a.length := by simp
        simp at e
        omega
  · intro h
    have e := tw_all (g := g) a fun c hc => (hg c).mpr (h c hc)
    split
    · rename_i c
      unfold stripSame at c
      rw [Bool.and_eq_true, lo, e] at c
      have z : a.length = 0 := by simpa using c.1
      rw [List.eq_nil_of_length_eq_zero z]
    · unfold stripped
      rw [lo, hi, e]
      refine TL.ext_tl ?_
      simp [Builtin.Str.strSub, TL.tl]
end
end Bp
/-! Benchpair: defs that raise an own error, and the try around. -/
namespace Bp
open PySem PySem.Spec PyProof.Rows L2 SX
abbrev CalN (P : Program) (w : World) (K : PySem.W.Frag) (mg : Str → Option Value) (base : Heap) (k : Nat) (x : Str) (sp : Sp) : Prop := CalX P w K mg base (L2N.CX P w) k x sp
/-- what is asked of an error's class -/
structure Err (K : PySem.W.Frag) (mg : Str → Option Value) (x : Str) (C : Addr) : Prop where
  g : mg x = some (.ref C)
  q : PySem.W.excIn K C He.veBase "ValueError.__new__" = true
  k : PySem.W.keepIn K (.ref C) = true
  sub : PySem.W.subIn K (.ref C) (.type "BaseException") = some true
  ty : PySem.W.typeIn K (.ref C) = some (.type "type")
section
variable {P : Program} {w : World} {K : PySem.W.Frag} {mg : Str → Option Value} {base : Heap} {x : Str} {st : Stmt} {ps N : List Str} {k : Nat} {sp : Sp}
theorem Def.calN (D : Def K mg x st ps) (S : FnScope N ps (defScope st)) (len : ∀ vs H Q E, sp vs H Q E → vs.length = ps.length)
    (body : ∀ (f : Addr) (cdv : Value) (A : Around) (outer : List Env) (s : Shared) (H : Hp) (vs : List V) (Q : VK) (E : XK), Room k (A.deeper (envOfC x (defScope st) s.heap.objs.size f cdv)) → sp vs H Q E →
      ∃ t, PSs (cxOf (L2N.CX P w) P w K mg base N x (defScope st) f cdv A outer s H E) (defBody st) t ∧ t { nx := fun _ H' => Q .non H', rt := Q } (start N vs) H) : CalN P w K mg base (k + 1) x sp := by
  obtain ⟨f, fd, F, g, b⟩ := D.ex
  exact ⟨f, fd, ps, F.ok S len fun cdv A outer s H vs Q E hr h => body f cdv A outer s H vs Q E hr h, g, F.kp, b⟩
end
/-- raise X('..') -/
def tRaiseN (C : Addr) (W : WX) : TS := fun _ σ H => W (.ref C) none σ H
section
variable {X : Cx} {W : WX} {C : Addr} {x m : Str} {j : Nat} {p p2 pos pos' : Pos} {k : Nat} {sp : Sp} {e : Expr} {es : List Expr} {t : TA} {E : L2.St → XK} {jj : Nat}
theorem ps_raiseN (hc : X.calm = true) (tk : L2N.Takes X W) (T : Err X.K X.mg x C) (hg : Gl X x) (hdb : (x == ("__debug__" : Str)) = false := by decide) : PS X (.Raise (some (.Call (.Name x p) [.Constant (.str m) j p2] [] pos)) none pos') (tRaiseN C W) :=
  L2N.ps_raise hc tk (L2N.pmk_own PySem.F.excBase_ValueError T.q T.g T.k (raises_own T.sub T.ty) hg hdb)
theorem pe_calN (c : CalN X.prog X.w X.K X.mg X.base k x sp) (hr : Room jj X.A) (hk : k ≤ jj) (hg : Gl X x) (tk : L2N.Takes X W) (ha : PA X (e :: es) t) (hdb : (x == ("__debug__" : Str)) = false := by decide)
    (h1 : starEach (e :: es) X.env = (false, eval e X.env) :: starEach es X.env := by rfl) (h2 : (backTo pos (starEach es X.env)).any (·.1) = false := by rfl) : PE X (.Call (.Name x p) (e :: es) [] pos) (tCallS sp (WE W) t) := by
  obtain ⟨f, fd, ps, F, hm, kp, b⟩ := c.ex
  exact pe_callS F (hr.mono hk) hg hm kp b (fun σ => L2N.passAt tk σ) ha hdb h1 h2
end
/-- nothing is let out -/
theorem tkNone {X : Cx} : L2N.Takes X fun _ _ _ _ => False := fun u s' ⟨_, _, _, _, _, _, _, _, _, _, _, _, _, _, _, _, h⟩ => h.elim
section
variable {σ : L2.St} {H : Hp} {Q : VK} {D : Ends} {C a D' : Addr} {W : WX} {ts : TA} {sp : Sp} {K : PySem.W.Frag} {b : Bool}
theorem i_raiseN (h : W (.ref C) none σ H) : tRaiseN C W D σ H := h
theorem i_callN (h : ts σ H fun vs H1 => sp vs H1 Q (WE W σ)) : tCallS sp (WE W) ts σ H Q := h
theorem i_isXC {d : Option Addr} {E : Addr} (O : ExcC K D') (kb : PySem.W.kitOne K (.ref D') (.ref E) = some b) (h : Q (.bl b) H) : rIsX K a (.ref D') none [.ref a, .ref E] H Q := ⟨D', rfl, rfl, O, .ref E, .ref E, b, rfl, fun u r => r, kb, h⟩
theorem i_isXT {n : String} (O : ExcC K D') (kb : PySem.W.kitOne K (.ref D') (.type n) = some b) (h : Q (.bl b) H) : rIsX K a (.ref D') none [.ref a, .ty n] H Q := ⟨D', rfl, rfl, O, .ty n, .type n, b, rfl, fun u r => r, kb, h⟩
end
/-- the further facts of errors -/
def excB (K : PySem.W.Frag) (D : Addr) : Bool := decide (PySem.W.findIn K (.ref D) "__getattribute__" = some (some (.builtin "BaseException.__getattribute__"))) && decide (PySem.W.findIn K (.ref D) "__getattr__" = some none) && decide (PySem.W.subIn K (.ref D) (.type "BaseException") = some true) && PySem.W.hasDictIn K D && ownB K D
theorem excB_ok {K : PySem.W.Frag} {D : Addr} (h : excB K D = true) : ExcC K D := by
  unfold excB ownB at h
  simp only [Bool.and_eq_true, decide_eq_true_eq] at h
  obtain ⟨⟨⟨⟨h1, h2⟩, h3⟩, h4⟩, ⟨⟨h5, h6⟩, h7⟩, h8⟩ := h
  exact ⟨h1, h2, h3, h4, h5, h6, h7, h8⟩
end Bp
/-! Benchpair: a def called from a suite with the caught error; a local name that holds a def, called; what is never reached. -/
namespace L2
open PySem PySem.Spec PyProof.Rows HotX
/-- isinstance(error, c), the error being pinned -/
theorem bp_isP {X : Cx} {a : Addr} {oe : Obj} {cls : Value} {d : Option Addr} (hp : (a, oe) ∈ X.pn) (hz : Zc cls d oe) (hf : ∃ vs, oe.data = .fields vs) : CallR X (.builtin "isinstance") (rIsX X.K a cls d) := by
  intro pins s σ H xs us Q I r h
  obtain ⟨D, rfl, rfl, C, ct, cv, b, rfl, hcv, e, q⟩ := h
  obtain ⟨fv, hfv⟩ := hf
  cases r with
  | cons ra rest =>
    cases rest with
    | cons rc rest =>
      cases rest
      cases ra
      obtain rfl := hcv _ rc
      have hget := (I.pin (a, oe) (List.mem_append.mpr (.inl hp))).1
      have J : PySem.W.InstAt s.heap a oe D none := by
        rcases oe with ⟨oc, od, oda, osl⟩
        have h1 : oc = .ref D := hz.1
        have h2 : od = none := hz.2
        have h3 : oda = .fields fv := hfv
        subst h1 h2 h3
        exact ⟨hget, rfl, rfl, trivial⟩
      refine PySem.W.kia_one (PySem.W.handS_kitx_exc C.hg C.hk C.hs C.hd C.ha C.hn C.ht C.hm) I.kIn J e (fun z => nomatch z) fun tk => ?_
      exact ⟨.bl b, H, I.kept (t' := tk) fun _ _ z => z, rfl, q⟩
end L2
namespace Bp
open PySem PySem.Spec PyProof.Rows L2 L2H SX
/-- a def that is called while p is handled: its promise knows p -/
structure FnK (P : Program) (w : World) (K : PySem.W.Frag) (mg : Str → Option Value) (base : Heap) (k : Nat) (f : Addr) (fd : FuncData) (ps : List Str) (sp : Addr → Value → Option Addr → Sp) : Prop where
  len : ∀ a cls d vs H Q E, sp a cls d vs H Q E → vs.length = ps.length
  run : ∀ (A : Around) (outer : List Env) (s : Shared) (H : Hp) (args : Args) (us : List Value) (vs : List V) (Q : VK) (E : XK) (p : Addr × Obj) (cls : Value) (d : Option Addr), RoomH k A → Hot1 A p → L2N.Zn cls d p.2 → (∃ fv, p.2.data = .fields fv) → PinOk outer H s p → Env0 P w K mg base A outer s H → BindsTo s fd args (ps.zip us) → Vals vs us → sp p.1 cls d vs H Q E → codeAny (model P w) A (.call (.ref f) args) (CR CX0 outer P w H s Q E) s
theorem fn_K {P : Program} {w : World} {K : PySem.W.Frag} {mg : Str → Option Value} {base : Heap} {k : Nat} {x : Str} {st : Stmt} {f : Addr} {fd : FuncData} {N ps : List Str} {sp : Addr → Value → Option Addr → Sp} (F : FnP K x st f fd) (S : FnScope N ps (defScope st)) (len : ∀ a cls d vs H Q E, sp a cls d vs H Q E → vs.length = ps.length)
    (body : ∀ (cdv : Value) (A : Around) (outer : List Env) (s : Shared) (H : Hp) (vs : List V) (Q : VK) (E : XK) (p : Addr × Obj) (cls : Value) (d : Option Addr), L2N.Zn cls d p.2 → (∃ fv, p.2.data = .fields fv) → Hot1 A p → RoomH k (A.deeper (envOfC x (defScope st) s.heap.objs.size f cdv)) → sp p.1 cls d vs H Q E →
      ∃ t, PSs (cxH CX0 P w K mg base N x (defScope st) f cdv A outer s H E p) (defBody st) t ∧ t { nx := fun _ H' => Q .non H', rt := Q } (start N vs) H) : FnK P w K mg base (k + 1) f fd ps sp := by
  obtain ⟨oc, od, dV, kV, doc, pm, an, cdv, ct, osl, rfl, lk, hcd, _, _⟩ := F.ex
  refine ⟨len, fun A outer s H args us vs Q E p cls d room hot zn hf pin e0 bt rv prom => ?_⟩
  have inK : K.In s.heap := e0.mod.kin.keeps fun b o e => (e0.bs b o e).1
  have kinds : ∀ y ∈ ps.zip us, (defScope st).names.lookup y.1 = some .local ∨ ((defScope st).names.lookup y.1 = some .cell ∧ ((cellsFrom (s.heap.objs.size + 1) (defScope st).names []).lookup y.1).isSome = true) := by
    rintro ⟨n, v⟩ hy
    exact (S.par n (List.of_mem_zip hy).1).imp id fun q => ⟨q, PySem.W.cellsFrom_some _ _ _ (.inl q)⟩
  refine codeAny_call_function room.depth (inK _ _ lk) rfl S.co S.gen rfl (PySem.W.codeRec_of inK hcd) (bt _ _ _ _ (wpAny_newFunctionEnv_cells S.kind kinds fun env he s1 ic => ?_))
  subst he
  refine ⟨(e0.mod.nolimit.keeps fun b o e => (e0.bs b o e).1).keeps ic.toInCall.keep, codeAny_func ?_⟩
  obtain ⟨t, ht, hq⟩ := body cdv A outer s H vs Q E p cls d zn hf hot (room.deeper _) prom
  refine wpAny_mono (ht.run [] s1 (start N vs) H _ (inv_startH S pin e0 (len _ _ _ _ _ _ _ prom) rv ic) hq) (fun fl s' hs => ?_) fun e s' hs => hs
  match fl, hs with
  | .ret u, ⟨v, _, H', J, rv', q⟩ => exact ⟨v, H', J.os, J.bare, J.base, J.hok, rv', q⟩
  | .next, ⟨_, H', J, q⟩ => exact ⟨V.non, H', J.os, J.bare, J.base, J.hok, rfl, q⟩
  | .brk, ⟨_, _, _, q⟩ => exact q.elim
  | .cont, ⟨_, _, _, q⟩ => exact q.elim
/-- such a def under its name -/
structure CalK (P : Program) (w : World) (K : PySem.W.Frag) (mg : Str → Option Value) (base : Heap) (k : Nat) (x : Str) (sp : Addr → Value → Option Addr → Sp) : Prop where
  ex : ∃ (f : Addr) (fd : FuncData) (ps : List Str), FnK P w K mg base k f fd ps sp ∧ mg x = some (.ref f) ∧ PySem.W.keepIn K (.ref f) = true ∧ Binds K fd ps []
theorem Def.calK {P : Program} {w : World} {K : PySem.W.Frag} {mg : Str → Option Value} {base : Heap} {k : Nat} {x : Str} {st : Stmt} {N ps : List Str} {sp : Addr → Value → Option Addr → Sp} (D : Def K mg x st ps) (S : FnScope N ps (defScope st)) (len : ∀ a cls d vs H Q E, sp a cls d vs H Q E → vs.length = ps.length)
    (body : ∀ (f : Addr) (cdv : Value) (A : Around) (outer : List Env) (s : Shared) (H : Hp) (vs : List V) (Q : VK) (E : XK) (p : Addr × Obj) (cls : Value) (d : Option Addr), L2N.Zn cls d p.2 → (∃ fv, p.2.data = .fields fv) → Hot1 A p → RoomH k (A.deeper (envOfC x (defScope st) s.heap.objs.size f cdv)) → sp p.1 cls d vs H Q E →
      ∃ t, PSs (cxH CX0 P w K mg base N x (defScope st) f cdv A outer s H E p) (defBody st) t ∧ t { nx := fun _ H' => Q .non H', rt := Q } (start N vs) H) : CalK P w K mg base (k + 1) x sp := by
  obtain ⟨f, fd, F, g, b⟩ := D.ex
  exact ⟨f, fd, ps, fn_K F S len fun cdv A outer s H vs Q E p cls d zn hf hot hr h => body f cdv A outer s H vs Q E p cls d zn hf hot hr h, g, F.kp, b⟩
/-- f(e, ..) in a suite -/
def tCalK (sp : Addr → Value → Option Addr → Sp) (a : Addr) (cls : Value) (d : Option Addr) (t : TA) : TE := fun σ H Q => t σ H fun vs H1 => sp a cls d vs H1 Q E0
section
variable {X : Cx} {k j : Nat} {x : Str} {sp : Addr → Value → Option Addr → Sp} {q pos : Pos} {e : Expr} {es : List Expr} {t : TA} {a : Addr} {oe : Obj} {pn : List (Addr × Obj)} {cls : Value} {d : Option Addr}
theorem pe_calK (c : CalK X.prog X.w X.K X.mg X.base k x sp) (hr : Room j X.A) (hk : k ≤ j) (hz : L2N.Zn cls d oe) (hf : ∃ vs, oe.data = .fields vs) (hg : Gl (X.suite a ((a, oe) :: pn)) x) (ha : PA (X.suite a ((a, oe) :: pn)) (e :: es) t) (hdb : (x == ("__debug__" : Str)) = false := by decide)
    (h1 : starEach (e :: es) (X.suite a ((a, oe) :: pn)).env = (false, eval e (X.suite a ((a, oe) :: pn)).env) :: starEach es (X.suite a ((a, oe) :: pn)).env := by rfl) (h2 : (backTo pos (starEach es (X.suite a ((a, oe) :: pn)).env)).any (·.1) = false := by rfl) :
    PE (X.suite a ((a, oe) :: pn)) (.Call (.Name x q) (e :: es) [] pos) (tCalK sp a cls d t) := by
  obtain ⟨f, fd, ps, F, hm, kp, b⟩ := c.ex
  refine ⟨fun pins s σ H Q I h => ?_⟩
  refine wpAny_Call_Name_kw (ld_glob I hg hm ?_ hdb)
  refine PySem.W.callWith_K (h₀ := X.base) I.ok.mod.kin kp (thn (ha.run pos pins s σ H _ I h) fun us s1 ⟨vs, H1, I1, rv, prom⟩ => ⟨I1.kIn, ?_⟩) h1 h2
  have hl : us.length = ps.length := by rw [← rv.length]; exact F.len _ _ _ _ _ _ _ prom
  have bt := b s1 us I1.kIn (by rw [List.append_nil]; exact hl)
  rw [List.append_nil] at bt
  have P1 := I1.pin (a, oe) (List.mem_append_left _ List.mem_cons_self)
  have nfs : a ∉ frs (X.suite a ((a, oe) :: pn)).stack := fun hm => by
    rcases List.mem_cons.mp (I1.stkSub a hm) with z | z
    · exact P1.2.2.1 z
    · exact P1.2.2.2.1 z
  obtain ⟨fv, hfv⟩ := hf
  have hot : Hot1 (X.suite a ((a, oe) :: pn)).A (a, oe) := ⟨rfl, fv, hfv, hz.2.2 fv hfv⟩
  have room : RoomH k (X.suite a ((a, oe) :: pn)).A := ⟨(hr.mono hk).dp, (hr.mono hk).un⟩
  refine wpAny_call (codeAny_mono (F.run _ _ s1 H1 ⟨us, []⟩ us vs Q E0 (a, oe) cls d room hot hz ⟨fv, hfv⟩ ⟨P1.1, P1.2.1, nfs, P1.2.2.2.2⟩ I1.env0 bt rv prom) fun r s' hq => ?_)
  match r, hq with
  | .error e, hq => exact pass0 pins σ H1 s1 e s' I1 hq
  | .ok (.ret u), hq => exact I1.after hq
  | .ok .next, hq => exact hq.elim
  | .ok .brk, hq => exact hq.elim
  | .ok .cont, hq => exact hq.elim
/-- a local name that holds a def, called -/
def tCalL (P : Program) (w : World) (K : PySem.W.Frag) (mg : Str → Option Value) (base : Heap) (j i : Nat) (W : WX) (t : TA) : TE := fun σ H Q => ∃ (k : Nat) (y : Str) (sp : Sp) (f : Addr), CalN P w K mg base k y sp ∧ mg y = some (.ref f) ∧ k ≤ j ∧ σ[i]? = some (some (.ref f)) ∧ t σ H fun vs H1 => sp vs H1 Q (WE W σ)
theorem pe_calL {i : Nat} {W : WX} (hr : Room j X.A) (hN : X.N[i]? = some x) (hv : Vis X.env.scope x) (tk : L2N.Takes X W) (ha : PA X (e :: es) t) (hdb : (x == ("__debug__" : Str)) = false := by decide) (hcd : (x == ("__classdict__" : Str)) = false := by decide)
    (h1 : starEach (e :: es) X.env = (false, eval e X.env) :: starEach es X.env := by rfl) (h2 : (backTo pos (starEach es X.env)).any (·.1) = false := by rfl) : PE X (.Call (.Name x q) (e :: es) [] pos) (tCalL X.prog X.w X.K X.mg X.base j i W t) := by
  refine ⟨fun pins s σ H Q I h => ?_⟩
  obtain ⟨k, y, sp, f, c, hy, hk, hs, ht⟩ := h
  obtain ⟨f', fd, ps, F, hm, kp, b⟩ := c.ex
  rw [hy] at hm
  have ef : f = f' := by injection hm with hm; injection hm
  subst ef
  refine wpAny_Call_Name_kw (thn ((pe_var (pos := q) hN hv hdb hcd).run pins s σ H (fun v H1 => v = .ref f ∧ H1 = H) I ⟨_, hs, rfl, rfl⟩) fun u s1 hu => ?_)
  obtain ⟨v, H1, I1, r1, rfl, rfl⟩ := hu
  cases r1
  refine PySem.W.callWith_K (h₀ := X.base) I.ok.mod.kin kp (thn (ha.run pos pins s1 σ _ _ I1 ht) fun us s2 hq => ?_) h1 h2
  obtain ⟨vs, H2, I2, rv, prom⟩ := hq
  exact ⟨I2.kIn, run_fnS F (hr.mono hk) b (L2N.passAt tk σ) I2 rv prom⟩
theorem i_calK {sp : Addr → Value → Option Addr → Sp} {ts : TA} {σ : L2.St} {H : Hp} {Q : VK} (h : ts σ H fun vs H1 => sp a cls d vs H1 Q E0) : tCalK sp a cls d ts σ H Q := h
/-- what is not reached needs no reading -/
theorem pe_never : PE X e fun _ _ _ => False := ⟨fun _ _ _ _ _ _ h => h.elim⟩
theorem pss_never {ss : List Stmt} : PSs X ss fun _ _ _ => False := ⟨fun _ _ _ _ _ _ h => h.elim⟩
theorem pst_never {st : Stmt} : PS X st fun _ _ _ => False := ⟨fun _ _ _ _ _ _ h => h.elim⟩
end
end Bp
namespace Bp
open PySem PySem.Spec PyProof.Rows L2
def topS (i : Nat) : Stmt := PySem.Challenge.pw_benchpair_k06_refused.main.body.getD i (.Pass ⟨0, 0, 0, 0⟩)
open SX
local macro_rules | `(tactic| walk_at "st") => `(tactic| first
  | with_reducible refine i_seq ?_ | with_reducible refine i_asg ?_ | with_reducible refine i_op ?_ | ((with_reducible refine i_var0 ?_); refine ⟨_, rfl, ?_⟩) | with_reducible refine i_c ?_
  | with_reducible refine i_nm ?_ | with_reducible refine i_I0 ?_ | with_reducible refine i_cons ?_ | with_reducible refine i_nil ?_ | with_reducible refine i_cb ?_ | with_reducible refine i_cal ?_ | with_reducible refine i_calS ?_
  | with_reducible refine i_ifS ?_ | with_reducible refine i_if ?_ | with_reducible refine i_test ?_ | with_reducible refine i_tB ?_ | with_reducible refine i_bl ?_ | with_reducible refine i_int ?_
  | with_reducible refine i_eqI ?_ | with_reducible refine i_neI ?_ | with_reducible refine i_not ?_ | with_reducible refine i_and ?_ | with_reducible refine i_or ?_ | with_reducible refine i_andV ?_ | with_reducible refine i_orV ?_ | with_reducible refine i_notV ?_
  | with_reducible refine i_un ?_ | with_reducible refine i_U ?_ | with_reducible refine i_ipI ?_ | ((with_reducible refine i_aug0 ?_); refine ⟨_, rfl, ?_⟩) | with_reducible refine i_ret ?_ | with_reducible refine i_drop ?_ | with_reducible refine i_next ?_
  | with_reducible refine i_chain ?_ | with_reducible refine i_ifT ?_ | with_reducible refine i_ifF ?_ | with_reducible refine i_ifNT ?_ | with_reducible refine i_ifNF ?_ | with_reducible refine i_par ?_ | with_reducible refine i_par3 ?_ | with_reducible refine i_par_e ?_ | with_reducible refine i_par3_e ?_
  | with_reducible refine i_gcons ?_ | with_reducible refine i_gnil ?_ | with_reducible refine i_gsub ?_ | with_reducible refine i_tupn ?_ | with_reducible refine i_lstn ?_ | with_reducible refine i_bm ?_ | with_reducible refine i_bm0 ?_
  | with_reducible refine i_sl ?_ | with_reducible refine i_noP ?_ | with_reducible refine i_part ?_ | with_reducible refine i_for ?_ | with_reducible refine i_lc ?_ | with_reducible refine i_iList ?_ | with_reducible refine i_iTup ?_ | with_reducible refine i_iRng1 ?_
  | with_reducible refine i_iEnum ?_ | with_reducible refine i_iRng3 ?_ | with_reducible refine i_revL ?_ | with_reducible refine i_iZip ?_ | with_reducible refine i_yes ?_ | with_reducible refine i_listRg ?_ | with_reducible refine i_eqS ?_ | with_reducible refine i_neS ?_ | with_reducible refine i_m1 ?_ | with_reducible refine i_raiseN ?_ | with_reducible refine i_callN ?_ | with_reducible refine i_notNi ?_ | with_reducible refine i_notNn ?_ | with_reducible refine i_isB ?_ | with_reducible refine i_notB ?_ | with_reducible refine i_eqB ?_ | with_reducible refine i_neB ?_ | with_reducible refine i_fld ?_ | with_reducible refine i_sfld ?_ | with_reducible refine i_met ?_ | with_reducible refine i_mak ?_ | with_reducible refine i_max2 ?_)
local macro_rules | `(tactic| walk_at "go") => `(tactic| repeat walk_at "st")
abbrev s_is_whole : Stmt := topS 7
abbrev n_is_whole : List Str := ["thing"]
theorem sc_is_whole : FnScope n_is_whole ["thing"] (defScope s_is_whole) := ⟨rfl, rfl, rfl, by decide +kernel, rfl, by decide +kernel, by decide +kernel⟩
abbrev s_is_triple : Stmt := topS 8
abbrev n_is_triple : List Str := ["thing", "length"]
theorem sc_is_triple : FnScope n_is_triple ["thing"] (defScope s_is_triple) := ⟨rfl, rfl, rfl, by decide +kernel, rfl, by decide +kernel, by decide +kernel⟩
abbrev s_check_things : Stmt := topS 9
abbrev n_check_things : List Str := ["things", "thing"]
theorem sc_check_things : FnScope n_check_things ["things"] (defScope s_check_things) := ⟨rfl, rfl, rfl, by decide +kernel, rfl, by decide +kernel, by decide +kernel⟩
abbrev s_is_order : Stmt := topS 10
abbrev n_is_order : List Str := ["things", "order", "at"]
theorem sc_is_order : FnScope n_is_order ["things", "order"] (defScope s_is_order) := ⟨rfl, rfl, rfl, by decide +kernel, rfl, by decide +kernel, by decide +kernel⟩
abbrev s_check_order : Stmt := topS 11
abbrev n_check_order : List Str := ["things", "order"]
theorem sc_check_order : FnScope n_check_order ["things", "order"] (defScope s_check_order) := ⟨rfl, rfl, rfl, by decide +kernel, rfl, by decide +kernel, by decide +kernel⟩
/-- a value without parts -/
inductive Fl : V → Bool → Prop where
  | int (m : Int) : Fl (.int m) true
  | bl (b : Bool) : Fl (.bl b) false
  | non : Fl .non false
  | str (t : Str) : Fl (.str t) false
/-- is_whole, of any value of those -/
def sp_whole (K : PySem.W.Frag) : Sp := fun vs H Q _ => ∃ v b, vs = [v] ∧ (Fl v b ∨ (b = false ∧ ∃ T, TyB K H v T ∧ kitB T "int" = some false)) ∧ Q (.bl b) H
section
variable {P : Program} {w : World} {K : PySem.W.Frag} {mg : Str → Option Value} {base : Heap}
theorem tyB_x {H : Hp} {v : V} {T : String} (h : TyB K H v T) : TyX K H v (.type T) := by
  cases h with
  | non => exact .base .non
  | bl b => exact .base (.bl b)
  | int m => exact .base (.int m)
  | str t => exact .base (.str t)
  | byt b => exact .byt b
  | lst h => exact ty_sqL h
  | tup h => exact ty_sqT h
  | dK h => exact .base (.dK h)
theorem ok_is_whole (B : Blt mg) (D : Def K mg "is_whole" s_is_whole ["thing"]) : Cal P w K mg base 1 "is_whole" (sp_whole K) := by
  refine D.cal sc_is_whole (fun vs H Q E h => ?_) (fun f cdv A outer s H vs Q E hr h => ?_)
  · obtain ⟨m, b, rfl, _⟩ := h
    rfl
  · obtain ⟨m, b, rfl, fl, q⟩ := h
    refine ⟨_, pss_one (ps_ret (pe_and (pe_callB (r := rIsi K) call_isi (by rfl) B.isinstance (by decide +kernel) (pa_cons (pv 0) (pa_cons (pe_bltn (v := .ty "int") (u := .type "int") (by rfl) B.int (by decide +kernel) rfl) pa_nil))) (pe_one (pe_not (pe_callB (r := rIsi K) call_isi (by rfl) B.isinstance (by decide +kernel) (pa_cons (pv 0) (pa_cons (pe_bltn (v := .ty "bool") (u := .type "bool") (by rfl) B.bool (by decide +kernel) rfl) pa_nil))))))), ?_⟩
    walk_at "go"
    rcases fl.symm with ⟨rfl, T, ht, kb⟩ | fl
    · refine i_isi (r := false) (tyB_x ht) kb ?_
      walk_at "go"
      exact q
    cases fl with
    | int m =>
      refine i_isi (r := true) ty_int (by decide +kernel) ?_
      walk_at "go"
      refine i_isi (r := false) ty_int (by decide +kernel) ?_
      walk_at "go"
      exact q
    | bl b =>
      refine i_isi (r := true) (.base (.bl b)) (by decide +kernel) ?_
      walk_at "go"
      refine i_isi (r := true) (.base (.bl b)) (by decide +kernel) ?_
      walk_at "go"
      exact q
    | non =>
      refine i_isi (r := false) (.base .non) (by decide +kernel) ?_
      walk_at "go"
      exact q
    | str t =>
      refine i_isi (r := false) (.base (.str t)) (by decide +kernel) ?_
      walk_at "go"
      exact q
theorem tyB_same {H H' : Hp} {v : V} {T : String} (s : Same H H') (h : TyB K H v T) : TyB K H' v T := by
  cases h with
  | non => exact .non
  | bl b => exact .bl b
  | int m => exact .int m
  | str t => exact .str t
  | byt b => exact .byt b
  | lst h => exact .lst (s.seq h)
  | tup h => exact .tup (Same.t s h)
  | dK h => exact .dK (s _ _ h)
/-- a length that is whole and not less than 0 -/
def okc : V → Bool
  | .int m => decide (0 ≤ m)
  | _ => false
/-- an item: b tells whether it is a triple -/
def ItB (K : PySem.W.Frag) (H : Hp) (v : V) (b : Bool) : Prop :=
  (∃ T, TyB K H v T ∧ kitB T "tuple" = some false ∧ b = false) ∨ (∃ p xs, v = .ref p ∧ SqT K H p xs ∧ xs.length ≤ 1000 ∧ (∀ x ∈ xs, ∃ c, Fl x c) ∧ b = (decide (xs.length = 3) && xs.all okc))
theorem ItB.same {H H' : Hp} {v : V} {b : Bool} (s : Same H H') (h : ItB K H v b) : ItB K H' v b := by
  rcases h with ⟨T, h1, h2⟩ | ⟨p, xs, h1, h2, h3⟩
  · exact .inl ⟨T, tyB_same s h1, h2⟩
  · exact .inr ⟨p, xs, h1, Same.t s h2, h3⟩
/-- is_triple, of any item -/
def sp_triple (K : PySem.W.Frag) : Sp := fun vs H Q _ => ∃ (v : V) (b : Bool), vs = [v] ∧ ItB K H v b ∧ ∀ H', Same H H' → Q (.bl b) H'
theorem ok_is_triple (B : Blt mg) (c_is_whole : Cal P w K mg base 1 "is_whole" (sp_whole K)) (D : Def K mg "is_triple" s_is_triple ["thing"]) : Cal P w K mg base 2 "is_triple" (sp_triple K) := by
  refine D.cal sc_is_triple (fun vs H Q E h => ?_) (fun f cdv A outer s H vs Q E hr h => ?_)
  · obtain ⟨v, b, rfl, _⟩ := h
    rfl
  · obtain ⟨v, b, rfl, hI, q⟩ := h
    refine ⟨_, pss_cons (ps_if (PW.pt (pw_or (pt_not (pt_val (pe_callB (r := rIsi K) call_isi (by rfl) B.isinstance (by decide +kernel) (pa_cons (pv 0) (pa_cons (pe_bltn (v := .ty "tuple") (u := .type "tuple") (by rfl) B.tuple (by decide +kernel) rfl) pa_nil))))) (pw_or1 (pt_cmpR op_ne (pe_callB (r := rLenB K) cb_len (by rfl) B.len (by decide +kernel) (pa_cons (pv 0) pa_nil)) pe_int (nomark _)))))
      (pss_one (ps_ret pe_bl))
      (pss_nil))
    (pss_one (ps_ret (pe_callB (r := rAll K) (cr_all rfl) (by rfl) B.all (by decide +kernel) (pa_cons (pe_lc (own := [("length", 1)]) rfl sc_is_triple.nd (pi_tup (pv 0)) (blkOk_by (N := n_is_triple) (sc := defScope s_is_triple) (by decide +kernel)) (fun _ _ _ _ _ => (pg_name (i := 1) sc_is_triple.nd rfl (.inl rfl))) (fun _ _ _ _ _ => pts_nil) (fun _ _ _ _ _ => (pe_and (pe_cal c_is_whole hr (by decide) (by rfl) (pa_cons (pv 1) pa_nil)) (pe_one (pe_cmpR op_ge (pv 1) pe_int (nomark _)))))) pa_nil)))), ?_⟩
    walk_at "go"
    rcases hI with ⟨T, ht, kb, rfl⟩ | ⟨p, xs, rfl, hp, hl, hf, rfl⟩
    · refine i_isi (r := false) (tyB_x ht) kb ?_
      walk_at "go"
      exact q H (Same.refl _)
    · refine i_isi (r := true) (ty_sqT hp) (by decide +kernel) ?_
      walk_at "go"
      refine i_lenT hp ?_
      walk_at "go"
      refine i_itdn (fun c => ?_) (fun c => ?_)
      · walk_at "go"
        have e : decide (xs.length = 3) = false := decide_eq_false fun z => c (by rw [z]; rfl)
        have z := q H (Same.refl _)
        rw [e] at z
        exact z
      · walk_at "go"
        have e : decide (xs.length = 3) = true := decide_eq_true (by omega)
        rw [e] at q
        refine i_itt hp ?_
        refine fun p0 hp0 => lc_map (K := K) (R := fun i y _ => ∀ x, xs[i]? = some x → y = .bl (okc x)) (fun _ h => h) sqn_t (fun H e => Same.t e hp) (by omega) hp0 (fun i x H' Qc Qn hx sm k => ?_) (fun ys H' sm hy hl2 hr2 => ?_)
        · obtain ⟨c, fl⟩ := hf x (List.mem_of_getElem? hx)
          walk_at "go"
          refine ⟨rfl, ?_⟩
          walk_at "go"
          refine ⟨x, c, rfl, .inl fl, ?_⟩
          have kk : Qc (.bl (okc x)) H' := k _ _ (Same.refl _) fun x' e' => by rw [hx] at e'; cases e'; rfl
          cases fl with
          | int m =>
            walk_at "go"
            exact kk
          | bl b =>
            walk_at "go"
            exact kk
          | non =>
            walk_at "go"
            exact kk
          | str t =>
            walk_at "go"
            exact kk
        · have e2 : ys = (xs.map okc).map V.bl := by
            refine List.ext_getElem? fun j => ?_
            rw [List.map_map, List.getElem?_map]
            cases e : xs[j]? with
            | none => exact List.getElem?_eq_none (by rw [hl2]; exact List.getElem?_eq_none_iff.mp e)
            | some p =>
              have hj : j < ys.length := by rw [hl2]; exact (List.getElem?_eq_some_iff.mp e).1
              rw [List.getElem?_eq_getElem hj, hr2 j _ (List.getElem?_eq_getElem hj) p e]
              rfl
          rw [e2] at hy
          walk_at "go"
          refine i_all (SqL.of hy) ?_
          have e3 : (xs.map okc).all id = (true && xs.all okc) := by
            rw [List.all_map, Bool.true_and]; rfl
          rw [e3]
          exact q H' sm
/-- a value: b tells whether it is things -/
def ThB (K : PySem.W.Frag) (H : Hp) (v : V) (b : Bool) : Prop :=
  (∃ T, TyB K H v T ∧ kitB T "list" = some false ∧ b = false) ∨ (∃ a xs bs, v = .ref a ∧ SqL K H a xs ∧ xs.length ≤ 1000 ∧ All2 (ItB K H) xs bs ∧ b = bs.all id)
theorem ThB.same {H H' : Hp} {v : V} {b : Bool} (s : Same H H') (h : ThB K H v b) : ThB K H' v b := by
  rcases h with ⟨T, h1, h2⟩ | ⟨p, xs, bs, h1, h2, h3, h4, h5⟩
  · exact .inl ⟨T, tyB_same s h1, h2⟩
  · exact .inr ⟨p, xs, bs, h1, Same.seq s h2, h3, h4.mono fun _ _ h => h.same s, h5⟩
/-- check_things, of any value -/
def sp_check (K : PySem.W.Frag) (cH : Addr) : Sp := fun vs H Q E => ∃ (v : V) (b : Bool), vs = [v] ∧ ThB K H v b ∧ (b = true → ∀ H', Same H H' → Q .non H') ∧ (b = false → ∀ H', Same H H' → E (.ref cH) none H')
theorem ok_check_things (B : Blt mg) {cH : Addr} (X_BadThings : Err K mg "BadThings" cH) (c_is_triple : Cal P w K mg base 2 "is_triple" (sp_triple K)) (D : Def K mg "check_things" s_check_things ["things"]) : CalN P w K mg base 3 "check_things" (sp_check K cH) := by
  refine D.calN sc_check_things (fun vs H Q E h => ?_) (fun f cdv A outer s H vs Q E hr h => ?_)
  · obtain ⟨a, b, rfl, _⟩ := h
    rfl
  · obtain ⟨v, b, rfl, hT, q1, q2⟩ := h
    have tk : L2N.Takes (cxOf (L2N.CX P w) P w K mg base n_check_things "check_things" (defScope s_check_things) f cdv A outer s H E) (fun cls d _ H => E cls d H) := L2N.takes_of rfl rfl rfl rfl
    refine ⟨_, pss_one (ps_if (PW.pt (pw_or (pt_not (pt_val (pe_callB (r := rIsi K) call_isi (by rfl) B.isinstance (by decide +kernel) (pa_cons (pv 0) (pa_cons (pe_bltn (v := .ty "list") (u := .type "list") (by rfl) B.list (by decide +kernel) rfl) pa_nil))))) (pw_or1 (pt_not (pt_val (pe_callB (r := rAll K) (cr_all rfl) (by rfl) B.all (by decide +kernel) (pa_cons (pe_lc (own := [("thing", 1)]) rfl sc_check_things.nd (pi_list (pv 0)) (blkOk_by (N := n_check_things) (sc := defScope s_check_things) (by decide +kernel)) (fun _ _ _ _ _ => (pg_name (i := 1) sc_check_things.nd rfl (.inl rfl))) (fun _ _ _ _ _ => pts_nil) (fun _ _ _ _ _ => (pe_cal c_is_triple hr (by decide) (by rfl) (pa_cons (pv 1) pa_nil)))) pa_nil)))))))
      (pss_one (ps_raiseN rfl tk X_BadThings (by rfl)))
      (pss_nil)), ?_⟩
    walk_at "go"
    rcases hT with ⟨T, ht, kb, rfl⟩ | ⟨a, xs, bs, rfl, hs, hl, hI, rfl⟩
    · refine i_isi (r := false) (tyB_x ht) kb ?_
      walk_at "go"
      exact q2 rfl H (Same.refl _)
    · refine i_isi (r := true) (ty_sqL hs) (by decide +kernel) ?_
      walk_at "go"
      refine i_itl hs ?_
      refine fun p0 hp0 => lc_map (K := K) (R := fun i y _ => ∀ b, bs[i]? = some b → y = .bl b) (fun _ h => h) sqn_l (fun H' e => e.seq hs) (by omega) hp0 (fun i x H' Qc Qn hx sm k => ?_) (fun ys H' sm hy hl2 hr2 => ?_)
      · have hi : i < bs.length := by rw [← hI.len]; exact (List.getElem?_eq_some_iff.mp hx).1
        walk_at "go"
        refine ⟨rfl, ?_⟩
        walk_at "go"
        exact ⟨x, bs[i], rfl, (hI.get i _ _ hx (List.getElem?_eq_getElem hi)).same sm, fun H'' s' => k _ _ s' fun b e => by rw [List.getElem?_eq_getElem hi] at e; cases e; rfl⟩
      · have e2 : ys = bs.map V.bl := by
          refine List.ext_getElem? fun j => ?_
          rw [List.getElem?_map]
          cases e : bs[j]? with
          | none => exact List.getElem?_eq_none (by rw [hl2, hI.len]; exact List.getElem?_eq_none_iff.mp e)
          | some p =>
            have hj : j < ys.length := by rw [hl2, hI.len]; exact (List.getElem?_eq_some_iff.mp e).1
            rw [List.getElem?_eq_getElem hj, hr2 j _ (List.getElem?_eq_getElem hj) p e]
            rfl
        rw [e2] at hy
        walk_at "go"
        refine i_all (SqL.of hy) ?_
        walk_at "go"
        refine i_ite (fun c => ?_) (fun c => ?_)
        · walk_at "go"
          exact q2 (by simpa using c) H' sm
        · walk_at "go"
          exact q1 (by simpa using c) H' sm
/-- an order value that is refused, for n things -/
def OrB (K : PySem.W.Frag) (H : Hp) (v : V) (n : Nat) : Prop :=
  (∃ T, TyB K H v T ∧ kitB T "list" = some false) ∨ (∃ b xs, v = .ref b ∧ SqL K H b xs ∧ xs.length ≤ 1000 ∧ (∀ x ∈ xs, ∃ c, Fl x c) ∧ (xs.length ≠ n ∨ (∃ x ∈ xs, Fl x false) ∨ ∃ ns : List Int, xs = ns.map V.int ∧ ¬ ns.Perm (rg n)))
theorem OrB.same {H H' : Hp} {v : V} {n : Nat} (s : Same H H') (h : OrB K H v n) : OrB K H' v n := by
  rcases h with ⟨T, h1, h2⟩ | ⟨p, xs, h1, h2, h3⟩
  · exact .inl ⟨T, tyB_same s h1, h2⟩
  · exact .inr ⟨p, xs, h1, Same.seq s h2, h3⟩
/-- is a value a whole number -/
def isI : V → Bool
  | .int _ => true
  | _ => false
theorem all_ints {xs : List V} (h : xs.all isI = true) : ∃ ns : List Int, xs = ns.map V.int := by
  induction xs with
  | nil => exact ⟨[], rfl⟩
  | cons x r ih =>
    rw [List.all_cons, Bool.and_eq_true] at h
    obtain ⟨ns, rfl⟩ := ih h.2
    cases x with
    | int m => exact ⟨m :: ns, rfl⟩
    | _ => exact absurd h.1 (by simp [isI])
/-- is_order, of a refused order -/
def sp_isordB (K : PySem.W.Frag) : Sp := fun vs H Q _ => ∃ (a : Addr) (v : V) (ts : List V), vs = [.ref a, v] ∧ SqL K H a ts ∧ ts.length ≤ 1000 ∧ OrB K H v ts.length ∧ ∀ H', Same H H' → Q (.bl false) H'
theorem ok_is_order (B : Blt mg) (c_is_whole : Cal P w K mg base 1 "is_whole" (sp_whole K)) (D : Def K mg "is_order" s_is_order ["things", "order"]) : Cal P w K mg base 2 "is_order" (sp_isordB K) := by
  refine D.cal sc_is_order (fun vs H Q E h => ?_) (fun f cdv A outer s H vs Q E hr h => ?_)
  · obtain ⟨a, v, ts, rfl, _⟩ := h
    rfl
  · obtain ⟨a, v, ts, rfl, hT, hz, hO, q⟩ := h
    refine ⟨_, pss_cons (ps_if (PW.pt (pw_or (pt_not (pt_val (pe_callB (r := rIsi K) call_isi (by rfl) B.isinstance (by decide +kernel) (pa_cons (pv 1) (pa_cons (pe_bltn (v := .ty "list") (u := .type "list") (by rfl) B.list (by decide +kernel) rfl) pa_nil))))) (pw_or (pt_cmpR op_ne (pe_callB (r := rLenB K) cb_len (by rfl) B.len (by decide +kernel) (pa_cons (pv 1) pa_nil)) (pe_callB (r := rLenB K) cb_len (by rfl) B.len (by decide +kernel) (pa_cons (pv 0) pa_nil)) (nomark _)) (pw_or1 (pt_not (pt_val (pe_callB (r := rAll K) (cr_all rfl) (by rfl) B.all (by decide +kernel) (pa_cons (pe_lc (own := [("at", 2)]) rfl sc_is_order.nd (pi_list (pv 1)) (blkOk_by (N := n_is_order) (sc := defScope s_is_order) (by decide +kernel)) (fun _ _ _ _ _ => (pg_name (i := 2) sc_is_order.nd rfl (.inl rfl))) (fun _ _ _ _ _ => pts_nil) (fun _ _ _ _ _ => (pe_cal c_is_whole hr (by decide) (by rfl) (pa_cons (pv 2) pa_nil)))) pa_nil))))))))
      (pss_one (ps_ret pe_bl))
      (pss_nil))
    (pss_one (ps_ret (pe_cmpR (r := rEqD K) (op_eqD hr.units) (pe_callB (r := rSortedI K) cr_sortedI (by rfl) B.sorted (by decide +kernel) (pa_cons (pv 1) pa_nil)) (pe_listRg rfl (by rfl) B.list (prg_1 (by rfl) B.range (pe_callB (r := rLenB K) cb_len (by rfl) B.len (by decide +kernel) (pa_cons (pv 0) pa_nil)))) (nomark _)))), ?_⟩
    walk_at "go"
    rcases hO with ⟨T, ht, kb⟩ | ⟨b, xs, rfl, hs, hl, hf, hB⟩
    · refine i_isi (r := false) (tyB_x ht) kb ?_
      walk_at "go"
      exact q H (Same.refl _)
    · refine i_isi (r := true) (ty_sqL hs) (by decide +kernel) ?_
      walk_at "go"
      refine i_lenL hs ?_
      walk_at "go"
      refine i_lenL hT ?_
      walk_at "go"
      refine i_itdn (fun c => ?_) (fun c => ?_)
      · walk_at "go"
        exact q H (Same.refl _)
      · have lx : xs.length = ts.length := by omega
        walk_at "go"
        refine i_itl hs ?_
        refine fun p0 hp0 => lc_map (K := K) (R := fun i y _ => ∀ x, xs[i]? = some x → y = .bl (isI x)) (fun _ h => h) sqn_l (fun H' e => e.seq hs) (by omega) hp0 (fun i x H' Qc Qn hx sm k => ?_) (fun ys H1 sm hy hl2 hr2 => ?_)
        · obtain ⟨c, fl⟩ := hf x (List.mem_of_getElem? hx)
          walk_at "go"
          refine ⟨rfl, ?_⟩
          walk_at "go"
          refine ⟨x, c, rfl, .inl fl, ?_⟩
          refine k _ _ (Same.refl _) fun x' e' => ?_
          rw [hx] at e'
          cases e'
          cases fl <;> rfl
        · have e2 : ys = (xs.map isI).map V.bl := by
            refine List.ext_getElem? fun j => ?_
            rw [List.map_map, List.getElem?_map]
            cases e : xs[j]? with
            | none => exact List.getElem?_eq_none (by rw [hl2]; exact List.getElem?_eq_none_iff.mp e)
            | some p =>
              have hj : j < ys.length := by rw [hl2]; exact (List.getElem?_eq_some_iff.mp e).1
              rw [List.getElem?_eq_getElem hj, hr2 j _ (List.getElem?_eq_getElem hj) p e]
              rfl
          rw [e2] at hy
          walk_at "go"
          refine i_all (SqL.of hy) ?_
          have e3 : (xs.map isI).all id = xs.all isI := by rw [List.all_map]; rfl
          rw [e3]
          walk_at "go"
          cases ea : xs.all isI with
          | false =>
            walk_at "go"
            exact q H1 sm
          | true =>
            walk_at "go"
            obtain ⟨ns, rfl⟩ := all_ints ea
            have np : ¬ ns.Perm (rg ts.length) := by
              rcases hB with h | ⟨x, hx, fl⟩ | ⟨ms, e, h⟩
              · exact absurd lx h
              · obtain ⟨m, _, rfl⟩ := List.mem_map.mp hx
                cases fl
              · have e' : ns = ms := (List.map_inj_right fun a b h => by injection h).mp e
                rw [e']
                exact h
            refine i_sortI (sm.seq hs) fun ns' p1 H2 hP hS np1 s1 h1 => ?_
            walk_at "go"
            refine i_lenL ((sm.trans s1).seq hT) ?_
            refine i_rg (n := ts.length) rfl (by omega) fun p2 H3 np2 s2 h2 => ?_
            refine i_eqD (d := dI ns') (e := dI (rg ts.length)) (dp_ints (SqL.of (s2 _ _ h1))) (dp_ints (SqL.of h2)) (shaped_dI _) (shaped_dI _) ?_
            rw [eqv_dI]
            have e4 : decide (ns' = rg ts.length) = false := decide_eq_false fun e => np ((sorted_rg hP hS).mp e)
            rw [e4]
            exact q _ ((sm.trans s1).trans s2)
/-- check_order, of a refused order -/
def sp_chkord (K : PySem.W.Frag) (cO : Addr) : Sp := fun vs H _ E => ∃ (a : Addr) (v : V) (ts : List V), vs = [.ref a, v] ∧ SqL K H a ts ∧ ts.length ≤ 1000 ∧ OrB K H v ts.length ∧ ∀ H', Same H H' → E (.ref cO) none H'
theorem ok_check_order (B : Blt mg) {cO : Addr} (X_BadOrder : Err K mg "BadOrder" cO) (c_is_order : Cal P w K mg base 2 "is_order" (sp_isordB K)) (D : Def K mg "check_order" s_check_order ["things", "order"]) : CalN P w K mg base 3 "check_order" (sp_chkord K cO) := by
  refine D.calN sc_check_order (fun vs H Q E h => ?_) (fun f cdv A outer s H vs Q E hr h => ?_)
  · obtain ⟨a, v, ts, rfl, _⟩ := h
    rfl
  · obtain ⟨a, v, ts, rfl, hT, hz, hO, q⟩ := h
    have tk : L2N.Takes (cxOf (L2N.CX P w) P w K mg base n_check_order "check_order" (defScope s_check_order) f cdv A outer s H E) (fun cls d _ H => E cls d H) := L2N.takes_of rfl rfl rfl rfl
    refine ⟨_, pss_one (ps_if (pt_not (pt_val (pe_cal c_is_order hr (by decide) (by rfl) (pa_cons (pv 0) (pa_cons (pv 1) pa_nil)))))
      (pss_one (ps_raiseN rfl tk X_BadOrder (by rfl)))
      (pss_nil)), ?_⟩
    walk_at "go"
    refine ⟨a, v, ts, rfl, hT, hz, hO, fun H' s' => ?_⟩
    walk_at "go"
    exact q H' s'
end
abbrev s_done : Stmt := topS 13
abbrev n_done : List Str := ["things", "order"]
theorem sc_done : FnScope n_done ["things", "order"] (defScope s_done) := ⟨rfl, rfl, rfl, by decide +kernel, rfl, by decide +kernel, by decide +kernel⟩
abbrev s_starts : Stmt := topS 14
abbrev n_starts : List Str := ["things", "order", "begun", "found", "place", "at", "thing"]
theorem sc_starts : FnScope n_starts ["things", "order"] (defScope s_starts) := ⟨rfl, rfl, rfl, by decide +kernel, rfl, by decide +kernel, by decide +kernel⟩
abbrev s_soonest : Stmt := topS 25
abbrev n_soonest : List Str := ["things", "order", "bench", "apart", "length"]
theorem sc_soonest : FnScope n_soonest ["things"] (defScope s_soonest) := ⟨rfl, rfl, rfl, by decide +kernel, rfl, by decide +kernel, by decide +kernel⟩
abbrev s_within : Stmt := topS 26
abbrev n_within : List Str := ["things", "time", "order", "bench", "apart", "length"]
theorem sc_within : FnScope n_within ["things", "time"] (defScope s_within) := ⟨rfl, rfl, rfl, by decide +kernel, rfl, by decide +kernel, by decide +kernel⟩
abbrev s_written : Stmt := topS 29
abbrev n_written : List Str := ["things", "thing", "length"]
theorem sc_written : FnScope n_written ["things"] (defScope s_written) := ⟨rfl, rfl, rfl, by decide +kernel, rfl, by decide +kernel, by decide +kernel⟩
theorem e_sp : Str.ofString " " = S [32] := rfl
theorem e_sl : Str.ofString "/" = S [47] := rfl
theorem joinL_len (c : Nat) : ∀ {L : List (List Nat)}, L ≠ [] → (TL.joinL [c] L).length + 1 = (L.map (·.length)).sum + L.length
  | [], h => absurd rfl h
  | [p], _ => by simp [TL.joinL]
  | p :: q :: r, _ => by
    have ih := joinL_len c (L := q :: r) (by simp)
    rw [joinL_cons c p (by simp), List.length_append, List.length_cons, List.map_cons, List.sum_cons, List.length_cons]
    omega
theorem lens_S (L : List (List Nat)) : (L.map S).map (fun z : Str => z.length) = L.map (·.length) := lens L
/-- c.join(texts) -/
theorem i_joinS {K : PySem.W.Frag} {H : Hp} {Q : VK} {p : Addr} {c : Nat} {x : Str} {L : List (List Nat)} (ex : x = S [c]) (hp : SqL K H p ((L.map S).map V.str)) (hz : (L.map (·.length)).sum + L.length ≤ 1000000) (h : Q (.str (S (TL.joinL [c] L))) H) : rJoinS K (.str x) [.ref p] H Q := by
  subst ex
  refine ⟨S [c], p, L.map S, rfl, rfl, .inl hp, ?_, by rw [join_S]; exact h⟩
  rw [lens_S, List.length_map, S_len]
  show (L.map (·.length)).sum + L.length * 1 ≤ 16777216
  omega
theorem wnum_len {m : Int} (h0 : 0 ≤ m) (h1 : m < 10 ^ 60) : (wnum m).length ≤ 60 := by
  unfold wnum
  refine TL.numL_len (by decide) ?_
  have : ((m.toNat : Nat) : Int) < ((10 ^ 60 : Nat) : Int) := by rw [Int.toNat_of_nonneg h0]; exact_mod_cast h1
  exact_mod_cast this
theorem i_strI {H : Hp} {Q : VK} {m : Int} (h0 : 0 ≤ m) (h1 : m < 10 ^ 60) (h : Q (.str (S (wnum m))) H) : rStrI [.int m] H Q := by
  refine ⟨m, rfl, ?_, ?_⟩
  · by_cases z : m.natAbs = 0
    · rw [z]; decide
    · refine Nat.lt_trans ((Nat.log2_lt z).mpr (show m.natAbs < 2 ^ 200 from ?_)) (by decide)
      have : m.natAbs < 10 ^ 60 := by omega
      exact Nat.lt_trans this (by decide)
  · have e : m = ((m.toNat : Nat) : Int) := (Int.toNat_of_nonneg h0).symm
    have e2 := num_S m.toNat
    rw [← e] at e2
    unfold wnum at h
    rw [← e2] at h
    exact h
theorem wthg_len {t : T3} (h : Small t) : (wthg t).length ≤ 182 := by
  have j := joinL_len 47 (L := [wnum t.1, wnum t.2.1, wnum t.2.2]) (by simp)
  have a := wnum_len h.1.1 h.2.1
  have b := wnum_len h.1.2.1 h.2.2.1
  have c := wnum_len h.1.2.2 h.2.2.2
  unfold wthg
  simp at j ⊢
  omega
/-- done, starts: refused -/
def sp_door (K : PySem.W.Frag) (cH cO : Addr) : Sp := fun vs H _ E => ∃ u v : V, vs = [u, v] ∧ ((ThB K H u false ∧ ∀ H', Same H H' → E (.ref cH) none H') ∨
  (∃ a ts, u = .ref a ∧ ThB K H u true ∧ SqL K H a ts ∧ ts.length ≤ 1000 ∧ OrB K H v ts.length ∧ ∀ H', Same H H' → E (.ref cO) none H'))
/-- soonest: refused -/
def sp_soon (K : PySem.W.Frag) (cH : Addr) : Sp := fun vs H _ E => ∃ u : V, vs = [u] ∧ ThB K H u false ∧ ∀ H', Same H H' → E (.ref cH) none H'
/-- a value that is no whole number -/
def TmB (K : PySem.W.Frag) (H : Hp) (v : V) : Prop := Fl v false ∨ ∃ T, TyB K H v T ∧ kitB T "int" = some false
theorem TmB.same {K : PySem.W.Frag} {H H' : Hp} {v : V} (s : Same H H') (h : TmB K H v) : TmB K H' v := h.imp id fun ⟨T, h1, h2⟩ => ⟨T, tyB_same s h1, h2⟩
/-- within: refused -/
def sp_withi (K : PySem.W.Frag) (cH cI : Addr) : Sp := fun vs H _ E => ∃ u v : V, vs = [u, v] ∧ ((ThB K H u false ∧ ∀ H', Same H H' → E (.ref cH) none H') ∨ (ThB K H u true ∧ TmB K H v ∧ ∀ H', Same H H' → E (.ref cI) none H'))
/-- written: refused, or the text -/
def sp_writ (K : PySem.W.Frag) (cH : Addr) : Sp := fun vs H Q E => ∃ u : V, vs = [u] ∧ ((ThB K H u false ∧ ∀ H', Same H H' → E (.ref cH) none H') ∨
  (∃ a ts, u = .ref a ∧ Things K H a ts ∧ (∀ t ∈ ts, Nn t) ∧ ts.length ≤ 1000 ∧ (¬ (∀ t ∈ ts, Small t) → ∀ H', Same H H' → E (.ref cH) none H') ∧ ((∀ t ∈ ts, Small t) → (wtx ts).length ≤ 100000 ∧ ∀ H', Same H H' → Q (.str (S (wtx ts))) H')))
/-- are all lengths below the bound -/
def smb (t : T3) : Bool := decide (t.1 < 10 ^ 60 ∧ t.2.1 < 10 ^ 60 ∧ t.2.2 < 10 ^ 60)
theorem smb_max {t : T3} {m : Int} (hm : m ∈ [t.1, t.2.1, t.2.2]) (hge : ∀ x ∈ [t.1, t.2.1, t.2.2], x ≤ m) : decide (m < 10 ^ 60) = smb t := by
  unfold smb
  rw [decide_eq_decide]
  have a := hge t.1 (by simp)
  have b := hge t.2.1 (by simp)
  have c := hge t.2.2 (by simp)
  constructor
  · intro h
    exact ⟨Int.lt_of_le_of_lt a h, Int.lt_of_le_of_lt b h, Int.lt_of_le_of_lt c h⟩
  · rintro ⟨x, y, z⟩
    rcases List.mem_cons.mp hm with rfl | hm
    · exact x
    rcases List.mem_cons.mp hm with rfl | hm
    · exact y
    rcases List.mem_cons.mp hm with rfl | hm
    · exact z
    cases hm
theorem all_smb {ts : List T3} (n : ∀ t ∈ ts, Nn t) : ts.all smb = true ↔ ∀ t ∈ ts, Small t := by
  rw [List.all_eq_true]
  exact ⟨fun h t ht => ⟨n t ht, of_decide_eq_true (h t ht)⟩, fun h t ht => decide_eq_true (h t ht).2⟩
theorem itB_thing {K : PySem.W.Frag} {H : Hp} {v : V} {t : T3} (h : IsT K H v t) (n : Nn t) : ItB K H v true := by
  obtain ⟨p, rfl, hp⟩ := h
  refine .inr ⟨p, _, rfl, hp, (by show 3 ≤ 1000; decide), fun x hx => ?_, ?_⟩
  · rcases List.mem_cons.mp hx with rfl | hx
    · exact ⟨_, .int _⟩
    rcases List.mem_cons.mp hx with rfl | hx
    · exact ⟨_, .int _⟩
    rcases List.mem_cons.mp hx with rfl | hx
    · exact ⟨_, .int _⟩
    cases hx
  · show true = (true && (okc (.int t.1) && (okc (.int t.2.1) && (okc (.int t.2.2) && true))))
    have k : ∀ m : Int, 0 ≤ m → okc (.int m) = true := fun m h => decide_eq_true h
    rw [k _ n.1, k _ n.2.1, k _ n.2.2]
    rfl
theorem all2_true {K : PySem.W.Frag} {H : Hp} {vs : List V} {ts : List T3} (h : ThL K H vs ts) (n : ∀ t ∈ ts, Nn t) : All2 (ItB K H) vs (List.replicate vs.length true) := ⟨(List.length_replicate ..).symm, fun i x b hx hb => by
  obtain ⟨t, ht, hx'⟩ := h.at' hx
  have e : b = true := (List.mem_replicate.mp (List.mem_of_getElem? hb)).2
  subst e
  exact itB_thing hx' (n t (List.mem_of_getElem? ht))⟩
theorem thB_things {K : PySem.W.Frag} {H : Hp} {a : Addr} {ts : List T3} (h : Things K H a ts) (n : ∀ t ∈ ts, Nn t) (l : ts.length ≤ 1000) : ThB K H (.ref a) true := by
  obtain ⟨vs, h1, h2⟩ := h
  refine .inr ⟨a, vs, _, rfl, h1, (by rw [h2.len]; exact l), all2_true h2 n, ?_⟩
  exact (List.all_eq_true.mpr fun b hb => (List.mem_replicate.mp hb).2).symm
section
variable {P : Program} {ww : World} {K : PySem.W.Frag} {mg : Str → Option Value} {base : Heap} {cH cO cI : Addr}
theorem ok_done (B : Blt mg) (c_check_things : CalN P ww K mg base 3 "check_things" (sp_check K cH)) (c_check_order : CalN P ww K mg base 3 "check_order" (sp_chkord K cO)) (D : Def K mg "done" s_done ["things", "order"]) : CalN P ww K mg base 4 "done" (sp_door K cH cO) := by
  refine D.calN sc_done (fun vs H Q E h => ?_) (fun f cdv A outer s H vs Q E hr h => ?_)
  · obtain ⟨u, v, rfl, _⟩ := h
    rfl
  · obtain ⟨u, v, rfl, h⟩ := h
    have tk : L2N.Takes (cxOf (L2N.CX P ww) P ww K mg base n_done "done" (defScope s_done) f cdv A outer s H E) (fun cls d _ H => E cls d H) := L2N.takes_of rfl rfl rfl rfl
    refine ⟨_, pss_cons (ps_expr (pe_calN c_check_things hr (by decide) (by rfl) tk (pa_cons (pv 0) pa_nil)))
    (pss_cons (ps_expr (pe_calN c_check_order hr (by decide) (by rfl) tk (pa_cons (pv 0) (pa_cons (pv 1) pa_nil))))
    (pss_one (ps_ret (pe_never)))), ?_⟩
    walk_at "go"
    rcases h with ⟨h1, q⟩ | ⟨a, ts, rfl, h1, hs, hl, hO, q⟩
    · exact ⟨u, false, rfl, h1, (fun z => nomatch z), fun _ => q⟩
    · refine ⟨_, true, rfl, h1, fun _ H1 s1 => ?_, fun z => nomatch z⟩
      walk_at "go"
      exact ⟨a, v, ts, rfl, s1.seq hs, hl, hO.same s1, fun H' s' => q H' (s1.trans s')⟩
theorem ok_starts (B : Blt mg) (c_check_things : CalN P ww K mg base 3 "check_things" (sp_check K cH)) (c_check_order : CalN P ww K mg base 3 "check_order" (sp_chkord K cO)) (D : Def K mg "starts" s_starts ["things", "order"]) : CalN P ww K mg base 4 "starts" (sp_door K cH cO) := by
  refine D.calN sc_starts (fun vs H Q E h => ?_) (fun f cdv A outer s H vs Q E hr h => ?_)
  · obtain ⟨u, v, rfl, _⟩ := h
    rfl
  · obtain ⟨u, v, rfl, h⟩ := h
    have tk : L2N.Takes (cxOf (L2N.CX P ww) P ww K mg base n_starts "starts" (defScope s_starts) f cdv A outer s H E) (fun cls d _ H => E cls d H) := L2N.takes_of rfl rfl rfl rfl
    refine ⟨_, pss_cons (ps_expr (pe_calN c_check_things hr (by decide) (by rfl) tk (pa_cons (pv 0) pa_nil)))
    (pss_cons (ps_expr (pe_calN c_check_order hr (by decide) (by rfl) tk (pa_cons (pv 0) (pa_cons (pv 1) pa_nil))))
    (pss_cons (pst_never)
    (pss_cons (pst_never)
    (pss_cons (pst_never)
    (pss_one (pst_never)))))), ?_⟩
    walk_at "go"
    rcases h with ⟨h1, q⟩ | ⟨a, ts, rfl, h1, hs, hl, hO, q⟩
    · exact ⟨u, false, rfl, h1, (fun z => nomatch z), fun _ => q⟩
    · refine ⟨_, true, rfl, h1, fun _ H1 s1 => ?_, fun z => nomatch z⟩
      walk_at "go"
      exact ⟨a, v, ts, rfl, s1.seq hs, hl, hO.same s1, fun H' s' => q H' (s1.trans s')⟩
theorem ok_soonest (B : Blt mg) (c_check_things : CalN P ww K mg base 3 "check_things" (sp_check K cH)) (D : Def K mg "soonest" s_soonest ["things"]) : CalN P ww K mg base 4 "soonest" (sp_soon K cH) := by
  refine D.calN sc_soonest (fun vs H Q E h => ?_) (fun f cdv A outer s H vs Q E hr h => ?_)
  · obtain ⟨u, rfl, _⟩ := h
    rfl
  · obtain ⟨u, rfl, h1, q⟩ := h
    have tk : L2N.Takes (cxOf (L2N.CX P ww) P ww K mg base n_soonest "soonest" (defScope s_soonest) f cdv A outer s H E) (fun cls d _ H => E cls d H) := L2N.takes_of rfl rfl rfl rfl
    refine ⟨_, pss_cons (ps_expr (pe_calN c_check_things hr (by decide) (by rfl) tk (pa_cons (pv 0) pa_nil)))
    (pss_cons (pst_never)
    (pss_cons (pst_never)
    (pss_one (pst_never)))), ?_⟩
    walk_at "go"
    exact ⟨u, false, rfl, h1, (fun z => nomatch z), fun _ => q⟩
theorem ok_within (B : Blt mg) (X_BadTime : Err K mg "BadTime" cI) (c_is_whole : Cal P ww K mg base 1 "is_whole" (sp_whole K)) (c_check_things : CalN P ww K mg base 3 "check_things" (sp_check K cH)) (D : Def K mg "within" s_within ["things", "time"]) : CalN P ww K mg base 4 "within" (sp_withi K cH cI) := by
  refine D.calN sc_within (fun vs H Q E h => ?_) (fun f cdv A outer s H vs Q E hr h => ?_)
  · obtain ⟨u, v, rfl, _⟩ := h
    rfl
  · obtain ⟨u, v, rfl, h⟩ := h
    have tk : L2N.Takes (cxOf (L2N.CX P ww) P ww K mg base n_within "within" (defScope s_within) f cdv A outer s H E) (fun cls d _ H => E cls d H) := L2N.takes_of rfl rfl rfl rfl
    refine ⟨_, pss_cons (ps_expr (pe_calN c_check_things hr (by decide) (by rfl) tk (pa_cons (pv 0) pa_nil)))
    (pss_cons (ps_if (pt_not (pt_val (pe_cal c_is_whole hr (by decide) (by rfl) (pa_cons (pv 1) pa_nil))))
      (pss_one (ps_raiseN rfl tk X_BadTime (by rfl)))
      (pss_nil))
    (pss_cons (pst_never)
    (pss_cons (pst_never)
    (pss_cons (pst_never)
    (pss_one (pst_never)))))), ?_⟩
    walk_at "go"
    rcases h with ⟨h1, q⟩ | ⟨h1, hT, q⟩
    · exact ⟨u, false, rfl, h1, (fun z => nomatch z), fun _ => q⟩
    · refine ⟨_, true, rfl, h1, fun _ H1 s1 => ?_, fun z => nomatch z⟩
      walk_at "go"
      refine ⟨v, false, rfl, (hT.same s1).imp id fun h => ⟨rfl, h⟩, ?_⟩
      walk_at "go"
      exact q H1 s1
theorem ok_written (B : Blt mg) (X_BadThings : Err K mg "BadThings" cH) (X_MOST : ∃ t, mg "MOST" = some (.int (10 ^ 60) t)) (c_check_things : CalN P ww K mg base 3 "check_things" (sp_check K cH)) (D : Def K mg "written" s_written ["things"]) : CalN P ww K mg base 4 "written" (sp_writ K cH) := by
  refine D.calN sc_written (fun vs H Q E h => ?_) (fun f cdv A outer s H vs Q E hr h => ?_)
  · obtain ⟨u, rfl, _⟩ := h
    rfl
  · obtain ⟨u, rfl, h⟩ := h
    have tk : L2N.Takes (cxOf (L2N.CX P ww) P ww K mg base n_written "written" (defScope s_written) f cdv A outer s H E) (fun cls d _ H => E cls d H) := L2N.takes_of rfl rfl rfl rfl
    refine ⟨_, pss_cons (ps_expr (pe_calN c_check_things hr (by decide) (by rfl) tk (pa_cons (pv 0) pa_nil)))
    (pss_cons (ps_if (pt_not (pt_val (pe_callB (r := rAll K) (cr_all rfl) (by rfl) B.all (by decide +kernel) (pa_cons (pe_lc (own := [("thing", 1)]) rfl sc_written.nd (pi_list (pv 0)) (blkOk_by (N := n_written) (sc := defScope s_written) (by decide +kernel)) (fun _ _ _ _ _ => (pg_name (i := 1) sc_written.nd rfl (.inl rfl))) (fun _ _ _ _ _ => pts_nil) (fun _ _ _ _ _ => (pe_cmpR op_lt (pe_callB (r := rMaxT K) (bp_maxT rfl) (by rfl) B.max (by decide +kernel) (pa_cons (pv 1) pa_nil)) ((pe_gnum (by rfl) X_MOST)) (nomark _)))) pa_nil))))
      (pss_one (ps_raiseN rfl tk X_BadThings (by rfl)))
      (pss_nil))
    (pss_cons (ps_if (pt_cmpR op_eq (pe_callB (r := rLenB K) cb_len (by rfl) B.len (by decide +kernel) (pa_cons (pv 0) pa_nil)) pe_int (nomark _))
      (pss_one (ps_ret pe_str))
      (pss_nil))
    (pss_one (ps_ret (pe_joinS pe_str (pe_lc (own := [("thing", 1)]) rfl sc_written.nd (pi_list (pv 0)) (blkOk_by (N := n_written) (sc := defScope s_written) (by decide +kernel)) (fun _ _ _ _ _ => (pg_name (i := 1) sc_written.nd rfl (.inl rfl))) (fun _ _ _ _ _ => pts_nil) (fun _ _ _ _ _ => (pe_joinS pe_str (pe_lc (own := [("length", 2)]) rfl sc_written.nd (pi_tup (pv 1) : PI _ _ _ (iTup K _)) (blkOk_by (by rfl)) (fun _ _ _ _ _ => (pg_name (i := 2) sc_written.nd rfl (.inl rfl))) (fun _ _ _ _ _ => pts_nil) (fun _ _ _ _ _ => (pe_callTy cs_str (by rfl) B.str (by decide +kernel) (pa_cons (pv 2) pa_nil)))) : PE _ _ (tM1 (rJoinS K) _ _)))) : PE _ _ (tM1 (rJoinS K) _ _)))))), ?_⟩
    walk_at "go"
    rcases h with ⟨h1, q⟩ | ⟨a, ts, rfl, hT, hN, hz, q1, q2⟩
    · exact ⟨u, false, rfl, h1, (fun z => nomatch z), fun _ => q⟩
    refine ⟨_, true, rfl, thB_things hT hN hz, fun _ H1 s1 => ?_, fun z => nomatch z⟩
    walk_at "go"
    obtain ⟨vs, hs, hT1⟩ := hT.mono s1
    refine i_itl hs ?_
    refine fun p0 hp0 => lc_map (K := K) (R := fun i y _ => ∀ t, ts[i]? = some t → y = .bl (smb t)) (fun _ h => h) sqn_l (fun H' e => e.seq hs) (by rw [hT1.len]; omega) hp0 (fun i x H' Qc Qn hx sm k => ?_) (fun ys H2 s2 hy hl hr2 => ?_)
    · obtain ⟨t, ht, hx'⟩ := hT1.at' hx
      obtain ⟨pt, rfl, hpt⟩ := hx'.mono (smT sm)
      walk_at "go"
      refine ⟨rfl, ?_⟩
      walk_at "go"
      refine ⟨pt, [t.1, t.2.1, t.2.2], rfl, hpt, Nat.zero_lt_succ _, fun m hm hge => ?_⟩
      walk_at "go"
      refine k _ _ (Same.refl _) fun t' ht' => ?_
      rw [ht] at ht'
      cases ht'
      exact congrArg V.bl (smb_max hm hge)
    · have e2 : ys = (ts.map smb).map V.bl := by
        refine List.ext_getElem? fun j => ?_
        rw [List.map_map, List.getElem?_map]
        cases e : ts[j]? with
        | none => exact List.getElem?_eq_none (by rw [hl, hT1.len]; exact List.getElem?_eq_none_iff.mp e)
        | some p =>
          have hj : j < ys.length := by rw [hl, hT1.len]; exact (List.getElem?_eq_some_iff.mp e).1
          rw [List.getElem?_eq_getElem hj, hr2 j _ (List.getElem?_eq_getElem hj) p e]
          rfl
      rw [e2] at hy
      have s12 := s1.trans s2
      walk_at "go"
      refine i_all (SqL.of hy) ?_
      have e3 : (ts.map smb).all id = ts.all smb := by rw [List.all_map]; rfl
      rw [e3]
      walk_at "go"
      refine i_ite (fun c => ?_) (fun c => ?_)
      · walk_at "go"
        refine q1 (fun h => ?_) H2 s12
        have z := (all_smb hN).mpr h
        rw [z] at c
        exact nomatch c
      have hS : ∀ t ∈ ts, Small t := (all_smb hN).mp (by simpa using c)
      obtain ⟨hw, q⟩ := q2 hS
      walk_at "go"
      refine i_lenThings (hT.mono s12) ?_
      walk_at "go"
      refine i_itd (fun c => ?_) (fun c => ?_)
      · have t0 : ts = [] := List.eq_nil_of_length_eq_zero (by omega)
        walk_at "go"
        have z := q H2 s12
        rw [t0] at z
        exact z
      · have tne : ts ≠ [] := fun z => c (by rw [z]; rfl)
        have ew : wtx ts = TL.joinL [32] (ts.map wthg) := by unfold wtx; rw [if_neg tne]
        have jl := joinL_len 32 (L := ts.map wthg) (fun z => tne (List.map_eq_nil_iff.mp z))
        rw [ew] at hw
        walk_at "go"
        refine ⟨⟨_, rfl⟩, ?_⟩
        obtain ⟨vs2, hs2, hT2⟩ := hT.mono s12
        walk_at "go"
        refine i_itl hs2 ?_
        refine fun p3 hp3 => lc_map (K := K) (R := fun i y _ => ∀ t, ts[i]? = some t → y = .str (S (wthg t))) (fun _ h => h) sqn_l (fun H' e => e.seq hs2) (by rw [hT2.len]; omega) hp3 (fun i x H' Qc Qn hx sm k => ?_) (fun ys3 H3 s3 hy3 hl3 hr3 => ?_)
        · obtain ⟨t, ht, hx'⟩ := hT2.at' hx
          obtain ⟨pt, rfl, hpt⟩ := hx'.mono (smT sm)
          have st := hS t (List.mem_of_getElem? ht)
          walk_at "go"
          refine ⟨rfl, ?_⟩
          walk_at "go"
          refine ⟨⟨_, rfl⟩, ?_⟩
          walk_at "go"
          refine i_itt hpt ?_
          refine fun p4 hp4 => lc_map (K := K) (R := fun i y _ => ∀ m, ([t.1, t.2.1, t.2.2] : List Int)[i]? = some m → y = .str (S (wnum m))) (fun _ h => h) sqn_t (fun H' e => Same.t e hpt) (by show 3 < 100000; decide) hp4 (fun j x H5 Qc5 Qn5 hx5 sm5 k5 => ?_) (fun ys5 H5 s5 hy5 hl5 hr5 => ?_)
          · obtain ⟨m, hm, hb⟩ : ∃ m, ([t.1, t.2.1, t.2.2] : List Int)[j]? = some m ∧ x = .int m := by
              rcases j with _ | _ | _ | j
              · exact ⟨_, rfl, (Option.some.inj hx5).symm⟩
              · exact ⟨_, rfl, (Option.some.inj hx5).symm⟩
              · exact ⟨_, rfl, (Option.some.inj hx5).symm⟩
              · cases hx5
            subst hb
            have b : 0 ≤ m ∧ m < 10 ^ 60 := by
              have hm2 := List.mem_of_getElem? hm
              rcases List.mem_cons.mp hm2 with rfl | hm2
              · exact ⟨st.1.1, st.2.1⟩
              rcases List.mem_cons.mp hm2 with rfl | hm2
              · exact ⟨st.1.2.1, st.2.2.1⟩
              rcases List.mem_cons.mp hm2 with rfl | hm2
              · exact ⟨st.1.2.2, st.2.2.2⟩
              cases hm2
            walk_at "go"
            refine ⟨rfl, ?_⟩
            walk_at "go"
            refine i_strI b.1 b.2 ?_
            exact k5 _ _ (Same.refl _) fun m' hm' => by
              rw [hm] at hm'
              cases hm'
              rfl
          · have e5 : ys5 = ([wnum t.1, wnum t.2.1, wnum t.2.2].map S).map V.str := by
              match ys5, hl5, hr5 with
              | [y0, y1, y2], _, hr5 =>
                rw [hr5 0 y0 rfl t.1 rfl, hr5 1 y1 rfl t.2.1 rfl, hr5 2 y2 rfl t.2.2 rfl]
                rfl
            rw [e5] at hy5
            have wl := wthg_len st
            have j3 := joinL_len 47 (L := [wnum t.1, wnum t.2.1, wnum t.2.2]) (by simp)
            refine i_joinS e_sl (SqL.of hy5) (by unfold wthg at wl; omega) ?_
            exact k _ _ s5 fun t' ht' => by
              rw [ht] at ht'
              cases ht'
              rfl
        · have e3 : ys3 = ((ts.map wthg).map S).map V.str := by
            rw [List.map_map, List.map_map]
            refine List.ext_getElem? fun i => ?_
            rw [List.getElem?_map]
            cases e : ts[i]? with
            | none => exact List.getElem?_eq_none (by rw [hl3, hT2.len]; exact List.getElem?_eq_none_iff.mp e)
            | some t =>
              have hi : i < ys3.length := by rw [hl3, hT2.len]; exact (List.getElem?_eq_some_iff.mp e).1
              rw [List.getElem?_eq_getElem hi, hr3 i _ (List.getElem?_eq_getElem hi) t e]
              rfl
          rw [e3] at hy3
          refine i_joinS e_sp (SqL.of hy3) (by omega) ?_
          rw [← ew]
          exact q H3 (s12.trans s3)
end
abbrev s__law_cell_at : Stmt := topS 31
abbrev n__law_cell_at : List Str := ["_law_script", "_law_k"]
theorem sc__law_cell_at : FnScope n__law_cell_at ["_law_script", "_law_k"] (defScope s__law_cell_at) := ⟨rfl, rfl, rfl, by decide +kernel, rfl, by decide +kernel, by decide +kernel⟩
abbrev s__law_draw : Stmt := topS 32
abbrev n__law_draw : List Str := ["_law_cell", "_law_k", "_law_many", "_law_primes"]
theorem sc__law_draw : FnScope n__law_draw ["_law_cell", "_law_k", "_law_many"] (defScope s__law_draw) := ⟨rfl, rfl, rfl, by decide +kernel, rfl, by decide +kernel, by decide +kernel⟩
abbrev s__law_things : Stmt := topS 33
abbrev n__law_things : List Str := ["_law_script", "_law_kind", "_law_found", "_law_k", "_law_three", "_law_most", "_law_cell", "_law_one", "_law_rest", "_law_dry", "_law_other"]
theorem sc__law_things : FnScope n__law_things ["_law_script"] (defScope s__law_things) := ⟨rfl, rfl, rfl, by decide +kernel, rfl, by decide +kernel, by decide +kernel⟩
/-- _law_cell_at -/
def sp_cell (K : PySem.W.Frag) : Sp := fun vs H Q _ => ∃ (a : Addr) (ns : List Int) (k : Nat), vs = [.ref a, .int (k : Int)] ∧ SqL K H a (ns.map V.int) ∧ Q (.int (ns.getD k 0)) H
/-- _law_draw: some number below many -/
def sp_draw : Sp := fun vs H Q _ => ∃ (c k m : Int), vs = [.int c, .int k, .int m] ∧ 0 ≤ k ∧ 0 < m ∧ ∀ r H', Same H H' → 0 ≤ r → r < m → Q (.int r) H'
section
variable {P : Program} {w : World} {K : PySem.W.Frag} {mg : Str → Option Value} {base : Heap}
theorem ok__law_cell_at (B : Blt mg) (D : Def K mg "_law_cell_at" s__law_cell_at ["_law_script", "_law_k"]) : Cal P w K mg base 1 "_law_cell_at" (sp_cell K) := by
  refine D.cal sc__law_cell_at (fun vs H Q E h => ?_) (fun f cdv A outer s H vs Q E hr h => ?_)
  · obtain ⟨a, ns, k, rfl, _⟩ := h
    rfl
  · obtain ⟨a, ns, k, rfl, hs, q⟩ := h
    refine ⟨_, pss_cons (ps_if (pt_cmpR op_lt (pv 1) (pe_callB (r := rLenB K) cb_len (by rfl) B.len (by decide +kernel) (pa_cons (pv 0) pa_nil)) (nomark _))
      (pss_one (ps_ret (pe_ix (r := rIxL K) ix_list (pv 0) (pv 1) (fun _ _ => rfl))))
      (pss_nil))
    (pss_one (ps_ret pe_int)), ?_⟩
    walk_at "go"
    refine i_lenL hs ?_
    walk_at "go"
    rw [List.length_map]
    refine i_itd (fun c => ?_) (fun c => ?_)
    · walk_at "go"
      have hk : k < ns.length := by omega
      refine i_ixL hs (v := .int (ns.getD k 0)) (atI_nat ?_) ?_
      · rw [List.getElem?_map, List.getD_eq_getElem?_getD, List.getElem?_eq_getElem hk]; rfl
      · exact q
    · walk_at "go"
      have e : ns.getD k 0 = 0 := by
        rw [List.getD_eq_getElem?_getD, List.getElem?_eq_none (by omega)]; rfl
      rw [e] at q
      exact q
def primes : List Int := [1000003, 1000033, 1000037, 1000039, 1000081, 1000099, 1000117, 1000121, 1000133, 1000151, 1000159, 1000171, 1000183, 1000187, 1000193, 1000199]
theorem ok__law_draw (B : Blt mg) (D : Def K mg "_law_draw" s__law_draw ["_law_cell", "_law_k", "_law_many"]) : Cal P w K mg base 1 "_law_draw" sp_draw := by
  refine D.cal sc__law_draw (fun vs H Q E h => ?_) (fun f cdv A outer s H vs Q E hr h => ?_)
  · obtain ⟨c, k, m, rfl, _⟩ := h
    rfl
  · obtain ⟨c, k, m, rfl, hk, hm, q⟩ := h
    refine ⟨_, pss_cons (ps_set (i := 3) sc__law_draw.nd rfl (.inl rfl) (pe_tup (pa_cons pe_int (pa_cons pe_int (pa_cons pe_int (pa_cons pe_int (pa_cons pe_int (pa_cons pe_int (pa_cons pe_int (pa_cons pe_int (pa_cons pe_int (pa_cons pe_int (pa_cons pe_int (pa_cons pe_int (pa_cons pe_int (pa_cons pe_int (pa_cons pe_int (pa_cons pe_int pa_nil))))))))))))))))))
    (pss_one (ps_ret (pe_op op_mod (pe_op op_mod (pe_op op_add (pe_op op_mul (pv 0) pe_int) (pe_op op_mul (pv 1) pe_int)) (pe_ix (r := rIxT K) ix_tup (pv 3) (pe_op op_mod (pv 1) pe_int) (fun _ _ => rfl))) (pv 2)))), ?_⟩
    walk_at "go"
    refine i_tupk (xs := primes.map V.int) (by show 16 ≤ 100000; decide) fun p H1 np s1 h1 => ?_
    walk_at "go"
    refine i_I (.inr ⟨by decide, by decide⟩) ?_
    walk_at "go"
    refine i_I (.inr ⟨by decide, by decide⟩) ?_
    walk_at "go"
    refine i_I (by show (0 : Int) < 16; decide) ?_
    walk_at "go"
    have hj : (k % 16).toNat < primes.length := by show (k % 16).toNat < 16; omega
    have ej : k % 16 = (((k % 16).toNat : Nat) : Int) := by omega
    have hpos : ∀ x ∈ primes, 0 < x := by decide
    obtain ⟨pr, hpr⟩ : ∃ pr, primes[(k % 16).toNat]? = some pr := ⟨_, List.getElem?_eq_getElem hj⟩
    refine i_ixT (SqT.of h1) (v := .int pr) (by rw [ej]; exact atI_nat (by rw [List.getElem?_map, hpr]; rfl)) ?_
    refine i_I (hpos pr (List.mem_of_getElem? hpr)) ?_
    walk_at "go"
    refine i_I hm ?_
    exact q _ _ s1 (Int.emod_nonneg _ (by omega)) (Int.emod_lt_of_pos _ hm)
/-- lengths of at most sixty figures -/
def Sm (t : T3) : Prop := Nn t ∧ t.1 < 10 ^ 60 ∧ t.2.1 < 10 ^ 60 ∧ t.2.2 < 10 ^ 60
def sp_things (K : PySem.W.Frag) : Sp := fun vs H Q _ => ∃ (a : Addr) (ns : List Int), vs = [.ref a] ∧ SqL K H a (ns.map V.int) ∧ ns.length ≤ 63 ∧
  ∀ H' p vs' ts, Same H H' → H p = none → H' p = some (.lst vs') → ThL K H' vs' ts → (∀ t ∈ ts, Sm t) → ts.length ≤ 189 → Q (.ref p) H'
theorem p60_59 {r : Int} (h : r < (10 : Int) ^ (59 : Int).toNat) : r < 10 ^ 60 := Int.lt_trans h (by decide)
theorem p60_20 {r m : Int} (h : r < m) (hm : m ≤ 10 ^ 20) : r < 10 ^ 60 := Int.lt_trans (Int.lt_of_lt_of_le h hm) (by decide)
theorem dr_bound {r m : Int} (h0 : 0 ≤ r) (h1 : r < 200) (hm : 0 < m) (hm1 : m ≤ 10 ^ 20) : 0 ≤ r * m / 9 ∧ r * m / 9 < 10 ^ 60 := by
  have a := Int.mul_nonneg h0 (Int.le_of_lt hm)
  have b : r * m ≤ 200 * 10 ^ 20 := Int.mul_le_mul (Int.le_of_lt h1) hm1 (Int.le_of_lt hm) (by decide)
  have c : (200 : Int) * 10 ^ 20 < 10 ^ 60 := by decide
  generalize r * m = z at *
  omega
def mosts : List Int := [3, 10, (10 : Int) ^ (20 : Int).toNat]
def drys : List Int := [1, 30, 200]
theorem ok__law_things (B : Blt mg) (c__law_cell_at : Cal P w K mg base 1 "_law_cell_at" (sp_cell K)) (c__law_draw : Cal P w K mg base 1 "_law_draw" sp_draw) (D : Def K mg "_law_things" s__law_things ["_law_script"]) : Cal P w K mg base 2 "_law_things" (sp_things K) := by
  refine D.cal sc__law_things (fun vs H Q E h => ?_) (fun f cdv A outer s H vs Q E hr h => ?_)
  · obtain ⟨a, ns, rfl, _⟩ := h
    rfl
  · obtain ⟨a, ns, rfl, hs, hz, q⟩ := h
    refine ⟨_, pss_cons (ps_set (i := 0) sc__law_things.nd rfl (.inl rfl) (pe_slice (r := rSlL K) sl_list (pv 0) po_none (po_some pe_int)))
    (pss_cons (ps_par (i := 1) (j := 2) rfl sc__law_things.nd rfl rfl (by decide) rfl rfl (pa_cons (pe_cal c__law_draw hr (by decide) (by rfl) (pa_cons (pe_cal c__law_cell_at hr (by decide) (by rfl) (pa_cons (pv 0) (pa_cons pe_int pa_nil))) (pa_cons pe_int (pa_cons pe_int pa_nil)))) (pa_cons (pe_lst pa_nil) pa_nil)) (by rfl))
    (pss_cons (ps_if (pt_cmpR op_eq (pe_op op_mod (pe_callB (r := rLenB K) cb_len (by rfl) B.len (by decide +kernel) (pa_cons (pv 0) pa_nil)) pe_int) pe_int (nomark _))
      (pss_cons (ps_for PassesOwn.never rfl (pi_range3 (by rfl) B.range (pa_cons pe_int (pa_cons (pe_callB (r := rLenB K) cb_len (by rfl) B.len (by decide +kernel) (pa_cons (pv 0) pa_nil)) (pa_cons pe_int pa_nil)))) (pg_name (i := 3) sc__law_things.nd rfl (.inl rfl))
          (pss_cons (ps_setLc (i := 4) (own := [("_law_cell", 6)]) rfl sc__law_things.nd rfl rfl (sw_true rfl rfl rfl (by decide +kernel)) (pi_list (pe_slice (r := rSlL K) sl_list (pv 0) (po_some (pv 3)) (po_some (pe_op op_add (pv 3) pe_int)))) (blkOk_by (N := n__law_things) (sc := defScope s__law_things) (by decide +kernel)) (fun _ _ _ _ _ => (pg_name (i := 6) sc__law_things.nd rfl (.inl rfl))) (fun _ _ _ _ _ => pts_nil) (fun _ _ _ _ _ => (pe_op op_mod (pv 6) (pe_op op_pow pe_int pe_int))))
            (pss_one (ps_expr (pe_bm PySem.F.plainAttrs_list PySem.F.slot_list_append PySem.F.type_list_append mt_append (pv 2) (pa_cons (pe_tup (pa_cons (pe_ix (r := rIxL K) ix_list (pv 4) pe_int (fun _ _ => rfl)) (pa_cons (pe_ix (r := rIxL K) ix_list (pv 4) pe_int (fun _ _ => rfl)) (pa_cons (pe_ix (r := rIxL K) ix_list (pv 4) pe_int (fun _ _ => rfl)) pa_nil)))) pa_nil))))))
        (pss_one (ps_ret (pv 2))))
      (pss_nil))
    (pss_cons (ps_set (i := 5) sc__law_things.nd rfl (.inl rfl) (pe_ix (r := rIxT K) ix_tup (pe_tup (pa_cons pe_int (pa_cons pe_int (pa_cons (pe_op op_pow pe_int pe_int) pa_nil)))) (pe_cal c__law_draw hr (by decide) (by rfl) (pa_cons (pe_cal c__law_cell_at hr (by decide) (by rfl) (pa_cons (pv 0) (pa_cons pe_int pa_nil))) (pa_cons pe_int (pa_cons pe_int pa_nil)))) (fun _ _ => rfl)))
    (pss_cons (ps_for PassesOwn.never rfl (pi_range1 (by rfl) B.range (pa_cons (pe_op op_mul (pe_callB (r := rLenB K) cb_len (by rfl) B.len (by decide +kernel) (pa_cons (pv 0) pa_nil)) (pe_ifExp (pt_cmpR op_eq (pv 1) pe_int (nomark _)) pe_int pe_int)) pa_nil)) (pg_name (i := 3) sc__law_things.nd rfl (.inl rfl))
      (pss_cons (ps_set (i := 6) sc__law_things.nd rfl (.inl rfl) (pe_op op_add (pe_ix (r := rIxL K) ix_list (pv 0) (pe_op op_mod (pv 3) (pe_callB (r := rLenB K) cb_len (by rfl) B.len (by decide +kernel) (pa_cons (pv 0) pa_nil))) (fun _ _ => rfl)) (pe_op op_mul pe_int (pe_op op_fdivW (pv 3) (pe_callB (r := rLenB K) cb_len (by rfl) B.len (by decide +kernel) (pa_cons (pv 0) pa_nil))))))
        (pss_cons (ps_par (i := 7) (j := 8) rfl sc__law_things.nd rfl rfl (by decide) rfl rfl (pa_cons (pe_op op_mod (pv 6) (pv 5)) (pa_cons (pe_op op_fdivW (pv 6) (pv 5)) pa_nil)) (by rfl))
        (pss_cons (ps_par (i := 9) (j := 10) rfl sc__law_things.nd rfl rfl (by decide) rfl rfl (pa_cons (pe_op op_mod (pv 8) (pv 5)) (pa_cons (pe_op op_mod (pe_op op_fdivW (pv 8) (pv 5)) (pv 5)) pa_nil)) (by rfl))
        (pss_mid (ps_if (pt_cmpR op_gt (pv 1) pe_int (nomark _))
          (pss_cons (ps_set (i := 7) sc__law_things.nd rfl (.inl rfl) (pe_op op_fdivW (pe_op op_mul (pe_cal c__law_draw hr (by decide) (by rfl) (pa_cons (pv 6) (pa_cons (pe_op op_add (pe_op op_mod (pv 3) pe_int) pe_int) (pa_cons pe_int pa_nil)))) (pv 5)) pe_int))
            (pss_cons (ps_set (i := 9) sc__law_things.nd rfl (.inl rfl) (pe_op op_fdivW (pe_op op_mul (pe_cal c__law_draw hr (by decide) (by rfl) (pa_cons (pe_op op_add (pe_op op_mul (pv 6) pe_int) (pv 3)) (pa_cons (pe_op op_add (pe_op op_mod (pv 3) pe_int) pe_int) (pa_cons (pe_ix (r := rIxT K) ix_tup (pe_tup (pa_cons pe_int (pa_cons pe_int (pa_cons pe_int pa_nil)))) (pe_cal c__law_draw hr (by decide) (by rfl) (pa_cons (pv 6) (pa_cons pe_int (pa_cons pe_int pa_nil)))) (fun _ _ => rfl)) pa_nil)))) (pv 5)) pe_int))
            (pss_one (ps_set (i := 10) sc__law_things.nd rfl (.inl rfl) (pe_op op_fdivW (pe_op op_mul (pe_cal c__law_draw hr (by decide) (by rfl) (pa_cons (pe_op op_add (pe_op op_mul (pv 6) pe_int) pe_int) (pa_cons (pe_op op_add (pe_op op_mod (pv 3) pe_int) pe_int) (pa_cons pe_int pa_nil)))) (pv 5)) pe_int)))))
          (pss_nil))
        (pss_mid (ps_if (pt_cmpR op_eq (pv 1) pe_int (nomark _))
          (pss_one (ps_set (i := 9) sc__law_things.nd rfl (.inl rfl) pe_int))
          (pss_nil))
        (pss_mid (ps_if (PW.pt (pw_and (pt_cmpR op_eq (pv 1) pe_int (nomark _)) (pw_and1 (pt_cmpR op_lt (pv 7) (pv 10) (nomark _)))))
          (pss_one (ps_par (i := 7) (j := 10) rfl sc__law_things.nd rfl rfl (by decide) rfl rfl (pa_cons (pv 10) (pa_cons (pv 7) pa_nil)) (by rfl)))
          (pss_nil))
        (pss_one (ps_expr (pe_bm PySem.F.plainAttrs_list PySem.F.slot_list_append PySem.F.type_list_append mt_append (pv 2) (pa_cons (pe_tup (pa_cons (pv 7) (pa_cons (pv 9) (pa_cons (pv 10) pa_nil)))) pa_nil)))))))))))
    (pss_one (ps_ret (pv 2))))))), ?_⟩
    walk_at "go"
    refine i_slL hs fun p1 H1 np1 s1 h1 => ?_
    rw [show (63 : Int) = ((63 : Nat) : Int) from rfl, cut_to, List.take_of_length_le (by rw [List.length_map]; exact hz)] at h1
    walk_at "go"
    refine ⟨p1, ns, 0, rfl, SqL.of h1, ?_⟩
    walk_at "go"
    refine ⟨_, 6, 6, rfl, by decide, by decide, fun kind H2 s2 hk0 hk1 => ?_⟩
    walk_at "go"
    refine i_lstk (Nat.zero_le _) fun pf H3 npf s3 h3 => ?_
    have sl : ∀ {H'}, Same H2 H' → SqL K H' p1 (ns.map V.int) := fun e => e.seq (s2.seq (SqL.of h1))
    have nf : H pf = none := (s1.trans s2).free npf
    walk_at "go"
    refine i_lenL (sl s3) ?_
    walk_at "go"
    refine i_I (by show (0 : Int) < 3; decide) ?_
    walk_at "go"
    rw [List.length_map]
    refine i_itd (fun c3 => ?_) (fun c3 => ?_)
    · walk_at "go"
      refine i_lenL (sl s3) ?_
      walk_at "go"
      rw [List.length_map]
      refine i_itc (rg3 hz) ?_
      refine for_rangeC (fun i σ' H' => ∃ y3 y4 vs' ts, σ' = [some (.ref p1), some (.int kind), some (.ref pf), y3, y4, none, none, none, none, none, none] ∧ Same H2 H' ∧ H' pf = some (.lst vs') ∧ ThL K H' vs' ts ∧ (∀ t ∈ ts, Sm t) ∧ ts.length = i) ?_ ?_ ?_
      · exact ⟨_, _, [], [], rfl, s3, h3, All2.nil, (fun t h => by cases h), rfl⟩
      · rintro i σ' H' hi ⟨y3, y4, vs', ts, rfl, sm, hf, hT, hS, hl⟩
        walk_at "go"
        refine i_slL (sl sm) fun p4 H4 np4 s4 h4 => ?_
        have hi3 : i * 3 + 3 ≤ ns.length := by omega
        rw [show (0 : Int) + (i : Nat) * 3 = ((i * 3 : Nat) : Int) by omega, show ((i * 3 : Nat) : Int) + 3 = ((i * 3 + 3 : Nat) : Int) by omega, cut_mid _ _ _ (by rw [List.length_map]; exact hi3)] at h4
        walk_at "go"
        refine i_itl (SqL.of h4) ?_
        have l3 : (((ns.map V.int).drop (i * 3)).take 3).length = 3 := by rw [List.length_take, List.length_drop, List.length_map]; omega
        refine fun p5 np5 => lc_map (K := K) (R := fun _ y _ => ∃ r : Int, y = .int r ∧ 0 ≤ r ∧ r < (10 : Int) ^ (59 : Int).toNat) (fun _ h => h) sqn_l (fun H' e => e.seq (SqL.of h4)) (by rw [l3]; decide) np5 (fun j x H' Qc Qn hx sm k => ?_) (fun ys H5 s5 hy hl5 hr5 => ?_)
        · obtain ⟨m, rfl⟩ : ∃ m : Int, x = .int m := by
            have hm := List.mem_of_mem_drop (List.mem_of_mem_take (List.mem_of_getElem? hx))
            obtain ⟨m, _, e⟩ := List.mem_map.mp hm
            exact ⟨m, e.symm⟩
          walk_at "go"
          refine ⟨rfl, ?_⟩
          walk_at "go"
          refine i_I (⟨by decide, by decide, by decide⟩ : CPow 10 59) ?_
          have pp : (0 : Int) < (10 : Int) ^ (59 : Int).toNat := by decide
          refine i_I pp ?_
          exact k _ _ (Same.refl _) ⟨_, rfl, Int.emod_nonneg _ (by omega), Int.emod_lt_of_pos _ pp⟩
        · rw [l3] at hl5
          obtain ⟨r0, e0, b0, c0⟩ := hr5 0 ys[0] (List.getElem?_eq_getElem (by omega))
          obtain ⟨r1, e1, b1, c1⟩ := hr5 1 ys[1] (List.getElem?_eq_getElem (by omega))
          obtain ⟨r2, e2, b2, c2⟩ := hr5 2 ys[2] (List.getElem?_eq_getElem (by omega))
          have nf5 : H5 pf = some (.lst vs') := s5 _ _ (s4 _ _ hf)
          walk_at "go"
          refine ⟨ty_lst nf5, ?_⟩
          walk_at "go"
          refine i_ixL (SqL.of hy) (v := .int r0) (atI_nat (j := 0) (by rw [← e0]; exact List.getElem?_eq_getElem (by omega))) ?_
          walk_at "go"
          refine i_ixL (SqL.of hy) (v := .int r1) (atI_nat (j := 1) (by rw [← e1]; exact List.getElem?_eq_getElem (by omega))) ?_
          walk_at "go"
          refine i_ixL (SqL.of hy) (v := .int r2) (atI_nat (j := 2) (by rw [← e2]; exact List.getElem?_eq_getElem (by omega))) ?_
          walk_at "go"
          refine i_tupk (by show 3 ≤ 100000; decide) fun p6 H6 np6 s6 h6 => ?_
          walk_at "go"
          refine i_app (s6 _ _ nf5) (by rw [hT.len, hl]; omega) ?_
          walk_at "go"
          refine ⟨_, _, vs' ++ [.ref p6], ts ++ [(r0, r1, r2)], rfl, Same.mut (((sm.trans s4).trans s5).trans s6) npf, upd_same, ThL.mono (sameT_lst (s6 _ _ nf5)) (All2.snoc (ThL.mono (smT ((s4.trans s5).trans s6)) hT) ⟨p6, rfl, SqT.of h6⟩), fun t ht => ?_, by rw [List.length_append, hl]; rfl⟩
          rcases List.mem_append.mp ht with ht | ht
          · exact hS t ht
          · rw [List.mem_singleton.mp ht]
            exact ⟨⟨b0, b1, b2⟩, p60_59 c0, p60_59 c1, p60_59 c2⟩
      · rintro σ' H' ⟨y3, y4, vs', ts, rfl, sm, hf, hT, hS, hl⟩
        walk_at "go"
        exact q H' pf vs' ts ((s1.trans s2).trans sm) nf hf hT hS (by omega)
    · walk_at "go"
      refine i_I (⟨by decide, by decide, by decide⟩ : CPow 10 20) ?_
      walk_at "go"
      refine i_tupk (xs := mosts.map V.int) (by show 3 ≤ 100000; decide) fun pt H4 npt s4 h4 => ?_
      walk_at "go"
      refine ⟨p1, ns, 1, rfl, sl (s3.trans s4), ?_⟩
      walk_at "go"
      refine ⟨_, 7, 3, rfl, by decide, by decide, fun r H5 s5 r0 r1 => ?_⟩
      have er : r = ((r.toNat : Nat) : Int) := by omega
      obtain ⟨most, hmost⟩ : ∃ m, mosts[r.toNat]? = some m := ⟨_, List.getElem?_eq_getElem (by show r.toNat < 3; omega)⟩
      have hm : 0 < most ∧ most ≤ 10 ^ 20 := (by decide : ∀ x ∈ mosts, 0 < x ∧ x ≤ 10 ^ 20) most (List.mem_of_getElem? hmost)
      have hml : most.natAbs.log2 < 9000 := log_small (by
        have h1 := hm.2
        have h2 : (10 : Int) ^ 20 < 2 ^ 200 := by decide
        have h3 : ((most.natAbs : Nat) : Int) < ((2 ^ 200 : Nat) : Int) := by
          rw [show ((2 ^ 200 : Nat) : Int) = (2 : Int) ^ 200 by decide]
          omega
        exact Int.ofNat_lt.mp h3)
      refine i_ixT (SqT.of (s5 _ _ h4)) (v := .int most) (by rw [er]; exact atI_nat (by rw [List.getElem?_map, hmost]; rfl)) ?_
      walk_at "go"
      have sq5 : Same H2 H5 := (s3.trans s4).trans s5
      refine i_lenL (sl sq5) ?_
      walk_at "go"
      rw [List.length_map]
      refine i_itdC fun v hv => ?_
      obtain ⟨c, rfl, hc⟩ : ∃ c : Nat, v = .int (c : Int) ∧ c ≤ 3 := by
        rcases hv with rfl | rfl
        · exact ⟨3, rfl, by decide⟩
        · exact ⟨1, rfl, by decide⟩
      refine i_I (.inl ⟨by omega, by omega⟩) ?_
      walk_at "go"
      have hmul : ns.length * c ≤ 189 := Nat.mul_le_mul hz hc
      refine i_itr (m := ns.length * c) (by rw [Int.natCast_mul]) (by omega) ?_
      refine for_rng (fun i σ' H' => ∃ y3 y6 y7 y8 y9 y10 vs' ts, σ' = [some (.ref p1), some (.int kind), some (.ref pf), y3, none, some (.int most), y6, y7, y8, y9, y10] ∧ Same H2 H' ∧ H' pf = some (.lst vs') ∧ ThL K H' vs' ts ∧ (∀ t ∈ ts, Sm t) ∧ ts.length = i) ?_ ?_ ?_
      · exact ⟨_, _, _, _, _, _, [], [], rfl, sq5, s5 _ _ (s4 _ _ h3), All2.nil, (fun t h => by cases h), rfl⟩
      · rintro i σ' H' hi ⟨y3, y6, y7, y8, y9, y10, vs', ts, rfl, sm, hf, hT, hS, hl⟩
        have hpos : 0 < ns.length := by
          rcases Nat.eq_zero_or_pos ns.length with e | e
          · rw [e, Nat.zero_mul] at hi; omega
          · exact e
        walk_at "go"
        refine i_lenL (sl sm) ?_
        rw [List.length_map]
        refine i_I (by omega) ?_
        have hix : ((i : Int) % (ns.length : Int)) = ((i % ns.length : Nat) : Int) := by omega
        obtain ⟨n0, hn0⟩ : ∃ m, ns[i % ns.length]? = some m := ⟨_, List.getElem?_eq_getElem (Nat.mod_lt _ hpos)⟩
        refine i_ixL (sl sm) (v := .int n0) (by rw [hix]; exact atI_nat (by rw [List.getElem?_map, hn0]; rfl)) ?_
        walk_at "go"
        refine i_lenL (sl sm) ?_
        rw [List.length_map]
        refine i_I (⟨by omega, log_small (by rw [Int.natAbs_natCast]; exact Nat.lt_of_le_of_lt hz (by decide))⟩ : CDivW _ _) ?_
        refine i_I (.inl ⟨by decide, by decide⟩) ?_
        walk_at "go"
        generalize n0 + 977 * ((i : Int) / (ns.length : Int)) = cell
        refine i_I hm.1 ?_
        walk_at "go"
        refine i_I (⟨hm.1, hml⟩ : CDivW _ _) ?_
        walk_at "go"
        refine i_I hm.1 ?_
        walk_at "go"
        refine i_I (⟨hm.1, hml⟩ : CDivW _ _) ?_
        walk_at "go"
        refine i_I hm.1 ?_
        walk_at "go"
        have md : ∀ x : Int, 0 ≤ x % most ∧ x % most < 10 ^ 60 := fun x => ⟨Int.emod_nonneg _ (by omega), p60_20 (Int.emod_lt_of_pos _ hm.1) hm.2⟩
        have b1 := md cell
        have b2 := md (cell / most)
        have b3 := md (cell / most / most)
        generalize cell % most = one0 at b1
        generalize cell / most % most = dry0 at b2
        generalize cell / most / most % most = oth0 at b3
        generalize cell / most = rest0
        let W : L2.St → Hp → Prop := fun σ'' H'' => ∃ one dry oth : Int, σ'' = [some (.ref p1), some (.int kind), some (.ref pf), some (.int (i : Int)), none, some (.int most), some (.int cell), some (.int one), some (.int rest0), some (.int dry), some (.int oth)] ∧ Same H' H'' ∧ (0 ≤ one ∧ one < 10 ^ 60) ∧ (0 ≤ dry ∧ dry < 10 ^ 60) ∧ (0 ≤ oth ∧ oth < 10 ^ 60)
        refine i_mid W ?_ ?_
        · walk_at "go"
          refine i_itd (fun c2 => ?_) (fun c2 => ?_)
          · walk_at "go"
            refine i_I (by show (0 : Int) < 5; decide) ?_
            walk_at "go"
            refine ⟨_, _, 30, rfl, by omega, by decide, fun d1 H6 s6 d10 d11 => ?_⟩
            walk_at "go"
            refine i_I (.inl ⟨by omega, by omega⟩) ?_
            walk_at "go"
            refine i_I (⟨by decide, by decide⟩ : CDivW _ 9) ?_
            walk_at "go"
            refine i_I (.inr ⟨by decide, by decide⟩) ?_
            walk_at "go"
            refine i_I (by show (0 : Int) < 7; decide) ?_
            walk_at "go"
            refine i_tupk (xs := drys.map V.int) (by show 3 ≤ 100000; decide) fun pd H7 npd s7 h7 => ?_
            walk_at "go"
            refine ⟨_, 3, 3, rfl, by decide, by decide, fun r2 H8 s8 r20 r21 => ?_⟩
            have er2 : r2 = ((r2.toNat : Nat) : Int) := by omega
            obtain ⟨dm, hdm⟩ : ∃ m, drys[r2.toNat]? = some m := ⟨_, List.getElem?_eq_getElem (by show r2.toNat < 3; omega)⟩
            have hd : 0 < dm ∧ dm ≤ 200 := (by decide : ∀ x ∈ drys, 0 < x ∧ x ≤ 200) dm (List.mem_of_getElem? hdm)
            refine i_ixT (SqT.of (s8 _ _ h7)) (v := .int dm) (by rw [er2]; exact atI_nat (by rw [List.getElem?_map, hdm]; rfl)) ?_
            walk_at "go"
            refine ⟨_, _, dm, rfl, by omega, hd.1, fun d2 H9 s9 d20 d21 => ?_⟩
            walk_at "go"
            refine i_I (.inl ⟨by omega, by omega⟩) ?_
            walk_at "go"
            refine i_I (⟨by decide, by decide⟩ : CDivW _ 9) ?_
            walk_at "go"
            refine i_I (.inr ⟨by decide, by decide⟩) ?_
            walk_at "go"
            refine i_I (by show (0 : Int) < 3; decide) ?_
            walk_at "go"
            refine ⟨_, _, 30, rfl, by omega, by decide, fun d3 H10 s10 d30 d31 => ?_⟩
            walk_at "go"
            refine i_I (.inl ⟨by omega, by omega⟩) ?_
            walk_at "go"
            refine i_I (⟨by decide, by decide⟩ : CDivW _ 9) ?_
            walk_at "go"
            exact ⟨_, _, _, rfl, (((s6.trans s7).trans s8).trans s9).trans s10, dr_bound d10 (by omega) hm.1 hm.2, dr_bound d20 (by omega) hm.1 hm.2, dr_bound d30 (by omega) hm.1 hm.2⟩
          · walk_at "go"
            exact ⟨one0, dry0, oth0, rfl, Same.refl _, b1, b2, b3⟩
        · rintro σ2 H6 ⟨one, dry, oth, rfl, s6, c1, c2, c3'⟩
          refine i_mid W ?_ ?_
          · walk_at "go"
            refine i_itd (fun c2 => ?_) (fun c2 => ?_)
            · walk_at "go"
              exact ⟨one, 0, oth, rfl, s6, c1, ⟨by decide, by decide⟩, c3'⟩
            · walk_at "go"
              exact ⟨one, dry, oth, rfl, s6, c1, by assumption, c3'⟩
          · rintro σ3 H7 ⟨one, dry, oth, rfl, s7, c1, c2, c3'⟩
            refine i_mid W ?_ ?_
            · walk_at "go"
              refine i_itd (fun k4 => ?_) (fun k4 => ?_)
              · walk_at "go"
                refine i_itd (fun k5 => ?_) (fun k5 => ?_)
                · walk_at "go"
                  exact ⟨oth, dry, one, rfl, s7, c3', c2, c1⟩
                · walk_at "go"
                  exact ⟨one, dry, oth, rfl, s7, c1, c2, c3'⟩
              · walk_at "go"
                exact ⟨one, dry, oth, rfl, s7, c1, c2, c3'⟩
            · rintro σ4 H8 ⟨one, dry, oth, rfl, s8, c1, c2, c3'⟩
              have hf8 := s8 _ _ hf
              walk_at "go"
              refine ⟨ty_lst hf8, ?_⟩
              walk_at "go"
              refine i_tupk (by show 3 ≤ 100000; decide) fun p6 H9 np6 s9 h9 => ?_
              walk_at "go"
              refine i_app (s9 _ _ hf8) (by rw [hT.len, hl]; omega) ?_
              walk_at "go"
              refine ⟨_, _, _, _, _, _, vs' ++ [.ref p6], ts ++ [(one, dry, oth)], rfl, Same.mut ((sm.trans s8).trans s9) npf, upd_same, ThL.mono (sameT_lst (s9 _ _ hf8)) (All2.snoc (ThL.mono (smT (s8.trans s9)) hT) ⟨p6, rfl, SqT.of h9⟩), fun t ht => ?_, by rw [List.length_append, hl]; rfl⟩
              rcases List.mem_append.mp ht with ht | ht
              · exact hS t ht
              · rw [List.mem_singleton.mp ht]
                exact ⟨⟨c1.1, c2.1, c3'.1⟩, c1.2, c2.2, c3'.2⟩
      · rintro σ' H' ⟨y3, y6, y7, y8, y9, y10, vs', ts, rfl, sm, hf, hT, hS, hl⟩
        walk_at "go"
        exact q H' pf vs' ts ((s1.trans s2).trans sm) nf hf hT hS (by omega)
end
abbrev s__law_kinds : Stmt := topS 38
abbrev n__law_kinds : List Str := ["_law_error", "_law_found"]
theorem sc__law_kinds : FnScope n__law_kinds ["_law_error"] (defScope s__law_kinds) := ⟨rfl, rfl, rfl, by decide +kernel, rfl, by decide +kernel, by decide +kernel⟩
abbrev s__law_with_things : Stmt := topS 39
abbrev n__law_with_things : List Str := ["_law_door", "_law_things_here"]
theorem sc__law_with_things : FnScope n__law_with_things ["_law_door", "_law_things_here"] (defScope s__law_with_things) := ⟨rfl, rfl, rfl, by decide +kernel, rfl, by decide +kernel, by decide +kernel⟩
abbrev s__law_with_order : Stmt := topS 40
abbrev n__law_with_order : List Str := ["_law_things_here", "_law_order_here"]
theorem sc__law_with_order : FnScope n__law_with_order ["_law_things_here", "_law_order_here"] (defScope s__law_with_order) := ⟨rfl, rfl, rfl, by decide +kernel, rfl, by decide +kernel, by decide +kernel⟩
abbrev s__law_with_starts : Stmt := topS 41
abbrev n__law_with_starts : List Str := ["_law_things_here", "_law_order_here"]
theorem sc__law_with_starts : FnScope n__law_with_starts ["_law_things_here", "_law_order_here"] (defScope s__law_with_starts) := ⟨rfl, rfl, rfl, by decide +kernel, rfl, by decide +kernel, by decide +kernel⟩
abbrev s__law_told : Stmt := topS 42
abbrev n__law_told : List Str := ["_law_ask", "_law_one", "_law_other", "_law_error"]
theorem sc__law_told : FnScope n__law_told ["_law_ask", "_law_one", "_law_other"] (defScope s__law_told) := ⟨rfl, rfl, rfl, by decide +kernel, rfl, by decide +kernel, by decide +kernel⟩
/-- the errors' names -/
structure ErrN (mg : Str → Option Value) (cB cO cH cI cT : Addr) : Prop where
  gB : mg "BenchError" = some (.ref cB)
  gO : mg "BadOrder" = some (.ref cO)
  gH : mg "BadThings" = some (.ref cH)
  gI : mg "BadTime" = some (.ref cI)
  gT : mg "BadText" = some (.ref cT)
/-- what one of the errors is -/
structure ErrD (K : PySem.W.Frag) (cB cO cH cI cT D : Addr) (b1 b2 b3 : Bool) : Prop where
  exc : ExcC K D
  exm : PySem.W.exmOne K (.ref D) (.ref cB) = some true
  kH : PySem.W.kitOne K (.ref D) (.ref cH) = some b1
  kO : PySem.W.kitOne K (.ref D) (.ref cO) = some b2
  kI : PySem.W.kitOne K (.ref D) (.ref cI) = some b3
  kT : PySem.W.kitOne K (.ref D) (.ref cT) = some false
  kV : PySem.W.kitOne K (.ref D) (.type "ValueError") = some true
theorem pe_own {X : Cx} {x : Str} {C : Addr} {p : Pos} (hg : Gl X x) (hm : X.mg x = some (.ref C)) (hdb : (x == ("__debug__" : Str)) = false := by decide) : PE X (.Name x p) (tC (.ref C)) := pe_glob hg hm rfl hdb
structure GG (mg : Str → Option Value) (x : Str) (C : Addr) : Prop where
  g : mg x = some (.ref C)
/-- what is due -/
def due (b1 b2 b3 : Bool) : List V := [.bl b1, .bl b2, .bl b3, .bl false, .bl true]
def sp_kinds (K : PySem.W.Frag) (cB cO cH cI cT : Addr) : Addr → Value → Option Addr → Sp := fun a cls d vs H Q _ => ∃ (D : Addr) (b1 b2 b3 : Bool), vs = [.ref a] ∧ cls = .ref D ∧ d = none ∧ ErrD K cB cO cH cI cT D b1 b2 b3 ∧
  ∀ H' r, Same H H' → H r = none → H' r = some (.lst (due b1 b2 b3)) → Q (.ref r) H'
/-- with_things: refused -/
def sp_lwt (K : PySem.W.Frag) (cH : Addr) : Sp := fun vs H _ E => ∃ (d : Nat) (u : V), vs = [.int (d : Int), u] ∧ d < 5 ∧ (ThB K H u false ∨ (d = 4 ∧ ∃ a ts, u = .ref a ∧ Things K H a ts ∧ (∀ t ∈ ts, Nn t) ∧ ts.length ≤ 1000 ∧ ¬ ∀ t ∈ ts, Small t)) ∧ ∀ H', Same H H' → E (.ref cH) none H'
/-- _law_told: what is raised, by its kinds -/
def sp_told (P : Program) (w : World) (K : PySem.W.Frag) (mg : Str → Option Value) (base : Heap) (cB cO cH cI cT : Addr) : Sp := fun vs H Q _ => ∃ (k : Nat) (y : Str) (sp : Sp) (f : Addr) (u v : V) (D : Addr) (b1 b2 b3 : Bool), vs = [.ref f, u, v] ∧ CalN P w K mg base k y sp ∧ mg y = some (.ref f) ∧ k ≤ 5 ∧
  ErrD K cB cO cH cI cT D b1 b2 b3 ∧ (∀ (Q' : VK) (E' : XK), (∀ H', Same H H' → E' (.ref D) none H') → sp [u, v] H Q' E') ∧ ∀ H' r, Same H H' → H r = none → H' r = some (.lst (due b1 b2 b3)) → Q (.ref r) H'
section
variable {P : Program} {ww : World} {K : PySem.W.Frag} {mg : Str → Option Value} {base : Heap} {cT cBenchError cO cH cI : Addr}
theorem ok__law_kinds (B : Blt mg) (X_E : ErrN mg cBenchError cO cH cI cT) (D : Def K mg "_law_kinds" s__law_kinds ["_law_error"]) : CalK P ww K mg base 1 "_law_kinds" (sp_kinds K cBenchError cO cH cI cT) := by
  have g_BadOrder := X_E.gO
  have g_BadThings := X_E.gH
  have g_BadTime := X_E.gI
  have g_BadText := X_E.gT
  refine D.calK sc__law_kinds (fun a cls d vs H Q E h => ?_) (fun f cdv A outer s H vs Q E p cls d zn hf hot hr h => ?_)
  · obtain ⟨ED, b1, b2, b3, rfl, _⟩ := h
    rfl
  · obtain ⟨ED, b1, b2, b3, rfl, rfl, rfl, X_D, q⟩ := h
    have hz := zn.zc
    refine ⟨_, pss_cons (ps_set (i := 1) sc__law_kinds.nd rfl (.inl rfl) (pe_lst (pa_cons (pe_callB (r := rIsX K p.1 (.ref ED) none) (bp_isP List.mem_cons_self hz hf) (by rfl) B.isinstance (by decide +kernel) (pa_cons (pv 0) (pa_cons (pe_own (by rfl) g_BadThings) pa_nil))) (pa_cons (pe_callB (r := rIsX K p.1 (.ref ED) none) (bp_isP List.mem_cons_self hz hf) (by rfl) B.isinstance (by decide +kernel) (pa_cons (pv 0) (pa_cons (pe_own (by rfl) g_BadOrder) pa_nil))) (pa_cons (pe_callB (r := rIsX K p.1 (.ref ED) none) (bp_isP List.mem_cons_self hz hf) (by rfl) B.isinstance (by decide +kernel) (pa_cons (pv 0) (pa_cons (pe_own (by rfl) g_BadTime) pa_nil))) pa_nil)))))
    (pss_one (ps_ret (pe_op op_cat (pv 1) (pe_lst (pa_cons (pe_callB (r := rIsX K p.1 (.ref ED) none) (bp_isP List.mem_cons_self hz hf) (by rfl) B.isinstance (by decide +kernel) (pa_cons (pv 0) (pa_cons (pe_own (by rfl) g_BadText) pa_nil))) (pa_cons (pe_callB (r := rIsX K p.1 (.ref ED) none) (bp_isP List.mem_cons_self hz hf) (by rfl) B.isinstance (by decide +kernel) (pa_cons (pv 0) (pa_cons (pe_bltn (v := .ty "ValueError") (u := .type "ValueError") (by rfl) B.ValueError (by decide +kernel) rfl) pa_nil))) pa_nil)))))), ?_⟩
    walk_at "go"
    refine i_isXC (d := none) X_D.exc X_D.kH ?_
    walk_at "go"
    refine i_isXC (d := none) X_D.exc X_D.kO ?_
    walk_at "go"
    refine i_isXC (d := none) X_D.exc X_D.kI ?_
    walk_at "go"
    refine i_lstk (by show 3 ≤ 100000; decide) fun p2 H2 n2 s2 h2 => ?_
    walk_at "go"
    refine i_isXC (d := none) X_D.exc X_D.kT ?_
    walk_at "go"
    refine i_isXT X_D.exc X_D.kV ?_
    walk_at "go"
    refine i_lstk (by show 2 ≤ 100000; decide) fun p3 H3 n3 s3 h3 => ?_
    refine i_cat (s3 _ _ h2) h3 (by show 3 + 2 ≤ 100000; decide) fun p4 H4 n4 s4 h4 => ?_
    exact q H4 p4 ((s2.trans s3).trans s4) ((s2.trans s3).free n4) h4
theorem ok__law_with_things (B : Blt mg) (c_done : CalN P ww K mg base 4 "done" (sp_door K cH cO)) (c_starts : CalN P ww K mg base 4 "starts" (sp_door K cH cO)) (c_soonest : CalN P ww K mg base 4 "soonest" (sp_soon K cH)) (c_within : CalN P ww K mg base 4 "within" (sp_withi K cH cI)) (c_written : CalN P ww K mg base 4 "written" (sp_writ K cH)) (D : Def K mg "_law_with_things" s__law_with_things ["_law_door", "_law_things_here"]) : CalN P ww K mg base 5 "_law_with_things" (sp_lwt K cH) := by
  refine D.calN sc__law_with_things (fun vs H Q E h => ?_) (fun f cdv A outer s H vs Q E hr h => ?_)
  · obtain ⟨d, u, rfl, _⟩ := h
    rfl
  · obtain ⟨d, u, rfl, hd, h, q⟩ := h
    have tk : L2N.Takes (cxOf (L2N.CX P ww) P ww K mg base n__law_with_things "_law_with_things" (defScope s__law_with_things) f cdv A outer s H E) (fun cls d _ H => E cls d H) := L2N.takes_of rfl rfl rfl rfl
    refine ⟨_, pss_cons (ps_if (pt_cmpR op_lt (pv 0) pe_int (nomark _))
      (pss_one (ps_ret (pe_ifExp (pt_cmpR op_eq (pv 0) pe_int (nomark _)) (pe_calN c_done hr (by decide) (by rfl) tk (pa_cons (pv 1) (pa_cons pe_non pa_nil))) (pe_ifExp (pt_cmpR op_eq (pv 0) pe_int (nomark _)) (pe_calN c_starts hr (by decide) (by rfl) tk (pa_cons (pv 1) (pa_cons pe_int pa_nil))) (pe_calN c_soonest hr (by decide) (by rfl) tk (pa_cons (pv 1) pa_nil))))))
      (pss_nil))
    (pss_one (ps_ret (pe_ifExp (pt_cmpR op_eq (pv 0) pe_int (nomark _)) (pe_calN c_within hr (by decide) (by rfl) tk (pa_cons (pv 1) (pa_cons pe_non pa_nil))) (pe_calN c_written hr (by decide) (by rfl) tk (pa_cons (pv 1) pa_nil))))), ?_⟩
    walk_at "go"
    have bad : d < 4 → ThB K H u false := fun lt => by
      rcases h with h | ⟨e, _⟩
      · exact h
      · omega
    refine i_itd (fun c3 => ?_) (fun c3 => ?_)
    · have hb := bad (by omega)
      walk_at "go"
      refine i_itd (fun c0 => ?_) (fun c0 => ?_)
      · walk_at "go"
        exact ⟨u, _, rfl, .inl ⟨hb, q⟩⟩
      · walk_at "go"
        refine i_itd (fun c1 => ?_) (fun c1 => ?_)
        · walk_at "go"
          exact ⟨u, _, rfl, .inl ⟨hb, q⟩⟩
        · walk_at "go"
          exact ⟨u, rfl, hb, q⟩
    · walk_at "go"
      refine i_itd (fun c4 => ?_) (fun c4 => ?_)
      · walk_at "go"
        exact ⟨u, _, rfl, .inl ⟨bad (by omega), q⟩⟩
      · walk_at "go"
        rcases h with h | ⟨_, a, ts, rfl, hT, hN, hl, hS⟩
        · exact ⟨u, rfl, .inl ⟨h, q⟩⟩
        · exact ⟨_, rfl, .inr ⟨a, ts, rfl, hT, hN, hl, fun _ => q, fun z => absurd z hS⟩⟩
theorem ok__law_with_order (B : Blt mg) (c_done : CalN P ww K mg base 4 "done" (sp_door K cH cO)) (D : Def K mg "_law_with_order" s__law_with_order ["_law_things_here", "_law_order_here"]) : CalN P ww K mg base 5 "_law_with_order" (sp_door K cH cO) := by
  refine D.calN sc__law_with_order (fun vs H Q E h => ?_) (fun f cdv A outer s H vs Q E hr h => ?_)
  · obtain ⟨u, v, rfl, _⟩ := h
    rfl
  · obtain ⟨u, v, rfl, h⟩ := h
    have tk : L2N.Takes (cxOf (L2N.CX P ww) P ww K mg base n__law_with_order "_law_with_order" (defScope s__law_with_order) f cdv A outer s H E) (fun cls d _ H => E cls d H) := L2N.takes_of rfl rfl rfl rfl
    refine ⟨_, pss_one (ps_ret (pe_calN c_done hr (by decide) (by rfl) tk (pa_cons (pv 0) (pa_cons (pv 1) pa_nil)))), ?_⟩
    walk_at "go"
    exact ⟨u, v, rfl, h⟩
theorem ok__law_with_starts (B : Blt mg) (c_starts : CalN P ww K mg base 4 "starts" (sp_door K cH cO)) (D : Def K mg "_law_with_starts" s__law_with_starts ["_law_things_here", "_law_order_here"]) : CalN P ww K mg base 5 "_law_with_starts" (sp_door K cH cO) := by
  refine D.calN sc__law_with_starts (fun vs H Q E h => ?_) (fun f cdv A outer s H vs Q E hr h => ?_)
  · obtain ⟨u, v, rfl, _⟩ := h
    rfl
  · obtain ⟨u, v, rfl, h⟩ := h
    have tk : L2N.Takes (cxOf (L2N.CX P ww) P ww K mg base n__law_with_starts "_law_with_starts" (defScope s__law_with_starts) f cdv A outer s H E) (fun cls d _ H => E cls d H) := L2N.takes_of rfl rfl rfl rfl
    refine ⟨_, pss_one (ps_ret (pe_calN c_starts hr (by decide) (by rfl) tk (pa_cons (pv 0) (pa_cons (pv 1) pa_nil)))), ?_⟩
    walk_at "go"
    exact ⟨u, v, rfl, h⟩
theorem ok__law_told (B : Blt mg) (X_E : ErrN mg cBenchError cO cH cI cT) (c__law_kinds : CalK P ww K mg base 1 "_law_kinds" (sp_kinds K cBenchError cO cH cI cT)) (D : Def K mg "_law_told" s__law_told ["_law_ask", "_law_one", "_law_other"]) : Cal P ww K mg base 6 "_law_told" (sp_told P ww K mg base cBenchError cO cH cI cT) := by
  have X_BenchError : GG mg "BenchError" cBenchError := ⟨X_E.gB⟩
  refine D.cal sc__law_told (fun vs H Q E h => ?_) (fun f cdv A outer s H vs Q E hr h => ?_)
  · obtain ⟨_, _, _, _, _, _, _, _, _, _, rfl, _⟩ := h
    rfl
  · obtain ⟨k, y, sp, fa, u, v, ED, b1, b2, b3, rfl, c, hy, hk, X_D, hsp, q⟩ := h
    refine ⟨_, pss_cons (L2N.ps_try_as (i := 3) (c := .ref cBenchError) rfl rfl sc__law_told.nd rfl rfl ⟨by rfl, by decide, .inl X_BenchError.g⟩ tkNone (fun W pn xe tk hp => pss_one (ps_expr (show PE _ _ (tCalL P ww K mg base _ _ _ _) from pe_calL (i := 0) hr rfl (by first | exact Or.inl rfl | exact Or.inr (Or.inl rfl) | exact Or.inr (Or.inr rfl)) tk (pa_cons (pv 1) (pa_cons (pv 2) pa_nil))))) (fun a oe cls d pn hz hf => pss_one (ps_ret (pe_calK c__law_kinds hr (by decide) hz hf (by rfl) (pa_cons (pv 3) pa_nil)))))
    (pss_one (ps_ret (pe_lst pa_nil))), ?_⟩
    walk_at "go"
    refine ⟨k, y, sp, fa, c, hy, hk, rfl, ?_⟩
    walk_at "go"
    refine hsp _ _ fun H1 s1 => ?_
    refine ⟨true, X_D.exm, fun _ a na => ?_, fun z => nomatch z⟩
    walk_at "go"
    refine i_calK ?_
    walk_at "go"
    refine ⟨ED, b1, b2, b3, rfl, rfl, rfl, X_D, fun H2 r s2 n2 h2 => ?_⟩
    exact q H2 r (s1.trans s2) (s1.free n2) h2
end
/-- what stays when only new objects come -/
def Stb (P : Hp → V → Prop) : Prop := ∀ H H' v, Same H H' → P H v → P H' v
/-- a reading that makes a value with P, beyond H0 -/
def LitE (H0 : Hp) (P : Hp → V → Prop) (te : TE) (σ : L2.St) : Prop := ∀ H Q, Same H0 H → (∀ v H', Same H H' → P H' v → Q v H') → te σ H Q
/-- .. n values with P -/
def LitS (H0 : Hp) (P : Hp → V → Prop) (n : Nat) (ts : TA) (σ : L2.St) : Prop := ∀ H QA, Same H0 H → (∀ vs H', Same H H' → vs.length = n → (∀ v ∈ vs, P H' v) → QA vs H') → ts σ H QA
/-- .. just these values -/
def LitV (vs : List V) (ts : TA) (σ : L2.St) : Prop := ∀ H QA, QA vs H → ts σ H QA
def LitC (v : V) (te : TE) (σ : L2.St) : Prop := ∀ H Q, Q v H → te σ H Q
/-- .. items, by their truths -/
def LitB (K : PySem.W.Frag) (H0 : Hp) (bs : List Bool) (ts : TA) (σ : L2.St) : Prop := ∀ H QA, Same H0 H → (∀ vs H', Same H H' → All2 (ItB K H') vs bs → QA vs H') → ts σ H QA
abbrev PItB (K : PySem.W.Frag) (b : Bool) : Hp → V → Prop := fun H v => ItB K H v b
/-- its object is known -/
def Kn (H : Hp) (v : V) : Prop := ∀ p, v = .ref p → ∃ o, H p = some o
abbrev PThB (K : PySem.W.Frag) : Hp → V → Prop := fun H v => ThB K H v false ∧ Kn H v
abbrev POrB (K : PySem.W.Frag) (n : Nat) : Hp → V → Prop := fun H v => OrB K H v n
abbrev PTmB (K : PySem.W.Frag) : Hp → V → Prop := fun H v => TmB K H v
/-- things with too great a length -/
def PGr (K : PySem.W.Frag) : Hp → V → Prop := fun H v => ∃ a ts, v = .ref a ∧ Things K H a ts ∧ (∀ t ∈ ts, Nn t) ∧ ts.length ≤ 1000 ∧ ¬ ∀ t ∈ ts, Small t
theorem all2_cons {α β : Type} {R : α → β → Prop} {x : α} {y : β} {xs : List α} {ys : List β} (r : R x y) (h : All2 R xs ys) : All2 R (x :: xs) (y :: ys) := All2.app (All2.snoc All2.nil r) h
section
variable {K : PySem.W.Frag} {H0 : Hp} {P : Hp → V → Prop} {te : TE} {ts : TA} {σ : L2.St} {n : Nat} {v : V} {vs : List V} {b c : Bool} {bs : List Bool}
theorem stb_I : Stb (PItB K b) := fun _ _ _ s h => h.same s
theorem stb_T : Stb (PThB K) := fun _ _ _ s h => ⟨h.1.same s, fun p e => let ⟨o, z⟩ := h.2 p e; ⟨o, s _ _ z⟩⟩
theorem kn_fl {H : Hp} (f : Fl v c) : Kn H v := fun p e => by
  subst e
  cases f
theorem kn_ref {H : Hp} {p : Addr} {o : HO} (h : H p = some o) : Kn H (.ref p) := fun q e => by
  injection e with e
  exact ⟨o, by rw [← e]; exact h⟩
theorem stb_O : Stb (POrB K n) := fun _ _ _ s h => h.same s
theorem stb_M : Stb (PTmB K) := fun _ _ _ s h => h.same s
theorem stb_G : Stb (PGr K) := fun _ _ _ s ⟨a, ts, e, h, r⟩ => ⟨a, ts, e, h.mono s, r⟩
theorem litS_nil : LitS H0 P 0 tNil σ := fun H QA _ h => h [] H (Same.refl _) rfl fun v hv => nomatch hv
theorem litS_cons (st : Stb P) (h : LitE H0 P te σ) (k : LitS H0 P n ts σ) : LitS H0 P (n + 1) (tCons te ts) σ := fun H QA s0 q => h H _ s0 fun v H1 s1 p1 => k H1 _ (s0.trans s1) fun vs H2 s2 e p2 => q (v :: vs) H2 (s1.trans s2) (congrArg (· + 1) e) fun x hx => by
  rcases List.mem_cons.mp hx with rfl | hx
  · exact st _ _ _ s2 p1
  · exact p2 x hx
theorem litV_nil : LitV [] tNil σ := fun H QA h => h
theorem litV_cons (h : LitC v te σ) (k : LitV vs ts σ) : LitV (v :: vs) (tCons te ts) σ := fun H QA q => h H _ (k H _ q)
theorem litC_c : LitC v (tC v) σ := fun H Q h => h
theorem litB_nil : LitB K H0 [] tNil σ := fun H QA _ h => h [] H (Same.refl _) All2.nil
theorem litB_cons (h : LitE H0 (PItB K b) te σ) (k : LitB K H0 bs ts σ) : LitB K H0 (b :: bs) (tCons te ts) σ := fun H QA s0 q => h H _ s0 fun v H1 s1 p1 => k H1 _ (s0.trans s1) fun vs H2 s2 a2 => q (v :: vs) H2 (s1.trans s2) (all2_cons (p1.same s2) a2)
theorem fl_tyB {H : Hp} (f : Fl v c) : ∃ T, TyB K H v T ∧ kitB T "tuple" = some false ∧ kitB T "list" = some false := by
  cases f with
  | int m => exact ⟨_, .int m, by decide +kernel, by decide +kernel⟩
  | bl b => exact ⟨_, .bl b, by decide +kernel, by decide +kernel⟩
  | non => exact ⟨_, .non, by decide +kernel, by decide +kernel⟩
  | str t => exact ⟨_, .str t, by decide +kernel, by decide +kernel⟩
/-- items -/
theorem litI_fl (h : LitC v te σ) (f : Fl v c) : LitE H0 (PItB K false) te σ := fun H Q _ q => h H _ (q v H (Same.refl _) (let ⟨T, t, k, _⟩ := fl_tyB f; .inl ⟨T, t, k, rfl⟩))
theorem litI_tup (h : LitV vs ts σ) (hz : vs.length ≤ 1000) (hf : ∀ x ∈ vs, ∃ c, Fl x c) (e : (decide (vs.length = 3) && vs.all okc) = b) : LitE H0 (PItB K b) (tTup ts) σ := fun H Q _ q => h H _ (i_tupk (Nat.le_trans hz (by decide)) fun p H1 np s1 h1 => q _ H1 s1 (.inr ⟨p, vs, rfl, SqT.of h1, hz, hf, e.symm⟩))
theorem litI_lst (h : LitV vs ts σ) (hz : vs.length ≤ 1000) : LitE H0 (PItB K false) (tLst ts) σ := fun H Q _ q => h H _ (i_lstk (Nat.le_trans hz (by decide)) fun p H1 np s1 h1 => q _ H1 s1 (.inl ⟨_, .lst (SqL.of h1), by decide +kernel, rfl⟩))
/-- values for things -/
theorem litT_fl (h : LitC v te σ) (f : Fl v c) : LitE H0 (PThB K) te σ := fun H Q _ q => h H _ (q v H (Same.refl _) ⟨(let ⟨T, t, _, k⟩ := fl_tyB f; .inl ⟨T, t, k, rfl⟩), kn_fl f⟩)
theorem litT_tup (h : LitB K H0 bs ts σ) (hz : bs.length ≤ 1000) : LitE H0 (PThB K) (tTup ts) σ := fun H Q s0 q => h H _ s0 fun vs H1 s1 a => i_tupk (by rw [a.len]; exact Nat.le_trans hz (by decide)) fun p H2 np s2 h2 => q _ H2 (s1.trans s2) ⟨.inl ⟨_, .tup (SqT.of h2), by decide +kernel, rfl⟩, kn_ref h2⟩
theorem litT_lst (h : LitB K H0 bs ts σ) (hz : bs.length ≤ 1000) (e : bs.all id = false) : LitE H0 (PThB K) (tLst ts) σ := fun H Q s0 q => h H _ s0 fun vs H1 s1 a => i_lstk (by rw [a.len]; exact Nat.le_trans hz (by decide)) fun p H2 np s2 h2 => q _ H2 (s1.trans s2) ⟨.inr ⟨p, vs, bs, rfl, SqL.of h2, (by rw [a.len]; exact hz), a.mono fun _ _ x => x.same s2, e.symm⟩, kn_ref h2⟩
theorem i_dnew {H : Hp} {Q : VK} (h : ∀ p H', H p = none → Same H H' → H' p = some (.dK []) → Q (.ref p) H') : tDNewK σ H Q := i_new h
theorem litT_dict : LitE H0 (PThB K) tDNewK σ := fun H Q s0 q => i_dnew fun p H1 np s1 h1 => q _ H1 s1 ⟨.inl ⟨_, .dK h1, by decide +kernel, rfl⟩, kn_ref h1⟩
/-- values for orders -/
theorem litO_fl (h : LitC v te σ) (f : Fl v c) : LitE H0 (POrB K n) te σ := fun H Q _ q => h H _ (q v H (Same.refl _) (let ⟨T, t, _, k⟩ := fl_tyB f; .inl ⟨T, t, k⟩))
theorem litO_dict : LitE H0 (POrB K n) tDNewK σ := fun H Q s0 q => i_dnew fun p H1 np s1 h1 => q _ H1 s1 (.inl ⟨_, .dK h1, by decide +kernel⟩)
/-- values for times -/
theorem litM_fl (h : LitC v te σ) (f : Fl v false) : LitE H0 (PTmB K) te σ := fun H Q _ q => h H _ (q v H (Same.refl _) (.inl f))
theorem litM_dict : LitE H0 (PTmB K) tDNewK σ := fun H Q s0 q => i_dnew fun p H1 np s1 h1 => q _ H1 s1 (.inr ⟨_, .dK h1, by decide +kernel⟩)
theorem litM_tup (h : LitV vs ts σ) (hz : vs.length ≤ 1000) : LitE H0 (PTmB K) (tTup ts) σ := fun H Q _ q => h H _ (i_tupk (Nat.le_trans hz (by decide)) fun p H1 np s1 h1 => q _ H1 s1 (.inr ⟨_, .tup (SqT.of h1), by decide +kernel⟩))
theorem litM_lst (h : LitV vs ts σ) (hz : vs.length ≤ 1000) : LitE H0 (PTmB K) (tLst ts) σ := fun H Q _ q => h H _ (i_lstk (Nat.le_trans hz (by decide)) fun p H1 np s1 h1 => q _ H1 s1 (.inr ⟨_, .lst (SqL.of h1), by decide +kernel⟩))
/-- a reading that is not stepped into -/
def tBox (t : TE) : TE := t
theorem pe_box {X : Cx} {e : Expr} {t : TE} (h : PE X e t) : PE X e (tBox t) := h
theorem i_box {t : TE} {H : Hp} {Q : VK} (h : t σ H Q) : tBox t σ H Q := h
/-- a list, a tuple of such values -/
theorem lit_list {H : Hp} {Q : VK} (h : LitS H P n ts σ) (hz : n ≤ 1000) (q : ∀ p vs H', H p = none → Same H H' → H' p = some (.lst vs) → vs.length = n → (∀ v ∈ vs, P H' v) → Q (.ref p) H') (st : Stb P) : tBox (tLst ts) σ H Q := h H _ (Same.refl _) fun vs H1 s1 e a => i_lstk (by rw [e]; exact Nat.le_trans hz (by decide)) fun p H2 np s2 h2 => q p vs H2 (s1.free np) (s1.trans s2) h2 e fun v hv => st _ _ _ s2 (a v hv)
theorem lit_tuple {H : Hp} {Q : VK} (h : LitS H P n ts σ) (hz : n ≤ 1000) (q : ∀ p vs H', H p = none → Same H H' → H' p = some (.tup vs) → vs.length = n → (∀ v ∈ vs, P H' v) → Q (.ref p) H') (st : Stb P) : tBox (tTup ts) σ H Q := h H _ (Same.refl _) fun vs H1 s1 e a => i_tupk (by rw [e]; exact Nat.le_trans hz (by decide)) fun p H2 np s2 h2 => q p vs H2 (s1.free np) (s1.trans s2) h2 e fun v hv => st _ _ _ s2 (a v hv)
end
/-- data: truths -/
def dB (bs : List Bool) : PyData := .list (bs.map PyData.bool)
theorem eqv_bool (x y : Bool) : PyData.eqv (.bool x) (.bool y) = decide (x = y) := by
  cases x <;> cases y <;> rfl
theorem eqv_dB (a b : List Bool) : PyData.eqv (dB a) (dB b) = decide (a = b) := by
  unfold dB
  rw [eqv_list, eqv_map _ eqv_bool]
theorem shaped_dB (bs : List Bool) : SeqAt.shaped (dB bs) = true := sok_shaped (n := 1) (sok_list fun x hx => by
  obtain ⟨n, _, rfl⟩ := List.mem_map.mp hx
  exact ⟨rfl, Nat.zero_le _⟩) (by decide)
theorem dp_due {K : PySem.W.Frag} {H : Hp} {p : Addr} {b1 b2 b3 : Bool} (h : H p = some (.lst (due b1 b2 b3))) : Dp K H (.ref p) (dB [b1, b2, b3, false, true]) :=
  .lst (SqL.of h) (.cons (.bl _) (.cons (.bl _) (.cons (.bl _) (.cons (.bl _) (.cons (.bl _) .nil)))))
/-- things with one put in, set in: no things -/
theorem thB_put {K : PySem.W.Frag} {H : Hp} {p : Addr} {vs : List V} {ts : List T3} {x : V} {i j : Nat} (hT : ThL K H vs ts) (hN : ∀ t ∈ ts, Nn t) (hl : ts.length ≤ 400) (hx : ItB K H x false) (hp : SqL K H p (vs.take i ++ [x] ++ vs.drop j)) : ThB K H (.ref p) false := by
  have a := all2_true hT hN
  refine .inr ⟨p, _, _, rfl, hp, ?_, All2.app (All2.snoc (a.take i) hx) (a.drop j), ?_⟩
  · have l := hT.len
    simp only [List.length_append, List.length_take, List.length_drop, List.length_singleton]
    omega
  · simp
theorem cut_last (xs : List V) : cutV xs none (some (-1)) = xs.take (xs.length - 1) := by
  unfold cutV
  rw [HT.sIx_none, List.drop_zero, Nat.sub_zero]
  have e : HT.sIx xs.length xs.length (some (-1)) = xs.length - 1 := by
    show (if (-1 : Int) < 0 then ((-1 : Int) + (xs.length : Int)).toNat else min (-1 : Int).toNat xs.length) = _
    rw [if_pos (by decide)]
    omega
  first
  | rw [e]
  | (congr 1)
theorem mem_rg {n : Nat} {m : Int} : m ∈ rg n ↔ 0 ≤ m ∧ m < n := by
  unfold rg zs
  rw [List.mem_map]
  constructor
  · rintro ⟨k, hk, rfl⟩
    have := List.mem_range.mp hk
    exact ⟨by omega, by omega⟩
  · rintro ⟨h1, h2⟩
    exact ⟨m.toNat, List.mem_range.mpr (by omega), by omega⟩
theorem rg_len (n : Nat) : (rg n).length = n := by unfold rg; rw [zs_len, List.length_range]
theorem rg_get {n i : Nat} (h : i < n) : (rg n)[i]? = some (i : Int) := by
  unfold rg zs
  rw [List.getElem?_map, List.getElem?_range h]
  rfl
/-- one too much -/
theorem np_out {ns : List Int} {n : Nat} {m : Int} (hm : m ∈ ns) (h : m < 0 ∨ (n : Int) ≤ m) : ¬ ns.Perm (rg n) := fun p => by
  have := mem_rg.mp (p.mem_iff.mp hm)
  omega
/-- one lacks -/
theorem np_lack {ns : List Int} {n : Nat} {m : Int} (h0 : 0 ≤ m) (h1 : m < n) (h : m ∉ ns) : ¬ ns.Perm (rg n) := fun p => h (p.mem_iff.mpr (mem_rg.mpr ⟨h0, h1⟩))
theorem rg_drop {n : Nat} {m : Int} (h : m ∈ (rg n).drop 1) : 1 ≤ m := by
  obtain ⟨i, hi, e⟩ := List.mem_iff_getElem.mp h
  rw [List.length_drop, rg_len] at hi
  have k : ((rg n).drop 1)[i]? = some m := by rw [List.getElem?_eq_getElem (by rw [List.length_drop, rg_len]; exact hi), e]
  rw [List.getElem?_drop, rg_get (by omega)] at k
  have := Option.some.inj k
  omega
theorem rg_take {n : Nat} {m : Int} (h : m ∈ (rg n).take (n - 1)) : m + 1 < n := by
  obtain ⟨i, hi, e⟩ := List.mem_iff_getElem.mp h
  rw [List.length_take, rg_len] at hi
  have k : ((rg n).take (n - 1))[i]? = some m := by rw [List.getElem?_eq_getElem (by rw [List.length_take, rg_len]; exact hi), e]
  rw [List.getElem?_take, if_pos (by omega), rg_get (by omega)] at k
  have := Option.some.inj k
  omega
/-- lists for orders -/
theorem orB_list {K : PySem.W.Frag} {H : Hp} {p : Addr} {xs : List V} {n : Nat} (hp : H p = some (.lst xs)) (hl : xs.length ≤ 1000) (hf : ∀ x ∈ xs, ∃ c, Fl x c) (h : xs.length ≠ n ∨ (∃ x ∈ xs, Fl x false) ∨ ∃ ns : List Int, xs = ns.map V.int ∧ ¬ ns.Perm (rg n)) : OrB K H (.ref p) n := .inr ⟨p, xs, rfl, SqL.of hp, hl, hf, h⟩
theorem fl_ints {ns : List Int} : ∀ x ∈ ns.map V.int, ∃ c, Fl x c := fun x hx => by
  obtain ⟨m, _, rfl⟩ := List.mem_map.mp hx
  exact ⟨_, .int m⟩
theorem fl_app {xs ys : List V} (h : ∀ x ∈ xs, ∃ c, Fl x c) (k : ∀ x ∈ ys, ∃ c, Fl x c) : ∀ x ∈ xs ++ ys, ∃ c, Fl x c := fun x hx => (List.mem_append.mp hx).elim (h x) (k x)
theorem fl_rep {n : Nat} : ∀ x ∈ List.replicate n V.non, ∃ c, Fl x c := fun x hx => ⟨false, by rw [(List.mem_replicate.mp hx).2]; exact .non⟩
theorem fl_one {v : V} {c : Bool} (h : Fl v c) : ∀ x ∈ [v], ∃ c, Fl x c := fun x hx => by
  rw [List.mem_singleton.mp hx]
  exact ⟨c, h⟩
theorem flA_nil : ∀ x ∈ ([] : List V), ∃ c, Fl x c := fun x h => nomatch h
theorem flA_cons {v : V} {c : Bool} {vs : List V} (h : Fl v c) (k : ∀ x ∈ vs, ∃ c, Fl x c) : ∀ x ∈ v :: vs, ∃ c, Fl x c := fun x hx => by
  rcases List.mem_cons.mp hx with rfl | hx
  · exact ⟨c, h⟩
  · exact k x hx
/-- a list that is changed -/
theorem sqL_upd {K : PySem.W.Frag} {H : Hp} {p a : Addr} {xs ys : List V} (ne : a ≠ p) (h : SqL K H a xs) : SqL K (upd H p (.lst ys)) a xs := by
  rcases h with (h | ⟨o, h⟩) | h
  · exact .inl (.inl ((upd_ne ne).trans h))
  · exact .inl (.inr ⟨o, (upd_ne ne).trans h⟩)
  · exact .inr h
theorem sqT_upd {K : PySem.W.Frag} {H : Hp} {p a : Addr} {xs us ys : List V} (hp : H p = some (.lst us)) (h : SqT K H a xs) : SqT K (upd H p (.lst ys)) a xs := by
  rcases h with (h | ⟨o, h⟩) | h
  · exact .inl (.inl ((upd_ne fun z => by rw [z, hp] at h; cases h).trans h))
  · exact .inl (.inr ⟨o, (upd_ne fun z => by rw [z, hp] at h; cases h).trans h⟩)
  · exact .inr h
theorem tyB_upd {K : PySem.W.Frag} {H : Hp} {p : Addr} {us ys : List V} {v : V} {T : String} (hp : H p = some (.lst us)) (h : TyB K H v T) : TyB K (upd H p (.lst ys)) v T := by
  cases h with
  | non => exact .non
  | bl b => exact .bl b
  | int m => exact .int m
  | str t => exact .str t
  | byt b => exact .byt b
  | @lst a xs h =>
    by_cases e : a = p
    · subst e
      exact .lst (SqL.of upd_same)
    · exact .lst (sqL_upd e h)
  | tup h => exact .tup (sqT_upd hp h)
  | dK h => exact .dK ((upd_ne fun z => by rw [z, hp] at h; cases h).trans h)
theorem itB_upd {K : PySem.W.Frag} {H : Hp} {p : Addr} {us ys : List V} {v : V} {b : Bool} (hp : H p = some (.lst us)) (h : ItB K H v b) : ItB K (upd H p (.lst ys)) v b := by
  rcases h with ⟨T, h1, h2⟩ | ⟨a, xs, h1, h2, h3⟩
  · exact .inl ⟨T, tyB_upd hp h1, h2⟩
  · exact .inr ⟨a, xs, h1, sqT_upd hp h2, h3⟩
theorem thB_upd {K : PySem.W.Frag} {H : Hp} {p : Addr} {us ys : List V} {v : V} {b : Bool} (hp : H p = some (.lst us)) (ne : v ≠ .ref p) (h : ThB K H v b) : ThB K (upd H p (.lst ys)) v b := by
  rcases h with ⟨T, h1, h2⟩ | ⟨a, xs, bs, rfl, h2, h3, h4, h5⟩
  · exact .inl ⟨T, tyB_upd hp h1, h2⟩
  · exact .inr ⟨a, xs, bs, rfl, sqL_upd (fun z => ne (by rw [z])) h2, h3, h4.mono fun _ _ x => itB_upd hp x, h5⟩
theorem i_pick {K : PySem.W.Frag} {H : Hp} {Q : VK} {p : Addr} {xs : List V} {r : Int} (hp : SqT K H p xs) (r0 : 0 ≤ r) (r1 : r < xs.length) (h : ∀ x ∈ xs, Q x H) : rIxT K (.ref p) (.int r) H Q := by
  obtain ⟨j, rfl⟩ : ∃ j : Nat, r = (j : Int) := ⟨r.toNat, by omega⟩
  have e := List.getElem?_eq_getElem (show j < xs.length by omega)
  exact i_ixT hp (atI_nat e) (h _ (List.mem_of_getElem? e))
/-- a reading that makes a list of just these -/
def LitL (H0 : Hp) (xs : List V) (te : TE) (σ : L2.St) : Prop := ∀ H Q, Same H0 H → (∀ p H', Same H H' → H' p = some (.lst xs) → Q (.ref p) H') → te σ H Q
section
variable {K : PySem.W.Frag} {H0 : Hp} {ta tb te : TE} {ts : TA} {σ : L2.St} {n i : Nat} {v : V} {xs ys vs : List V} {p : Addr} {c : Bool}
theorem litL_var (e : σ[i]? = some (some (.ref p))) (h : H0 p = some (.lst xs)) : LitL H0 xs (tVar i) σ := fun H Q s0 q => i_var e (q p H (Same.refl _) (s0 _ _ h))
theorem litL_lst (h : LitV vs ts σ) (hz : vs.length ≤ 1000) : LitL H0 vs (tLst ts) σ := fun H Q _ q => h H _ (i_lstk (Nat.le_trans hz (by decide)) fun p H1 np s1 h1 => q p H1 s1 h1)
theorem litL_cat (h : LitL H0 xs ta σ) (k : LitL H0 ys tb σ) (hz : xs.length + ys.length ≤ 1000) : LitL H0 (xs ++ ys) (tOp rCat ta tb) σ := fun H Q s0 q => h H _ s0 fun p H1 s1 h1 => k H1 _ (s0.trans s1) fun r H2 s2 h2 => i_cat (s2 _ _ h1) h2 (Nat.le_trans hz (by decide)) fun t H3 n3 s3 h3 => q t H3 ((s1.trans s2).trans s3) h3
theorem litL_tail (h : LitL H0 xs ta σ) : LitL H0 (xs.drop 1) (tSl (rSlL K) ta (tPart (tC (.int 1))) tNoPart) σ := fun H Q s0 q => h H _ s0 fun p H1 s1 h1 => i_part (i_c (i_int (i_noP (i_slL (SqL.of h1) fun t H2 n2 s2 h2 => q t H2 (s1.trans s2) (by rw [h2, show (1 : Int) = ((1 : Nat) : Int) from rfl, cut_from])))))
theorem litL_init (h : LitL H0 xs ta σ) (k : LitC (.int (-1)) tb σ) : LitL H0 (xs.take (xs.length - 1)) (tSl (rSlL K) ta tNoPart (tPart tb)) σ := fun H Q s0 q => h H _ s0 fun p H1 s1 h1 => i_noP (i_part (k H1 _ (i_int (i_slL (SqL.of h1) fun t H2 n2 s2 h2 => q t H2 (s1.trans s2) (by rw [h2, cut_last])))))
theorem litL_rep {m : Int} (h : LitV [v] ts σ) (k : LitC (.int m) tb σ) (e : m = (n : Int)) (hz : n ≤ 1000) : LitL H0 (List.replicate n v) (tOp rRep (tLst ts) tb) σ := by
  intro H Q s0 q
  refine i_op ?_
  refine litL_lst (H0 := H0) h (by show 1 ≤ 1000; decide) H _ s0 fun p H1 s1 h1 => ?_
  refine k H1 _ ?_
  exact i_rep h1 e (Nat.le_trans hz (by decide)) fun t H2 n2 s2 h2 => q t H2 (s1.trans s2) h2
theorem litL_ix {m : Int} (e : σ[i]? = some (some (.ref p))) (h : H0 p = some (.lst xs)) (g : atI xs m = some v) : LitL H0 [v] (tLst (tCons (tOp (rIxL K) (tVar i) (tC (.int m))) tNil)) σ := fun H Q s0 q => i_lstn (i_cons (i_op (i_var e (i_c (i_ixL (SqL.of (s0 _ _ h)) g (i_nil (i_lstk (by show 1 ≤ 100000; decide) fun p H1 np s1 h1 => q p H1 s1 h1)))))))
theorem litO_list (h : LitL H0 xs te σ) (hl : xs.length ≤ 1000) (hf : ∀ x ∈ xs, ∃ c, Fl x c) (k : xs.length ≠ n ∨ (∃ x ∈ xs, Fl x false) ∨ ∃ ns : List Int, xs = ns.map V.int ∧ ¬ ns.Perm (rg n)) : LitE H0 (POrB K n) te σ := fun H Q s0 q => h H _ s0 fun p H1 s1 h1 => q _ H1 s1 (orB_list h1 hl hf k)
theorem litO_tuple (e : σ[i]? = some (some (.ref p))) (h : H0 p = some (.lst xs)) : LitE H0 (POrB K n) (tThen (tVar i) (L2.kTup K)) σ := fun H Q s0 q => i_var e (.inl ⟨p, xs, rfl, SqL.of (s0 _ _ h), i_new fun t H1 n1 s1 h1 => q _ H1 s1 (.inl ⟨_, .tup (SqT.of h1), by decide +kernel⟩)⟩)
end
/-- things with one triple too great -/
theorem gr_one {K : PySem.W.Frag} {H : Hp} {p q : Addr} {x y z : Int} (hq : SqT K H q [.int x, .int y, .int z]) (hp : H p = some (.lst [.ref q])) (n : Nn (x, y, z)) (b : ¬ Small (x, y, z)) : PGr K H (.ref p) := ⟨p, [(x, y, z)], rfl, ⟨_, SqL.of hp, all2_cons ⟨q, rfl, hq⟩ All2.nil⟩, fun t ht => by rw [List.mem_singleton.mp ht]; exact n, by show 1 ≤ 1000; decide, fun h => b (h _ (List.mem_singleton.mpr rfl))⟩
theorem gr_two {K : PySem.W.Frag} {H : Hp} {p q r : Addr} {x y z u v w : Int} (hr : SqT K H r [.int u, .int v, .int w]) (hq : SqT K H q [.int x, .int y, .int z]) (hp : H p = some (.lst [.ref r, .ref q])) (m : Nn (u, v, w)) (n : Nn (x, y, z)) (b : ¬ Small (x, y, z)) : PGr K H (.ref p) := ⟨p, [(u, v, w), (x, y, z)], rfl, ⟨_, SqL.of hp, all2_cons ⟨r, rfl, hr⟩ (all2_cons ⟨q, rfl, hq⟩ All2.nil)⟩, fun t ht => by
  rcases List.mem_cons.mp ht with rfl | ht
  · exact m
  · rw [List.mem_singleton.mp ht]
    exact n, by show 2 ≤ 1000; decide, fun h => b (h _ (List.mem_cons_of_mem _ (List.mem_singleton.mpr rfl)))⟩
local macro_rules | `(tactic| walk_at "litv") => `(tactic| (intro H QA h; walk_at "go"; exact h))
local macro_rules | `(tactic| walk_at "flv") => `(tactic| first | exact .int _ | exact .bl _ | exact .non | exact .str _)
local macro_rules | `(tactic| walk_at "fla") => `(tactic| repeat first | exact flA_nil | refine flA_cons (.int _) ?_ | refine flA_cons (.bl _) ?_ | refine flA_cons .non ?_ | refine flA_cons (.str _) ?_)
local macro_rules | `(tactic| walk_at "lititem") => `(tactic| first
  | (with_reducible apply litI_tup
     · walk_at "litv"
     · exact Nat.le_of_ble_eq_true rfl
     · walk_at "fla"
     · first | rfl | (simp [okc]; try omega))
  | (with_reducible apply litI_lst
     · walk_at "litv"
     · exact Nat.le_of_ble_eq_true rfl)
  | (with_reducible apply litI_fl
     · walk_at "litv"
     · walk_at "flv"))
local macro_rules | `(tactic| walk_at "litb") => `(tactic| repeat' (first | with_reducible exact litB_nil | with_reducible apply litB_cons | walk_at "lititem"))
local macro_rules | `(tactic| walk_at "litth") => `(tactic| first
  | (with_reducible apply litT_lst
     · walk_at "litb"
     · exact Nat.le_of_ble_eq_true rfl
     · (simp [okc]; try omega))
  | (with_reducible apply litT_tup
     · walk_at "litb"
     · exact Nat.le_of_ble_eq_true rfl)
  | with_reducible exact litT_dict
  | (with_reducible apply litT_fl
     · walk_at "litv"
     · walk_at "flv"))
local macro_rules | `(tactic| walk_at "liths") => `(tactic| repeat' (first | with_reducible exact litS_nil | with_reducible apply litS_cons stb_T | walk_at "litth"))
local macro_rules | `(tactic| walk_at "litis") => `(tactic| repeat' (first | with_reducible exact litS_nil | with_reducible apply litS_cons stb_I | walk_at "lititem"))
abbrev s_law : Stmt := topS 43
abbrev n_law : List Str := ["_law_script", "_law_far", "_law_due", "_law_k", "_law_things_here", "_law_kept", "_law_many", "_law_bad", "_law_at", "_law_strange", "_law_door", "_law_order_here", "_law_wrong", "_law_ask", "_law_time", "_law_great", "_law_thing"]
theorem sc_law : FnScope n_law ["_law_script"] (defScope s_law) := ⟨rfl, rfl, rfl, by decide +kernel, rfl, by decide +kernel, by decide +kernel⟩
def sp_law (K : PySem.W.Frag) : Sp := fun vs H Q _ => ∃ (a : Addr) (ns : List Int), vs = [.ref a] ∧ SqL K H a (ns.map V.int) ∧ ns.length ≤ 63 ∧ ∀ H', Q (.bl true) H'
/-- what is due of the j-th kind -/
def dueJ (j : Nat) : List V := due (decide ((j : Int) = 0)) (decide ((j : Int) = 1)) (decide ((j : Int) = 2))
theorem rgS {m : Nat} (hm : m ≤ 189) : RgC 0 (m : Int) (1 + (m : Int) / 6) ((m + m / 6) / (1 + m / 6)) := by
  have k : ∀ m : Fin 190, Builtin.Range.small 0 (m.val : Int) (1 + (m.val : Int) / 6) = true ∧ Builtin.Range.rangeSize 0 (m.val : Int) (1 + (m.val : Int) / 6) = (((m.val + m.val / 6) / (1 + m.val / 6) : Nat) : Int) := by decide +kernel
  have z := k ⟨m, by omega⟩
  exact ⟨by omega, by omega, z.1, z.2⟩
/-- the last things that are written -/
def lastT : T3 := (0, (10 : Int) ^ (60 : Int).toNat - 1, 0)
theorem lastT_small : Small lastT := ⟨⟨by decide, by decide, by decide⟩, by decide, by decide, by decide⟩
theorem lastT_len : (wtx [lastT]).length ≤ 100000 := by decide +kernel
theorem lastT_eq : decide (S (wtx [lastT]) = Str.ofString "0/" ++ Txt.mul (Str.ofString "9") 60 ++ Str.ofString "/0") = true := by decide +kernel
section
variable {P : Program} {ww : World} {K : PySem.W.Frag} {mg : Str → Option Value} {base : Heap} {cT cBenchError cO cH cI : Addr}
theorem ok_law (B : Blt mg) (X_KH : ErrD K cBenchError cO cH cI cT cH true false false) (X_KO : ErrD K cBenchError cO cH cI cT cO false true false) (X_KI : ErrD K cBenchError cO cH cI cT cI false false true) (c__law_cell_at : Cal P ww K mg base 1 "_law_cell_at" (sp_cell K)) (c__law_things : Cal P ww K mg base 2 "_law_things" (sp_things K)) (c_within : CalN P ww K mg base 4 "within" (sp_withi K cH cI)) (c_written : CalN P ww K mg base 4 "written" (sp_writ K cH)) (c__law_with_things : CalN P ww K mg base 5 "_law_with_things" (sp_lwt K cH)) (c__law_with_order : CalN P ww K mg base 5 "_law_with_order" (sp_door K cH cO)) (c__law_with_starts : CalN P ww K mg base 5 "_law_with_starts" (sp_door K cH cO)) (c__law_told : Cal P ww K mg base 6 "_law_told" (sp_told P ww K mg base cBenchError cO cH cI cT)) {f : Addr} {fd : FuncData} (F : FnP K "law" s_law f fd) : FnOk P ww K mg base CX0 7 f fd ["_law_script"] (sp_law K) := by
  obtain ⟨fT, _, _, _, g__law_with_things, _⟩ := c__law_with_things.ex
  obtain ⟨fO, _, _, _, g__law_with_order, _⟩ := c__law_with_order.ex
  obtain ⟨fS, _, _, _, g__law_with_starts, _⟩ := c__law_with_starts.ex
  obtain ⟨fW, _, _, _, g_within, _⟩ := c_within.ex
  refine fn_law F sc_law (fun vs H Q E h => ?_) (fun cdv A outer s H vs Q E hr h => ?_)
  · obtain ⟨a, ns, rfl, _⟩ := h
    rfl
  · obtain ⟨a, ns, rfl, hs, hz, q⟩ := h
    refine ⟨_, pss_cons (ps_set (i := 1) sc_law.nd rfl (.inl rfl) (pe_op op_mod (pe_cal c__law_cell_at hr (by decide) (by rfl) (pa_cons (pv 0) (pa_cons pe_int pa_nil))) (pe_op op_pow pe_int pe_int)))
    (pss_cons (ps_set (i := 2) sc_law.nd rfl (.inr rfl) (pe_lst pa_nil))
    (pss_cons (ps_for PassesOwn.never rfl (pi_range1 (by rfl) B.range (pa_cons pe_int pa_nil)) (pg_name (i := 3) sc_law.nd rfl (.inl rfl))
      (pss_one (ps_expr (pe_bm PySem.F.plainAttrs_list PySem.F.slot_list_append PySem.F.type_list_append mt_append (pv 2) (pa_cons (pe_box (pe_lst (pa_cons (pe_cmpR op_eq (pv 3) pe_int (nomark _)) (pa_cons (pe_cmpR op_eq (pv 3) pe_int (nomark _)) (pa_cons (pe_cmpR op_eq (pv 3) pe_int (nomark _)) (pa_cons pe_bl (pa_cons pe_bl pa_nil))))))) pa_nil)))))
    (pss_cons (ps_set (i := 4) sc_law.nd rfl (.inr rfl) (pe_cal c__law_things hr (by decide) (by rfl) (pa_cons (pv 0) pa_nil)))
    (pss_cons (ps_par (i := 5) (j := 6) rfl sc_law.nd rfl rfl (by decide) rfl rfl (pa_cons (pe_callTy (r := rListB K) cb_list (by rfl) B.list (by decide +kernel) (pa_cons (pv 4) pa_nil)) (pa_cons (pe_callB (r := rLenB K) cb_len (by rfl) B.len (by decide +kernel) (pa_cons (pv 4) pa_nil)) pa_nil)) (by rfl))
    (pss_cons (ps_set (i := 7) sc_law.nd rfl (.inl rfl) (pe_box (pe_lst (pa_cons pe_non (pa_cons (pe_tup pa_nil) (pa_cons (pe_tup (pa_cons (pe_tup (pa_cons pe_int (pa_cons pe_int (pa_cons pe_int pa_nil)))) pa_nil)) (pa_cons pe_str (pa_cons pe_dnewK (pa_cons pe_int (pa_cons (pe_lst (pa_cons pe_non pa_nil)) (pa_cons (pe_lst (pa_cons pe_int pa_nil)) (pa_cons (pe_lst (pa_cons (pe_tup (pa_cons pe_int (pa_cons pe_int pa_nil))) pa_nil)) (pa_cons (pe_lst (pa_cons (pe_tup (pa_cons pe_int (pa_cons pe_int (pa_cons pe_int (pa_cons pe_int pa_nil))))) pa_nil)) (pa_cons (pe_lst (pa_cons (pe_lst (pa_cons pe_int (pa_cons pe_int (pa_cons pe_int pa_nil)))) pa_nil)) (pa_cons (pe_lst (pa_cons (pe_tup (pa_cons (pe_un un_neg pe_int) (pa_cons pe_int (pa_cons pe_int pa_nil)))) pa_nil)) pa_nil)))))))))))))))
    (pss_cons (ps_set (i := 7) sc_law.nd rfl (.inl rfl) (pe_op op_cat (pv 7) (pe_box (pe_lst (pa_cons (pe_lst (pa_cons (pe_tup (pa_cons pe_int (pa_cons (pe_op op_sub (pe_un un_neg pe_int) (pv 1)) (pa_cons pe_int pa_nil)))) pa_nil)) (pa_cons (pe_lst (pa_cons (pe_tup (pa_cons pe_int (pa_cons pe_int (pa_cons (pe_un un_neg pe_int) pa_nil)))) pa_nil)) (pa_cons (pe_lst (pa_cons (pe_tup (pa_cons pe_bl (pa_cons pe_int (pa_cons pe_int pa_nil)))) pa_nil)) (pa_cons (pe_lst (pa_cons (pe_tup (pa_cons pe_int (pa_cons pe_bl (pa_cons pe_int pa_nil)))) pa_nil)) (pa_cons (pe_lst (pa_cons (pe_tup (pa_cons pe_int (pa_cons pe_int (pa_cons pe_bl pa_nil)))) pa_nil)) (pa_cons (pe_lst (pa_cons (pe_tup (pa_cons pe_str (pa_cons pe_int (pa_cons pe_int pa_nil)))) pa_nil)) pa_nil))))))))))
    (pss_cons (ps_set (i := 7) sc_law.nd rfl (.inl rfl) (pe_op op_cat (pv 7) (pe_box (pe_lst (pa_cons (pe_lst (pa_cons (pe_tup (pa_cons pe_int (pa_cons pe_non (pa_cons pe_int pa_nil)))) pa_nil)) (pa_cons (pe_lst (pa_cons (pe_tup (pa_cons pe_int (pa_cons pe_int (pa_cons pe_str pa_nil)))) pa_nil)) (pa_cons (pe_lst (pa_cons (pe_tup (pa_cons pe_int (pa_cons pe_int (pa_cons pe_int pa_nil)))) (pa_cons (pe_tup (pa_cons pe_int (pa_cons pe_int (pa_cons (pe_op op_sub (pe_un un_neg pe_int) (pv 1)) pa_nil)))) pa_nil))) (pa_cons (pe_lst (pa_cons (pe_tup (pa_cons (pe_op op_sub (pe_un un_neg pe_int) (pv 1)) (pa_cons pe_int (pa_cons pe_int pa_nil)))) (pa_cons (pe_tup (pa_cons pe_int (pa_cons pe_int (pa_cons pe_int pa_nil)))) pa_nil))) pa_nil))))))))
    (pss_cons (ps_for PassesOwn.never rfl (pi_range3 (by rfl) B.range (pa_cons pe_int (pa_cons (pv 6) (pa_cons (pe_op op_add pe_int (pe_op op_fdivW (pv 6) pe_int)) pa_nil)))) (pg_name (i := 8) sc_law.nd rfl (.inl rfl))
      (pss_cons (ps_set (i := 9) sc_law.nd rfl (.inl rfl) (pe_ix (r := rIxT K) ix_tup (pe_box (pe_tup (pa_cons pe_non (pa_cons (pe_tup (pa_cons pe_int (pa_cons pe_int pa_nil))) (pa_cons (pe_tup (pa_cons pe_int (pa_cons pe_int (pa_cons (pe_op op_sub (pe_un un_neg pe_int) (pv 1)) pa_nil)))) (pa_cons (pe_lst (pa_cons pe_int (pa_cons pe_int (pa_cons pe_int pa_nil)))) (pa_cons (pe_tup (pa_cons pe_int (pa_cons pe_bl (pa_cons pe_int pa_nil)))) pa_nil))))))) (pe_op op_mod (pv 8) pe_int) (fun _ _ => rfl)))
        (pss_one (ps_expr (pe_bm PySem.F.plainAttrs_list PySem.F.slot_list_append PySem.F.type_list_append mt_append (pv 7) (pa_cons (pe_op op_cat (pe_op op_cat (pe_slice (r := rSlL K) sl_list (pv 4) po_none (po_some (pv 8))) (pe_lst (pa_cons (pv 9) pa_nil))) (pe_slice (r := rSlL K) sl_list (pv 4) (po_some (pe_op op_add (pv 8) pe_int)) po_none)) pa_nil))))))
    (pss_cons (ps_for PassesOwn.never rfl (pi_range1 (by rfl) B.range (pa_cons pe_int pa_nil)) (pg_name (i := 10) sc_law.nd rfl (.inr rfl))
      (pss_one (ps_if (pt_not (pt_val (pe_callB (r := rAll K) (cr_all rfl) (by rfl) B.all (by decide +kernel) (pa_cons (pe_lc (own := [("_law_thing", 16)]) rfl sc_law.nd (pi_list (pv 7)) (blkOk_by (N := n_law) (sc := defScope s_law) (by decide +kernel)) (fun _ _ _ _ _ => (pg_name (i := 16) sc_law.nd rfl (.inl rfl))) (fun _ _ _ _ _ => pts_nil) (fun _ _ _ _ _ => (pe_cmpR (r := rEqD K) (op_eqD hr.units) (pe_cal c__law_told hr (by decide) (by rfl) (pa_cons (pe_own (by rfl) g__law_with_things) (pa_cons (pv 10) (pa_cons (pv 16) pa_nil)))) (pe_ix (r := rIxL K) ix_list (pv 2) pe_int (fun _ _ => rfl)) (nomark _)))) pa_nil))))
          (pss_one (ps_ret pe_bl))
          (pss_nil))))
    (pss_cons (ps_set (i := 11) sc_law.nd rfl (.inl rfl) (pe_listRg rfl (by rfl) B.list (prg_1 (by rfl) B.range (pv 6))))
    (pss_cons (ps_set (i := 12) sc_law.nd rfl (.inl rfl) (pe_box (pe_lst (pa_cons pe_non (pa_cons (pe_tupleOf (by rfl) B.tuple (pv 11)) (pa_cons pe_str (pa_cons pe_dnewK (pa_cons pe_int (pa_cons (pe_op op_cat (pv 11) (pe_lst (pa_cons (pv 6) pa_nil))) (pa_cons (pe_op op_cat (pv 11) (pe_lst (pa_cons pe_int pa_nil))) (pa_cons (pe_op op_rep (pe_lst (pa_cons pe_non pa_nil)) (pe_op op_add (pv 6) pe_int)) (pa_cons (pe_op op_cat (pe_slice (r := rSlL K) sl_list (pv 11) (po_some pe_int) po_none) (pe_lst (pa_cons (pe_op op_add (pv 6) (pv 1)) pa_nil))) pa_nil))))))))))))
    (pss_mid (ps_if (pt_cmpR op_gt (pv 6) pe_int (nomark _))
      (pss_one (ps_set (i := 12) sc_law.nd rfl (.inl rfl) (pe_op op_cat (pv 12) (pe_box (pe_lst (pa_cons (pe_slice (r := rSlL K) sl_list (pv 11) (po_some pe_int) po_none) (pa_cons (pe_slice (r := rSlL K) sl_list (pv 11) po_none (po_some (pe_un un_neg pe_int))) (pa_cons (pe_op op_cat (pe_slice (r := rSlL K) sl_list (pv 11) (po_some pe_int) po_none) (pe_lst (pa_cons (pe_un un_neg pe_int) pa_nil))) (pa_cons (pe_op op_cat (pe_slice (r := rSlL K) sl_list (pv 11) po_none (po_some (pe_un un_neg pe_int))) (pe_lst (pa_cons pe_str pa_nil))) (pa_cons (pe_op op_cat (pe_slice (r := rSlL K) sl_list (pv 11) po_none (po_some (pe_un un_neg pe_int))) (pe_lst (pa_cons pe_non pa_nil))) pa_nil))))))))))
      (pss_nil))
    (pss_mid (ps_if (pt_cmpR op_gt (pv 6) pe_int (nomark _))
      (pss_one (ps_set (i := 12) sc_law.nd rfl (.inl rfl) (pe_op op_cat (pv 12) (pe_box (pe_lst (pa_cons (pe_lc (own := [("_law_at", 8)]) rfl sc_law.nd (pi_list (pv 11)) (blkOk_by (N := n_law) (sc := defScope s_law) (by decide +kernel)) (fun _ _ _ _ _ => (pg_name (i := 8) sc_law.nd rfl (.inl rfl))) (fun _ _ _ _ _ => pts_nil) (fun _ _ _ _ _ => (pe_ifExp (pt_cmpR op_eq (pv 8) pe_int (nomark _)) pe_bl (pv 8)))) (pa_cons (pe_op op_cat (pe_lst (pa_cons (pe_ix (r := rIxL K) ix_list (pv 11) pe_int (fun _ _ => rfl)) pa_nil)) (pe_slice (r := rSlL K) sl_list (pv 11) po_none (po_some (pe_un un_neg pe_int)))) (pa_cons (pe_op op_cat (pe_slice (r := rSlL K) sl_list (pv 11) (po_some pe_int) po_none) (pe_lst (pa_cons (pe_ix (r := rIxL K) ix_list (pv 11) pe_int (fun _ _ => rfl)) pa_nil))) pa_nil))))))))
      (pss_nil))
    (pss_cons (ps_for PassesOwn.never rfl (pi_tup (pe_tup (pa_cons (pe_own (by rfl) g__law_with_order) (pa_cons (pe_own (by rfl) g__law_with_starts) pa_nil)))) (pg_name (i := 13) sc_law.nd rfl (.inr rfl))
      (pss_one (ps_if (pt_not (pt_val (pe_callB (r := rAll K) (cr_all rfl) (by rfl) B.all (by decide +kernel) (pa_cons (pe_lc (own := [("_law_thing", 16)]) rfl sc_law.nd (pi_list (pv 12)) (blkOk_by (N := n_law) (sc := defScope s_law) (by decide +kernel)) (fun _ _ _ _ _ => (pg_name (i := 16) sc_law.nd rfl (.inl rfl))) (fun _ _ _ _ _ => pts_nil) (fun _ _ _ _ _ => (pe_cmpR (r := rEqD K) (op_eqD hr.units) (pe_cal c__law_told hr (by decide) (by rfl) (pa_cons (pv 13) (pa_cons (pv 4) (pa_cons (pv 16) pa_nil)))) (pe_ix (r := rIxL K) ix_list (pv 2) pe_int (fun _ _ => rfl)) (nomark _)))) pa_nil))))
          (pss_one (ps_ret pe_bl))
          (pss_nil))))
    (pss_cons (ps_for PassesOwn.never rfl (pi_tup (pe_box (pe_tup (pa_cons pe_non (pa_cons pe_str (pa_cons pe_bl (pa_cons (pe_lst (pa_cons pe_int pa_nil)) (pa_cons (pe_tup (pa_cons pe_int pa_nil)) (pa_cons pe_dnewK pa_nil))))))))) (pg_name (i := 14) sc_law.nd rfl (.inl rfl))
      (pss_one (ps_if (pt_cmpR (r := rNeD K) (op_neD hr.units) (pe_cal c__law_told hr (by decide) (by rfl) (pa_cons (pe_own (by rfl) g_within) (pa_cons (pv 4) (pa_cons (pv 14) pa_nil)))) (pe_ix (r := rIxL K) ix_list (pv 2) pe_int (fun _ _ => rfl)) (nomark _))
          (pss_one (ps_ret pe_bl))
          (pss_nil))))
    (pss_cons (ps_for PassesOwn.never rfl (pi_tup (pe_box (pe_tup (pa_cons (pe_lst (pa_cons (pe_tup (pa_cons (pe_op op_pow pe_int pe_int) (pa_cons pe_int (pa_cons pe_int pa_nil)))) pa_nil)) (pa_cons (pe_lst (pa_cons (pe_tup (pa_cons pe_int (pa_cons (pe_op op_add (pe_op op_pow pe_int pe_int) (pv 1)) (pa_cons pe_int pa_nil)))) pa_nil)) (pa_cons (pe_lst (pa_cons (pe_tup (pa_cons pe_int (pa_cons pe_int (pa_cons pe_int pa_nil)))) (pa_cons (pe_tup (pa_cons pe_int (pa_cons pe_int (pa_cons (pe_op op_pow pe_int pe_int) pa_nil)))) pa_nil))) pa_nil)))))) (pg_name (i := 15) sc_law.nd rfl (.inl rfl))
      (pss_one (ps_if (pt_cmpR (r := rNeD K) (op_neD hr.units) (pe_cal c__law_told hr (by decide) (by rfl) (pa_cons (pe_own (by rfl) g__law_with_things) (pa_cons pe_int (pa_cons (pv 15) pa_nil)))) (pe_ix (r := rIxL K) ix_list (pv 2) pe_int (fun _ _ => rfl)) (nomark _))
          (pss_one (ps_ret pe_bl))
          (pss_nil))))
    (pss_one (ps_ret (pe_and (pe_cmpR (r := rEqD K) (op_eqD hr.units) (pv 4) (pv 5) (nomark _)) (pe_one (pe_cmpR op_eq (pe_calN c_written hr (by decide) (by rfl) tkNone (pa_cons (pe_lst (pa_cons (pe_box (pe_tup (pa_cons pe_int (pa_cons (pe_op op_sub (pe_op op_pow pe_int pe_int) pe_int) (pa_cons pe_int pa_nil))))) pa_nil)) pa_nil)) (pe_op op_addS (pe_op op_addS pe_str (pe_op op_mulS pe_str pe_int)) pe_str) (nomark _)))))))))))))))))))))), ?_⟩
    walk_at "go"
    refine ⟨a, ns, 0, rfl, hs, ?_⟩
    walk_at "go"
    refine i_I (⟨by decide, by decide, by decide⟩ : CPow 10 6) ?_
    have pp : (0 : Int) < (10 : Int) ^ (6 : Int).toNat := by decide
    refine i_I pp ?_
    obtain ⟨far, hfar, far0⟩ : ∃ far : Int, ns.getD 0 0 % (10 : Int) ^ (6 : Int).toNat = far ∧ 0 ≤ far := ⟨_, rfl, Int.emod_nonneg _ (by omega)⟩
    rw [hfar]
    walk_at "go"
    refine i_lstk (Nat.zero_le _) fun pd H1 nd s1 h1 => ?_
    walk_at "go"
    refine i_itr (m := 3) rfl (by decide) ?_
    refine for_rng (fun i σ' H' => ∃ (y3 : Option V) (us : List V), σ' = [some (.ref a), some (.int far), some (.ref pd), y3, none, none, none, none, none, none, none, none, none, none, none, none, none] ∧ Same H H' ∧ H' pd = some (.lst us) ∧ us.length = i ∧ ∀ (j : Nat) (u : V), us[j]? = some u → ∃ r, u = .ref r ∧ r ≠ pd ∧ H' r = some (.lst (dueJ j))) ?_ ?_ ?_
    · exact ⟨_, [], rfl, s1, h1, rfl, fun j u e => by simp at e⟩
    · rintro i σ' H' hi ⟨y3, us, rfl, sm, hd, hl, hu⟩
      walk_at "go"
      refine ⟨ty_lst hd, ?_⟩
      walk_at "go"
      refine i_box ?_
      walk_at "go"
      refine i_lstk (by show 5 ≤ 100000; decide) fun r H2 nr s2 h2 => ?_
      walk_at "go"
      refine i_app (s2 _ _ hd) (by omega) ?_
      walk_at "go"
      have ne : r ≠ pd := fun z => by rw [z, hd] at nr; cases nr
      refine ⟨_, us ++ [.ref r], rfl, Same.mut (sm.trans s2) nd, upd_same, by rw [List.length_append, hl]; rfl, fun j u e => ?_⟩
      by_cases hj : j < us.length
      · rw [List.getElem?_append_left hj] at e
        obtain ⟨t, rfl, nt, ht⟩ := hu j u e
        refine ⟨t, rfl, nt, ?_⟩
        rw [upd_ne nt]
        exact s2 _ _ ht
      · have e2 : j = us.length := by
          have := (List.getElem?_eq_some_iff.mp e).1
          rw [List.length_append, List.length_singleton] at this
          omega
        subst e2
        rw [List.getElem?_append_right (Nat.le_refl _), Nat.sub_self] at e
        have e3 : V.ref r = u := by simpa using e
        subst e3
        refine ⟨r, rfl, ne, ?_⟩
        rw [upd_ne ne, h2, hl]
        rfl
    · rintro σ' H2 ⟨y3, us, rfl, s2, hd, hl, hu⟩
      match us, hl, hu with
      | [d0, d1, d2], _, hu =>
        obtain ⟨r0, rfl, _, h0⟩ := hu 0 _ rfl
        obtain ⟨r1, rfl, _, h1'⟩ := hu 1 _ rfl
        obtain ⟨r2, rfl, _, h2'⟩ := hu 2 _ rfl
        clear hu
        have h0 : H2 r0 = some (.lst (due true false false)) := h0
        have h1 : H2 r1 = some (.lst (due false true false)) := h1'
        have h2 : H2 r2 = some (.lst (due false false true)) := h2'
        clear h1' h2'
        walk_at "go"
        refine ⟨a, ns, rfl, s2.seq hs, hz, fun H3 pt vs ts s3 np3 hp3 hT3 hS hl => ?_⟩
        walk_at "go"
        refine i_listL (SqL.of hp3) fun pk H4 nk s4 h4 => ?_
        walk_at "go"
        refine i_lenL (SqL.of (s4 _ _ hp3)) ?_
        walk_at "go"
        refine lit_list (P := PThB K) (n := 12) (by walk_at "liths") (by decide) (fun pb1 b1 H5 nb1 s5 h5 l5 B5 => ?_) stb_T
        walk_at "go"
        refine lit_list (P := PThB K) (n := 6) (by walk_at "liths") (by decide) (fun pb2 b2 H6 nb2 s6 h6 l6 B6 => ?_) stb_T
        refine i_cat (s6 _ _ h5) h6 (by rw [l5, l6]; decide) fun pb3 H7 n7 s7 h7 => ?_
        walk_at "go"
        refine lit_list (P := PThB K) (n := 4) (by walk_at "liths") (by decide) (fun pb4 b4 H8 nb4 s8 h8 l8 B8 => ?_) stb_T
        refine i_cat (s8 _ _ h7) h8 (by rw [List.length_append, l5, l6, l8]; decide) fun pb H9 n9 s9 h9 => ?_
        have lb : (b1 ++ b2 ++ b4).length = 22 := by rw [List.length_append, List.length_append, l5, l6, l8]
        have BB8 : ∀ v ∈ b1 ++ b2 ++ b4, PThB K H8 v := fun v hv => by
          rcases List.mem_append.mp hv with hv | hv
          · rcases List.mem_append.mp hv with hv | hv
            · exact stb_T _ _ _ ((s6.trans s7).trans s8) (B5 v hv)
            · exact stb_T _ _ _ (s7.trans s8) (B6 v hv)
          · exact B8 v hv
        have BB : ∀ v ∈ b1 ++ b2 ++ b4, ThB K H9 v false ∧ v ≠ .ref pb := fun v hv => ⟨(BB8 v hv).1.same s9, fun z => by
          obtain ⟨o, ho⟩ := (BB8 v hv).2 pb z
          rw [n9] at ho
          cases ho⟩
        clear BB8 B5 B6 B8
        generalize b1 ++ b2 ++ b4 = bad at h9 lb BB
        walk_at "go"
        have em : vs.length = ts.length := hT3.len
        have ln : vs.length ≤ 189 := by omega
        refine i_I (⟨by decide, by decide⟩ : CDivW _ 6) ?_
        walk_at "go"
        refine i_itc (rgS ln) ?_
        have s39 : Same H4 H9 := ((s5.trans s6).trans s7).trans (s8.trans s9)
        have np9 : H4 pb = none := (((s5.trans s6).trans s7).trans s8).free n9
        have hp4 := s4 _ _ hp3
        have hT4 : ThL K H4 vs ts := ThL.mono (smT s4) hT3
        refine for_rangeC (fun i σ' H' => ∃ (y8 y9 : Option V) (us : List V), σ' = [some (.ref a), some (.int far), some (.ref pd), y3, some (.ref pt), some (.ref pk), some (.int (vs.length : Int)), some (.ref pb), y8, y9, none, none, none, none, none, none, none] ∧ Same H4 H' ∧ H' pb = some (.lst us) ∧ us.length = 22 + i ∧ ∀ v ∈ us, ThB K H' v false ∧ v ≠ .ref pb) ?_ ?_ ?_
        · exact ⟨_, _, bad, rfl, s39, h9, lb, BB⟩
        · rintro i σ' H' hi ⟨y8, y9, us, rfl, sm, hb, hl, hu⟩
          walk_at "go"
          refine lit_tuple (P := PItB K false) (n := 5) (by walk_at "litis") (by decide) (fun px xs H10 nx s10 h10 l10 X10 => ?_) stb_I
          walk_at "go"
          refine i_I (by show (0 : Int) < 5; decide) ?_
          refine i_pick (SqT.of h10) (Int.emod_nonneg _ (by decide)) (by rw [l10]; exact Int.emod_lt_of_pos _ (by decide)) fun x hx => ?_
          have hX : ItB K H10 x false := X10 x hx
          clear X10
          have ek : (0 : Int) + (i : Int) * (1 + (vs.length : Int) / 6) = ((i * (1 + vs.length / 6) : Nat) : Int) := by simp
          rw [ek]
          generalize i * (1 + vs.length / 6) = k
          walk_at "go"
          refine ⟨ty_lst (s10 _ _ hb), ?_⟩
          walk_at "go"
          refine i_slL (SqL.of ((sm.trans s10) _ _ hp4)) fun p11 H11 n11 s11 h11 => ?_
          rw [cut_to] at h11
          walk_at "go"
          refine i_lstk (by show 1 ≤ 100000; decide) fun p12 H12 n12 s12 h12 => ?_
          refine i_cat (s12 _ _ h11) h12 (by rw [List.length_take]; show _ + 1 ≤ _; omega) fun p13 H13 n13 s13 h13 => ?_
          walk_at "go"
          have s3d := ((sm.trans s10).trans s11).trans (s12.trans s13)
          refine i_slL (SqL.of (s3d _ _ hp4)) fun p14 H14 n14 s14 h14 => ?_
          rw [show (k : Int) + 1 = ((k + 1 : Nat) : Int) from rfl, cut_from] at h14
          refine i_cat (s14 _ _ h13) h14 (by rw [List.length_append, List.length_take, List.length_drop]; show _ + 1 + _ ≤ _; omega) fun p15 H15 n15 s15 h15 => ?_
          have sA : Same H' H15 := (((s10.trans s11).trans s12).trans s13).trans (s14.trans s15)
          have hb15 := sA _ _ hb
          have ne15 : p15 ≠ pb := fun z => by
            rw [z, ((((s10.trans s11).trans s12).trans s13).trans s14) _ _ hb] at n15
            cases n15
          walk_at "go"
          have hi2 : i < 300 := Nat.lt_of_lt_of_le hi (Nat.le_trans (Nat.div_le_self _ _) (by omega))
          refine i_app hb15 (by rw [hl]; omega) ?_
          walk_at "go"
          have th : ThB K H15 (.ref p15) false := thB_put (ThL.mono (smT (sm.trans sA)) hT4) (fun t ht => (hS t ht).1) (by omega) (hX.same ((((s11.trans s12).trans s13).trans s14).trans s15)) (SqL.of h15)
          refine ⟨_, _, us ++ [.ref p15], rfl, Same.mut (sm.trans sA) np9, upd_same, by rw [List.length_append, hl]; rfl, fun v hv => ?_⟩
          rcases List.mem_append.mp hv with hv | hv
          · exact ⟨thB_upd hb15 (hu v hv).2 ((hu v hv).1.same sA), (hu v hv).2⟩
          · rw [List.mem_singleton.mp hv]
            have ne : V.ref p15 ≠ .ref pb := fun z => ne15 (by injection z)
            exact ⟨thB_upd hb15 ne th, ne⟩
        · rintro σ' H10 ⟨y8, y9, us, rfl, sm, hb, hl, hu⟩
          have hul : us.length ≤ 1000 := by
            have := Nat.div_le_self (vs.length + vs.length / 6) (1 + vs.length / 6)
            omega
          have s210 : Same H2 H10 := (s3.trans s4).trans sm
          have hd10 := s210 _ _ hd
          have h0a := s210 _ _ h0
          have h1a := s210 _ _ h1
          have h2a := s210 _ _ h2
          have hpt := sm _ _ hp4
          have hpk := sm _ _ h4
          have hT := ThL.mono (smT sm) hT4
          clear s210 hd h0 h1 h2 hp4 hp3 h4 hT3 hT4 sm s39 np9 BB lb h5 h6 h7 h8 h9 s1 s2 s3 s4 s5 s6 s7 s8 s9 nd np3 nk nb1 nb2 n7 nb4 n9
          walk_at "go"
          refine i_itr (m := 5) rfl (by decide) ?_
          refine for_rng (fun i σ' H' => ∃ (y10 : Option V), σ' = [some (.ref a), some (.int far), some (.ref pd), y3, some (.ref pt), some (.ref pk), some (.int (vs.length : Int)), some (.ref pb), y8, y9, y10, none, none, none, none, none, none] ∧ Same H10 H') ?_ ?_ ?_
          · exact ⟨_, rfl, Same.refl _⟩
          · rintro door σ' H' hdoor ⟨y10, rfl, sm⟩
            walk_at "go"
            refine i_itl (SqL.of (sm _ _ hb)) ?_
            refine fun p0 np0 => lc_map (K := K) (R := fun _ y _ => y = .bl true) (fun _ h => h) sqn_l (fun H e => (sm.trans e).seq (SqL.of hb)) (by omega) np0 (fun i x H'' Qc Qn hx sm2 k => ?_) (fun ys H'' sm2 hy hl2 hr2 => ?_)
            · have hux := (hu x (List.mem_of_getElem? hx)).1.same (sm.trans sm2)
              walk_at "go"
              refine ⟨rfl, ?_⟩
              walk_at "go"
              refine ⟨5, _, _, fT, .int (door : Int), x, cH, true, false, false, rfl, c__law_with_things, g__law_with_things, by decide, X_KH, fun Q' E' h => ⟨door, x, rfl, hdoor, .inl hux, h⟩, fun H3 r s3 n3 h3 => ?_⟩
              walk_at "go"
              have sA := (sm.trans sm2).trans s3
              refine i_ixL (SqL.of (sA _ _ hd10)) (v := .ref r0) (atI_nat (j := 0) rfl) ?_
              refine i_eqD (dp_due h3) (dp_due (sA _ _ h0a)) (shaped_dB _) (shaped_dB _) ?_
              rw [eqv_dB, decide_eq_true rfl]
              exact k _ _ s3 rfl
            · have e := all_true hl2 hr2
              rw [e] at hy
              walk_at "go"
              refine i_allT hy ?_
              walk_at "go"
              exact ⟨_, rfl, sm.trans sm2⟩
          · rintro σ' H11 ⟨y10, rfl, s11⟩
            have hd11 := s11 _ _ hd10
            have h0b := s11 _ _ h0a
            have h1b := s11 _ _ h1a
            have h2b := s11 _ _ h2a
            have hpt1 := s11 _ _ hpt
            have hpk1 := s11 _ _ hpk
            have hT1 := ThL.mono (smT s11) hT
            clear hd10 h0a h1a h2a hpt hpk hT hb hu s11
            walk_at "go"
            refine i_rg (n := vs.length) rfl (by omega) fun po H12 no s12 ho => ?_
            walk_at "go"
            have hf : ∀ x ∈ (rg vs.length).map V.int, ∃ c, Fl x c := fl_ints
            have lg : ((rg vs.length).map V.int).length = vs.length := by rw [List.length_map, rg_len]
            refine lit_list (P := POrB K vs.length) (n := 9) ?_ (by decide) (fun pw w1 H13 nw s13 h13 l13 W13 => ?_) stb_O
            · refine litS_cons stb_O (litO_fl litC_c .non) ?_
              refine litS_cons stb_O (litO_tuple rfl ho) ?_
              refine litS_cons stb_O (litO_fl litC_c (.str _)) ?_
              refine litS_cons stb_O litO_dict ?_
              refine litS_cons stb_O (litO_fl litC_c (.int _)) ?_
              refine litS_cons stb_O (litO_list (litL_cat (litL_var rfl ho) (litL_lst (vs := [.int (vs.length : Int)]) (by walk_at "litv") (Nat.le_of_ble_eq_true rfl)) (by rw [lg]; show _ + 1 ≤ _; omega)) (by rw [List.length_append, lg]; show _ + 1 ≤ _; omega) (fl_app hf (fl_one (.int _))) (.inl (by rw [List.length_append, lg]; show _ + 1 ≠ _; omega))) ?_
              refine litS_cons stb_O (litO_list (litL_cat (litL_var rfl ho) (litL_lst (vs := [.int 0]) (by walk_at "litv") (Nat.le_of_ble_eq_true rfl)) (by rw [lg]; show _ + 1 ≤ _; omega)) (by rw [List.length_append, lg]; show _ + 1 ≤ _; omega) (fl_app hf (fl_one (.int _))) (.inl (by rw [List.length_append, lg]; show _ + 1 ≠ _; omega))) ?_
              refine litS_cons stb_O (litO_list (litL_rep (v := .non) (n := vs.length + 1) (by walk_at "litv") (m := (vs.length : Int) + 1) (by walk_at "litv") rfl (by omega)) (by rw [List.length_replicate]; omega) fl_rep (.inl (by rw [List.length_replicate]; omega))) ?_
              refine litS_cons stb_O (litO_list (litL_cat (litL_tail (litL_var rfl ho)) (litL_lst (vs := [.int ((vs.length : Int) + far)]) (by walk_at "litv") (Nat.le_of_ble_eq_true rfl)) (by rw [List.length_drop, lg]; show _ + 1 ≤ _; omega)) (by rw [List.length_append, List.length_drop, lg]; show _ + 1 ≤ _; omega) (fl_app (fun x hx => hf x (List.mem_of_mem_drop hx)) (fl_one (.int _))) (.inr (.inr ⟨(rg vs.length).drop 1 ++ [(vs.length : Int) + far], by simp, np_out (m := (vs.length : Int) + far) (by simp) (.inr (by omega))⟩))) ?_
              exact litS_nil
            walk_at "go"
            refine i_mid (fun σ' H' => ∃ (pw : Addr) (us : List V), σ' = [some (.ref a), some (.int far), some (.ref pd), y3, some (.ref pt), some (.ref pk), some (.int (vs.length : Int)), some (.ref pb), y8, y9, y10, some (.ref po), some (.ref pw), none, none, none, none] ∧ Same H12 H' ∧ H' pw = some (.lst us) ∧ us.length ≤ 20 ∧ ∀ u ∈ us, OrB K H' u vs.length) ?_ ?_
            · walk_at "go"
              refine i_itd (fun cp => ?_) (fun cp => ?_)
              · walk_at "go"
                refine lit_list (P := POrB K vs.length) (n := 5) ?_ (by decide) (fun pw2 w2 H14 nw2 s14 h14 l14 W14 => ?_) stb_O
                · have lt : (((rg vs.length).map V.int).drop 1).length = vs.length - 1 := by rw [List.length_drop, lg]
                  have li : (((rg vs.length).map V.int).take (((rg vs.length).map V.int).length - 1)).length = vs.length - 1 := by rw [List.length_take, lg]; omega
                  have ft : ∀ x ∈ ((rg vs.length).map V.int).drop 1, ∃ c, Fl x c := fun x hx => hf x (List.mem_of_mem_drop hx)
                  have fi : ∀ x ∈ ((rg vs.length).map V.int).take (((rg vs.length).map V.int).length - 1), ∃ c, Fl x c := fun x hx => hf x (List.mem_of_mem_take hx)
                  have ho13 := s13 _ _ ho
                  refine litS_cons stb_O (litO_list (litL_tail (litL_var rfl ho13)) (by omega) ft (.inl (by omega))) ?_
                  refine litS_cons stb_O (litO_list (litL_init (litL_var rfl ho13) (by walk_at "litv")) (by omega) fi (.inl (by omega))) ?_
                  refine litS_cons stb_O (litO_list (litL_cat (litL_tail (litL_var rfl ho13)) (litL_lst (vs := [.int (-1)]) (by walk_at "litv") (Nat.le_of_ble_eq_true rfl)) (by rw [lt]; show _ + 1 ≤ _; omega)) (by rw [List.length_append, lt]; show _ + 1 ≤ _; omega) (fl_app ft (fl_one (.int _))) (.inr (.inr ⟨(rg vs.length).drop 1 ++ [-1], by simp, np_out (m := -1) (by simp) (.inl (by decide))⟩))) ?_
                  refine litS_cons stb_O (litO_list (litL_cat (litL_init (litL_var rfl ho13) (by walk_at "litv")) (litL_lst (vs := [.str (Str.ofString "0")]) (by walk_at "litv") (Nat.le_of_ble_eq_true rfl)) (by rw [li]; show _ + 1 ≤ _; omega)) (by rw [List.length_append, li]; show _ + 1 ≤ _; omega) (fl_app fi (fl_one (.str _))) (.inr (.inl ⟨_, List.mem_append_right _ (List.mem_singleton.mpr rfl), .str _⟩))) ?_
                  refine litS_cons stb_O (litO_list (litL_cat (litL_init (litL_var rfl ho13) (by walk_at "litv")) (litL_lst (vs := [.non]) (by walk_at "litv") (Nat.le_of_ble_eq_true rfl)) (by rw [li]; show _ + 1 ≤ _; omega)) (by rw [List.length_append, li]; show _ + 1 ≤ _; omega) (fl_app fi (fl_one .non)) (.inr (.inl ⟨_, List.mem_append_right _ (List.mem_singleton.mpr rfl), .non⟩))) ?_
                  exact litS_nil
                refine i_cat (s14 _ _ h13) h14 (by rw [l13, l14]; decide) fun pw3 H15 n15 s15 h15 => ?_
                walk_at "go"
                refine ⟨pw3, _, rfl, (s13.trans s14).trans s15, h15, by rw [List.length_append, l13, l14]; decide, fun u hu => ?_⟩
                rcases List.mem_append.mp hu with hu | hu
                · exact (W13 u hu).same (s14.trans s15)
                · exact (W14 u hu).same s15
              · walk_at "go"
                exact ⟨pw, w1, rfl, s13, h13, by rw [l13]; decide, W13⟩
            · rintro σ' H14 ⟨pw2, us2, rfl, s14, h14, l14, W14⟩
              walk_at "go"
              refine i_mid (fun σ' H' => ∃ (pw : Addr) (us : List V), σ' = [some (.ref a), some (.int far), some (.ref pd), y3, some (.ref pt), some (.ref pk), some (.int (vs.length : Int)), some (.ref pb), y8, y9, y10, some (.ref po), some (.ref pw), none, none, none, none] ∧ Same H14 H' ∧ H' pw = some (.lst us) ∧ us.length ≤ 40 ∧ ∀ u ∈ us, OrB K H' u vs.length) ?_ ?_
              · walk_at "go"
                have ho14 := s14 _ _ ho
                refine i_itd (fun cp => ?_) (fun cp => ?_)
                · walk_at "go"
                  refine lit_list (P := POrB K vs.length) (n := 3) ?_ (by decide) (fun pw3 w3 H15 nw3 s15 h15 l15 W15 => ?_) stb_O
                  · have lt : (((rg vs.length).map V.int).drop 1).length = vs.length - 1 := by rw [List.length_drop, lg]
                    have li : (((rg vs.length).map V.int).take (((rg vs.length).map V.int).length - 1)).length = vs.length - 1 := by rw [List.length_take, lg]; omega
                    have ft : ∀ x ∈ ((rg vs.length).map V.int).drop 1, ∃ c, Fl x c := fun x hx => hf x (List.mem_of_mem_drop hx)
                    have fi : ∀ x ∈ ((rg vs.length).map V.int).take (((rg vs.length).map V.int).length - 1), ∃ c, Fl x c := fun x hx => hf x (List.mem_of_mem_take hx)
                    have at_ : ∀ j : Nat, j < vs.length → ((rg vs.length).map V.int)[j]? = some (.int (j : Int)) := fun j hj => by rw [List.getElem?_map, rg_get hj]; rfl
                    refine litS_cons stb_O ?_ ?_
                    · intro H16 Q16 s16 k16
                      walk_at "go"
                      refine i_itl (SqL.of (s16 _ _ ho14)) ?_
                      refine fun p0 np0 => lc_map (K := K) (R := fun i y _ => y = if i = 1 then V.bl true else .int (i : Int)) (fun _ h => h) sqn_l (fun H e => (s16.trans e).seq (SqL.of ho14)) (by rw [lg]; omega) np0 (fun i x H' Qc Qn hx sm2 k => ?_) (fun ys H'' sm2 hy hl2 hr2 => ?_)
                      · have hi : i < vs.length := by rw [← lg]; exact (List.getElem?_eq_some_iff.mp hx).1
                        rw [at_ i hi] at hx
                        cases hx
                        walk_at "go"
                        refine ⟨rfl, ?_⟩
                        walk_at "go"
                        refine i_itd (fun c => ?_) (fun c => ?_)
                        · walk_at "go"
                          exact k _ _ (Same.refl _) (by rw [if_pos (by omega)])
                        · walk_at "go"
                          exact k _ _ (Same.refl _) (by rw [if_neg (by omega)])
                      · rw [lg] at hl2
                        refine k16 _ _ sm2 (orB_list hy (by omega) (fun x hx => ?_) (.inr (.inl ⟨.bl true, ?_, .bl _⟩)))
                        · obtain ⟨i, hi, e⟩ := List.mem_iff_getElem.mp hx
                          have := hr2 i x (by rw [List.getElem?_eq_getElem hi, e])
                          rw [this]
                          split
                          · exact ⟨_, .bl _⟩
                          · exact ⟨_, .int _⟩
                        · have h1 : 1 < ys.length := by omega
                          have := hr2 1 ys[1] (List.getElem?_eq_getElem h1)
                          rw [if_pos rfl] at this
                          rw [← this]
                          exact List.getElem_mem h1
                    refine litS_cons stb_O (litO_list (litL_cat (litL_ix rfl ho14 (v := .int ((0 : Nat) : Int)) (atI_nat (j := 0) (at_ 0 (by omega)))) (litL_init (litL_var rfl ho14) (by walk_at "litv")) (by rw [li]; show 1 + _ ≤ _; omega)) (by rw [List.length_append, li]; show 1 + _ ≤ _; omega) (fl_app (fl_one (.int _)) fi) (.inr (.inr ⟨[((0 : Nat) : Int)] ++ (rg vs.length).take (vs.length - 1), by rw [lg]; simp, np_lack (m := (vs.length : Int) - 1) (by omega) (by omega) fun hm => ?_⟩))) ?_
                    · rcases List.mem_append.mp hm with hm | hm
                      · have := List.mem_singleton.mp hm
                        omega
                      · have := rg_take hm
                        omega
                    refine litS_cons stb_O (litO_list (litL_cat (litL_tail (litL_var rfl ho14)) (litL_ix rfl ho14 (v := .int ((1 : Nat) : Int)) (atI_nat (j := 1) (at_ 1 (by omega)))) (by rw [lt]; show _ + 1 ≤ _; omega)) (by rw [List.length_append, lt]; show _ + 1 ≤ _; omega) (fl_app ft (fl_one (.int _))) (.inr (.inr ⟨(rg vs.length).drop 1 ++ [((1 : Nat) : Int)], by simp, np_lack (m := 0) (by omega) (by omega) fun hm => ?_⟩))) ?_
                    · rcases List.mem_append.mp hm with hm | hm
                      · have := rg_drop hm
                        omega
                      · have := List.mem_singleton.mp hm
                        omega
                    exact litS_nil
                  refine i_cat (s15 _ _ h14) h15 (by rw [l15]; omega) fun pw4 H16 n16 s16 h16 => ?_
                  walk_at "go"
                  refine ⟨pw4, _, rfl, s15.trans s16, h16, by rw [List.length_append, l15]; omega, fun u hu => ?_⟩
                  rcases List.mem_append.mp hu with hu | hu
                  · exact (W14 u hu).same (s15.trans s16)
                  · exact (W15 u hu).same s16
                · walk_at "go"
                  exact ⟨pw2, us2, rfl, Same.refl _, h14, by omega, W14⟩
              · rintro σ' H15 ⟨pw3, us3, rfl, s15, h15, l15, W15⟩
                have sB : Same H11 H15 := (s12.trans s14).trans s15
                have hd := sB _ _ hd11
                have h0 := sB _ _ h0b
                have h1 := sB _ _ h1b
                have h2 := sB _ _ h2b
                have hpt := sB _ _ hpt1
                have hpk := sB _ _ hpk1
                have hT := ThL.mono (smT sB) hT1
                have hN : ∀ t ∈ ts, Nn t := fun t ht => (hS t ht).1
                clear sB hd11 h0b h1b h2b hpt1 hpk1 hT1 s15 s14 s13 s12 W14 W13 h14 h13 ho hf
                walk_at "go"
                refine i_tupk (by show 2 ≤ 100000; decide) fun pa H16 na s16 h16 => ?_
                refine i_itt (SqT.of h16) ?_
                refine for_tup (K := K) (a := pa) (xs := [.ref fO, .ref fS]) (fun i σ' H' => ∃ (y13 : Option V), σ' = [some (.ref a), some (.int far), some (.ref pd), y3, some (.ref pt), some (.ref pk), some (.int (vs.length : Int)), some (.ref pb), y8, y9, y10, some (.ref po), some (.ref pw3), y13, none, none, none] ∧ Same H16 H') ?_ ?_ ?_ ?_
                · exact ⟨_, rfl, Same.refl _⟩
                · rintro i σ' H' _ ⟨_, _, sm⟩
                  exact Same.t sm (SqT.of h16)
                · rintro i x σ' H' hx ⟨y13, rfl, sm'⟩
                  have one : ∃ y fa, x = .ref fa ∧ CalN P ww K mg base 5 y (sp_door K cH cO) ∧ mg y = some (.ref fa) := by
                    have hm := List.mem_of_getElem? hx
                    rcases List.mem_cons.mp hm with rfl | hm
                    · exact ⟨_, fO, rfl, c__law_with_order, g__law_with_order⟩
                    · rw [List.mem_singleton.mp hm]
                      exact ⟨_, fS, rfl, c__law_with_starts, g__law_with_starts⟩
                  obtain ⟨y, fa, rfl, hc, hg⟩ := one
                  have sm := s16.trans sm'
                  walk_at "go"
                  refine i_itl (SqL.of (sm _ _ h15)) ?_
                  refine fun p0 np0 => lc_map (K := K) (R := fun _ y _ => y = .bl true) (fun _ h => h) sqn_l (fun H e => (sm.trans e).seq (SqL.of h15)) (by omega) np0 (fun i x H'' Qc Qn hx sm2 k => ?_) (fun ys H'' sm2 hy hl2 hr2 => ?_)
                  · have s2 := sm.trans sm2
                    have hux := (W15 x (List.mem_of_getElem? hx)).same s2
                    walk_at "go"
                    refine ⟨rfl, ?_⟩
                    walk_at "go"
                    refine ⟨5, y, _, fa, .ref pt, x, cO, false, true, false, rfl, hc, hg, by decide, X_KO, fun Q' E' h => ⟨.ref pt, x, rfl, .inr ⟨pt, vs, rfl, thB_things ⟨vs, SqL.of (s2 _ _ hpt), ThL.mono (smT s2) hT⟩ hN (by omega), SqL.of (s2 _ _ hpt), by omega, hux, h⟩⟩, fun H3 r s3 n3 h3 => ?_⟩
                    walk_at "go"
                    have sA := s2.trans s3
                    refine i_ixL (SqL.of (sA _ _ hd)) (v := .ref r1) (atI_nat (j := 1) rfl) ?_
                    refine i_eqD (dp_due h3) (dp_due (sA _ _ h1)) (shaped_dB _) (shaped_dB _) ?_
                    rw [eqv_dB, decide_eq_true rfl]
                    exact k _ _ s3 rfl
                  · have e := all_true hl2 hr2
                    rw [e] at hy
                    walk_at "go"
                    refine i_allT hy ?_
                    walk_at "go"
                    exact ⟨_, rfl, sm'.trans sm2⟩
                · rintro σ' H17 ⟨y13, rfl, s17⟩
                  have s1517 := s16.trans s17
                  walk_at "go"
                  refine lit_tuple (P := PTmB K) (n := 6) ?_ (by decide) (fun px xs H18 nx s18 h18 l18 X18 => ?_) stb_M
                  · refine litS_cons stb_M (litM_fl litC_c .non) ?_
                    refine litS_cons stb_M (litM_fl litC_c (.str _)) ?_
                    refine litS_cons stb_M (litM_fl litC_c (.bl _)) ?_
                    refine litS_cons stb_M (litM_lst (vs := [.int 1]) (by walk_at "litv") (Nat.le_of_ble_eq_true rfl)) ?_
                    refine litS_cons stb_M (litM_tup (vs := [.int 1]) (by walk_at "litv") (Nat.le_of_ble_eq_true rfl)) ?_
                    refine litS_cons stb_M litM_dict ?_
                    exact litS_nil
                  refine i_itt (SqT.of h18) ?_
                  refine for_tup (K := K) (a := px) (xs := xs) (fun i σ' H' => ∃ (y14 : Option V), σ' = [some (.ref a), some (.int far), some (.ref pd), y3, some (.ref pt), some (.ref pk), some (.int (vs.length : Int)), some (.ref pb), y8, y9, y10, some (.ref po), some (.ref pw3), y13, y14, none, none] ∧ Same H18 H') ?_ ?_ ?_ ?_
                  · exact ⟨_, rfl, Same.refl _⟩
                  · rintro i σ' H' _ ⟨_, _, sm⟩
                    exact Same.t sm (SqT.of h18)
                  · rintro i x σ' H' hx ⟨y14, rfl, sm'⟩
                    have s2 := (s1517.trans s18).trans sm'
                    have hux := (X18 x (List.mem_of_getElem? hx)).same sm'
                    walk_at "go"
                    refine ⟨4, _, _, fW, .ref pt, x, cI, false, false, true, rfl, c_within, g_within, by decide, X_KI, fun Q' E' h => ⟨.ref pt, x, rfl, .inr ⟨thB_things ⟨vs, SqL.of (s2 _ _ hpt), ThL.mono (smT s2) hT⟩ hN (by omega), hux, h⟩⟩, fun H3 r s3 n3 h3 => ?_⟩
                    walk_at "go"
                    have sA := s2.trans s3
                    refine i_ixL (SqL.of (sA _ _ hd)) (v := .ref r2) (atI_nat (j := 2) rfl) ?_
                    refine i_neD (dp_due h3) (dp_due (sA _ _ h2)) (shaped_dB _) (shaped_dB _) ?_
                    rw [eqv_dB, decide_eq_true rfl]
                    walk_at "go"
                    exact ⟨_, rfl, sm'.trans s3⟩
                  · rintro σ' H19 ⟨y14, rfl, s19⟩
                    have s1519 := (s1517.trans s18).trans s19
                    walk_at "go"
                    refine lit_tuple (P := PGr K) (n := 3) ?_ (by decide) (fun px2 xs2 H20 nx2 s20 h20 l20 X20 => ?_) stb_G
                    · have cp : CPow 10 60 := ⟨by decide, by decide, by decide⟩
                      refine litS_cons stb_G ?_ ?_
                      · intro H Q s0 k
                        walk_at "go"
                        refine i_I cp ?_
                        walk_at "go"
                        refine i_tupk (by show 3 ≤ 100000; decide) fun g1 G1 ng1 t1 hg1 => ?_
                        walk_at "go"
                        refine i_lstk (by show 1 ≤ 100000; decide) fun g2 G2 ng2 t2 hg2 => ?_
                        exact k _ G2 (t1.trans t2) (gr_one (SqT.of (t2 _ _ hg1)) hg2 ⟨by decide, by decide, by decide⟩ fun h => absurd h.2.1 (by decide))
                      refine litS_cons stb_G ?_ ?_
                      · intro H Q s0 k
                        walk_at "go"
                        refine i_I cp ?_
                        walk_at "go"
                        refine i_tupk (by show 3 ≤ 100000; decide) fun g1 G1 ng1 t1 hg1 => ?_
                        walk_at "go"
                        refine i_lstk (by show 1 ≤ 100000; decide) fun g2 G2 ng2 t2 hg2 => ?_
                        exact k _ G2 (t1.trans t2) (gr_one (SqT.of (t2 _ _ hg1)) hg2 ⟨Int.le_refl 0, Int.add_nonneg (by decide) far0, Int.le_refl 0⟩ fun h => absurd h.2.2.1 (Int.not_lt.mpr (Int.le_add_of_nonneg_right far0)))
                      refine litS_cons stb_G ?_ ?_
                      · intro H Q s0 k
                        walk_at "go"
                        refine i_tupk (by show 3 ≤ 100000; decide) fun g0 G0 ng0 t0 hg0 => ?_
                        walk_at "go"
                        refine i_I cp ?_
                        walk_at "go"
                        refine i_tupk (by show 3 ≤ 100000; decide) fun g1 G1 ng1 t1 hg1 => ?_
                        walk_at "go"
                        refine i_lstk (by show 2 ≤ 100000; decide) fun g2 G2 ng2 t2 hg2 => ?_
                        exact k _ G2 ((t0.trans t1).trans t2) (gr_two (SqT.of ((t1.trans t2) _ _ hg0)) (SqT.of (t2 _ _ hg1)) hg2 ⟨by decide, by decide, by decide⟩ ⟨by decide, by decide, by decide⟩ fun h => absurd h.2.2.2 (by decide))
                      exact litS_nil
                    refine i_itt (SqT.of h20) ?_
                    refine for_tup (K := K) (a := px2) (xs := xs2) (fun i σ' H' => ∃ (y15 : Option V), σ' = [some (.ref a), some (.int far), some (.ref pd), y3, some (.ref pt), some (.ref pk), some (.int (vs.length : Int)), some (.ref pb), y8, y9, y10, some (.ref po), some (.ref pw3), y13, y14, y15, none] ∧ Same H20 H') ?_ ?_ ?_ ?_
                    · exact ⟨_, rfl, Same.refl _⟩
                    · rintro i σ' H' _ ⟨_, _, sm⟩
                      exact Same.t sm (SqT.of h20)
                    · rintro i x σ' H' hx ⟨y15, rfl, sm'⟩
                      have s2 := (s1519.trans s20).trans sm'
                      have hux := stb_G _ _ _ sm' (X20 x (List.mem_of_getElem? hx))
                      walk_at "go"
                      refine ⟨5, _, _, fT, .int ((4 : Nat) : Int), x, cH, true, false, false, rfl, c__law_with_things, g__law_with_things, by decide, X_KH, fun Q' E' h => ⟨4, x, rfl, by decide, .inr ⟨rfl, hux⟩, h⟩, fun H3 r s3 n3 h3 => ?_⟩
                      walk_at "go"
                      have sA := s2.trans s3
                      refine i_ixL (SqL.of (sA _ _ hd)) (v := .ref r0) (atI_nat (j := 0) rfl) ?_
                      refine i_neD (dp_due h3) (dp_due (sA _ _ h0)) (shaped_dB _) (shaped_dB _) ?_
                      rw [eqv_dB, decide_eq_true rfl]
                      walk_at "go"
                      exact ⟨_, rfl, sm'.trans s3⟩
                    · rintro σ' H21 ⟨y15, rfl, s21⟩
                      have s2 := (s1519.trans s20).trans s21
                      have hT2 := ThL.mono (smT s2) hT
                      walk_at "go"
                      refine i_eqD (d := dT ts) (e := dT ts) (dp_things ⟨vs, SqL.of (s2 _ _ hpt), hT2⟩) (dp_things ⟨vs, SqL.of (s2 _ _ hpk), hT2⟩) (shaped_dT _) (shaped_dT _) ?_
                      rw [eqv_dT, decide_eq_true rfl]
                      refine ⟨_, rfl, ?_⟩
                      walk_at "go"
                      refine i_box ?_
                      walk_at "go"
                      refine i_I (⟨by decide, by decide, by decide⟩ : CPow 10 60) ?_
                      walk_at "go"
                      refine i_tupk (by show 3 ≤ 100000; decide) fun g1 G1 ng1 t1 hg1 => ?_
                      walk_at "go"
                      refine i_lstk (by show 1 ≤ 100000; decide) fun g2 G2 ng2 t2 hg2 => ?_
                      walk_at "go"
                      refine ⟨_, rfl, .inr ⟨g2, [lastT], rfl, ⟨[.ref g1], SqL.of hg2, all2_cons ⟨g1, rfl, SqT.of (t2 _ _ hg1)⟩ All2.nil⟩, fun t ht => by rw [List.mem_singleton.mp ht]; exact lastT_small.1, by show 1 ≤ 1000; decide, fun h => absurd (fun t ht => by rw [List.mem_singleton.mp ht]; exact lastT_small) h, fun _ => ⟨lastT_len, fun H' s' => ?_⟩⟩⟩
                      walk_at "go"
                      refine ⟨_, 60, rfl, rfl, ⟨by decide, fun _ _ => by decide, fun _ _ => by decide⟩, ?_⟩
                      refine i_addS (by decide +kernel) ?_
                      walk_at "go"
                      refine i_addS (by decide +kernel) ?_
                      refine i_eqS ?_
                      rw [lastT_eq]
                      exact q _
end
def d_is_whole : He.DefD := ⟨("is_whole", none), "is_whole", "is_whole", defArgs s_is_whole, defBody s_is_whole, defScope s_is_whole, [], []⟩
def d_is_triple : He.DefD := ⟨("is_triple", none), "is_triple", "is_triple", defArgs s_is_triple, defBody s_is_triple, defScope s_is_triple, [], []⟩
def d_check_things : He.DefD := ⟨("check_things", none), "check_things", "check_things", defArgs s_check_things, defBody s_check_things, defScope s_check_things, [], []⟩
def d_is_order : He.DefD := ⟨("is_order", none), "is_order", "is_order", defArgs s_is_order, defBody s_is_order, defScope s_is_order, [], []⟩
def d_check_order : He.DefD := ⟨("check_order", none), "check_order", "check_order", defArgs s_check_order, defBody s_check_order, defScope s_check_order, [], []⟩
def d_done : He.DefD := ⟨("done", none), "done", "done", defArgs s_done, defBody s_done, defScope s_done, [], []⟩
def d_starts : He.DefD := ⟨("starts", none), "starts", "starts", defArgs s_starts, defBody s_starts, defScope s_starts, [], []⟩
def d_soonest : He.DefD := ⟨("soonest", none), "soonest", "soonest", defArgs s_soonest, defBody s_soonest, defScope s_soonest, [], []⟩
def d_within : He.DefD := ⟨("within", none), "within", "within", defArgs s_within, defBody s_within, defScope s_within, [], []⟩
def d_written : He.DefD := ⟨("written", none), "written", "written", defArgs s_written, defBody s_written, defScope s_written, [], []⟩
def d__law_cell_at : He.DefD := ⟨("_law_cell_at", none), "_law_cell_at", "_law_cell_at", defArgs s__law_cell_at, defBody s__law_cell_at, defScope s__law_cell_at, [], []⟩
def d__law_draw : He.DefD := ⟨("_law_draw", none), "_law_draw", "_law_draw", defArgs s__law_draw, defBody s__law_draw, defScope s__law_draw, [], []⟩
def d__law_things : He.DefD := ⟨("_law_things", none), "_law_things", "_law_things", defArgs s__law_things, defBody s__law_things, defScope s__law_things, [], []⟩
def d__law_kinds : He.DefD := ⟨("_law_kinds", none), "_law_kinds", "_law_kinds", defArgs s__law_kinds, defBody s__law_kinds, defScope s__law_kinds, [], []⟩
def d__law_with_things : He.DefD := ⟨("_law_with_things", none), "_law_with_things", "_law_with_things", defArgs s__law_with_things, defBody s__law_with_things, defScope s__law_with_things, [], []⟩
def d__law_with_order : He.DefD := ⟨("_law_with_order", none), "_law_with_order", "_law_with_order", defArgs s__law_with_order, defBody s__law_with_order, defScope s__law_with_order, [], []⟩
def d__law_with_starts : He.DefD := ⟨("_law_with_starts", none), "_law_with_starts", "_law_with_starts", defArgs s__law_with_starts, defBody s__law_with_starts, defScope s__law_with_starts, [], []⟩
def d__law_told : He.DefD := ⟨("_law_told", none), "_law_told", "_law_told", defArgs s__law_told, defBody s__law_told, defScope s__law_told, [], []⟩
def d_law : He.DefD := ⟨("law", none), "law", "law", defArgs s_law, defBody s_law, defScope s_law, [], []⟩
def fnL : List He.DefD := [d_is_whole, d_is_triple, d_check_things, d_is_order, d_check_order, d_done, d_starts, d_soonest, d_within, d_written, d__law_cell_at, d__law_draw, d__law_things, d__law_kinds, d__law_with_things, d__law_with_order, d__law_with_starts, d__law_told, d_law]
def faL : List He.Fa := [.glo "is_whole", .glo "is_triple", .glo "check_things", .glo "is_order", .glo "check_order", .glo "done", .glo "starts", .glo "soonest", .glo "within", .glo "written", .glo "_law_cell_at", .glo "_law_draw", .glo "_law_things", .glo "_law_kinds", .glo "_law_with_things", .glo "_law_with_order", .glo "_law_with_starts", .glo "_law_told", .glo "law", .free "isinstance", .free "int", .free "bool", .free "list", .free "tuple", .free "str", .free "len", .free "all", .free "any", .free "sum", .free "max", .free "sorted", .free "range", .free "enumerate", .free "zip", .free "set", .free "ValueError", .int "MOST" (10 ^ 60), .glo "BenchError", .glo "BadOrder", .glo "BadThings", .glo "BadTime", .glo "BadText", .exc "BadThings", .exm "BadThings" "BenchError" true, .exc "BadOrder", .exm "BadOrder" "BenchError" true, .exc "BadTime", .exm "BadTime" "BenchError" true]
abbrev excV (K : PySem.W.Frag) (D : Addr) : Bool := excB K D && decide (PySem.W.kitOne K (.ref D) (.type "ValueError") = some true)
abbrev exL : PySem.W.Frag → Bool := fun K => exB [] [("BadThings", "BadThings", true), ("BadThings", "BadOrder", false), ("BadThings", "BadTime", false), ("BadThings", "BadText", false), ("BadOrder", "BadThings", false), ("BadOrder", "BadOrder", true), ("BadOrder", "BadTime", false), ("BadOrder", "BadText", false), ("BadTime", "BadThings", false), ("BadTime", "BadOrder", false), ("BadTime", "BadTime", true), ("BadTime", "BadText", false)] K && (excV K (He.ga K "BadThings") && (excV K (He.ga K "BadOrder") && excV K (He.ga K "BadTime")))
abbrev Rw : PySem.W.OpenRow := PySem.W.OpenLaw.row PySem.Challenge.rw_benchpair_k06_refused
abbrev hkL : PySem.W.Hook := hookX 5 faL fnL exL
def obL (s : PySem.W.SharedT) : He.AlD × Bool := obsX 5 faL fnL exL (HandSHeadRun.getT s)
theorem obL_eq (s : PySem.W.SharedT) : obL s = hkL.obs s.abs := obsX_eq (HandSHeadRun.getT_eq s)
def looseL : List Str := (["BenchError", "BadThings", "BadOrder", "BadTime", "BadText", "is_whole", "is_triple", "check_things", "is_order", "check_order", "run", "done", "starts", "Answer", "is_apart", "worth_of"] : List Str) ++ (["Soonest", "Within", "Never", "best_order", "bar_of", "soonest", "within", "written", "_law_cell_at", "_law_draw", "_law_things", "_law_done", "_law_order", "_law_worth", "_law_whole", "_law_kinds"] : List Str) ++ (["_law_with_things", "_law_with_order", "_law_with_starts", "_law_told", "MOST"] : List Str)
theorem runL (w : World) : HandSHeadRun.RunEq Rw (PySem.W.view Rw.prog [43]) hkL obL 4000 looseL w := by
  intro os
  kernel_rfl
theorem factsL {P : Program} {w : World} {K : PySem.W.Frag} {h : Heap} {mg : Str → Option Value} {f : Addr} (X : K.In h) (G : h.Ns mainGlobals mg) (hfa : mg ("law" : Str) = some (.ref f)) (c : SaysX faL fnL exL K) :
    ∃ fd : FuncData, (∀ (s : Shared) (v : Value), BindsTo s fd ⟨[v], []⟩ [("_law_script", v)]) ∧ ∀ base : Heap, K.In base → base.Ns mainGlobals mg → FnOk P w K mg base CX0 7 f fd ["_law_script"] (sp_law K) := by
  obtain ⟨fd_is_whole, F_is_whole⟩ := c.1.def_ 0 (d := d_is_whole) rfl
  obtain ⟨fd_is_triple, F_is_triple⟩ := c.1.def_ 1 (d := d_is_triple) rfl
  obtain ⟨fd_check_things, F_check_things⟩ := c.1.def_ 2 (d := d_check_things) rfl
  obtain ⟨fd_is_order, F_is_order⟩ := c.1.def_ 3 (d := d_is_order) rfl
  obtain ⟨fd_check_order, F_check_order⟩ := c.1.def_ 4 (d := d_check_order) rfl
  obtain ⟨fd_done, F_done⟩ := c.1.def_ 5 (d := d_done) rfl
  obtain ⟨fd_starts, F_starts⟩ := c.1.def_ 6 (d := d_starts) rfl
  obtain ⟨fd_soonest, F_soonest⟩ := c.1.def_ 7 (d := d_soonest) rfl
  obtain ⟨fd_within, F_within⟩ := c.1.def_ 8 (d := d_within) rfl
  obtain ⟨fd_written, F_written⟩ := c.1.def_ 9 (d := d_written) rfl
  obtain ⟨fd__law_cell_at, F__law_cell_at⟩ := c.1.def_ 10 (d := d__law_cell_at) rfl
  obtain ⟨fd__law_draw, F__law_draw⟩ := c.1.def_ 11 (d := d__law_draw) rfl
  obtain ⟨fd__law_things, F__law_things⟩ := c.1.def_ 12 (d := d__law_things) rfl
  obtain ⟨fd__law_kinds, F__law_kinds⟩ := c.1.def_ 13 (d := d__law_kinds) rfl
  obtain ⟨fd__law_with_things, F__law_with_things⟩ := c.1.def_ 14 (d := d__law_with_things) rfl
  obtain ⟨fd__law_with_order, F__law_with_order⟩ := c.1.def_ 15 (d := d__law_with_order) rfl
  obtain ⟨fd__law_with_starts, F__law_with_starts⟩ := c.1.def_ 16 (d := d__law_with_starts) rfl
  obtain ⟨fd__law_told, F__law_told⟩ := c.1.def_ 17 (d := d__law_told) rfl
  obtain ⟨fd_law, F_law⟩ := c.1.def_ 18 (d := d_law) rfl
  have B : Blt mg := ⟨He.free_ok X G (c.1.fact 19 (f := .free "isinstance") rfl), He.free_ok X G (c.1.fact 20 (f := .free "int") rfl), He.free_ok X G (c.1.fact 21 (f := .free "bool") rfl), He.free_ok X G (c.1.fact 22 (f := .free "list") rfl), He.free_ok X G (c.1.fact 23 (f := .free "tuple") rfl), He.free_ok X G (c.1.fact 24 (f := .free "str") rfl), He.free_ok X G (c.1.fact 25 (f := .free "len") rfl), He.free_ok X G (c.1.fact 26 (f := .free "all") rfl), He.free_ok X G (c.1.fact 27 (f := .free "any") rfl), He.free_ok X G (c.1.fact 28 (f := .free "sum") rfl), He.free_ok X G (c.1.fact 29 (f := .free "max") rfl), He.free_ok X G (c.1.fact 30 (f := .free "sorted") rfl), He.free_ok X G (c.1.fact 31 (f := .free "range") rfl), He.free_ok X G (c.1.fact 32 (f := .free "enumerate") rfl), He.free_ok X G (c.1.fact 33 (f := .free "zip") rfl), He.free_ok X G (c.1.fact 34 (f := .free "set") rfl), He.free_ok X G (c.1.fact 35 (f := .free "ValueError") rfl)⟩
  have e := hfa.symm.trans (He.glo_ok X G (c.1.fact 18 (f := .glo "law") rfl))
  cases e
  have b := FunD.bindsA (ps := ["_law_script"]) F_law fun _ _ _ _ _ _ us hl => match us, hl with | [_], _ => rfl
  have X_MOST := He.int_ok X G (c.1.fact 36 (f := .int "MOST" (10 ^ 60)) rfl)
  have g_BenchError := He.glo_ok X G (c.1.fact 37 (f := .glo "BenchError") rfl)
  have g_BadOrder := He.glo_ok X G (c.1.fact 38 (f := .glo "BadOrder") rfl)
  have g_BadThings := He.glo_ok X G (c.1.fact 39 (f := .glo "BadThings") rfl)
  have g_BadTime := He.glo_ok X G (c.1.fact 40 (f := .glo "BadTime") rfl)
  have g_BadText := He.glo_ok X G (c.1.fact 41 (f := .glo "BadText") rfl)
  have e_BadThings := He.exc_ok (c.1.fact 42 (f := .exc "BadThings") rfl)
  have X_BadThings : Err K mg "BadThings" (He.ga K "BadThings") := ⟨g_BadThings, e_BadThings.1, e_BadThings.2.1, e_BadThings.2.2.1, e_BadThings.2.2.2⟩
  have e_BadOrder := He.exc_ok (c.1.fact 44 (f := .exc "BadOrder") rfl)
  have X_BadOrder : Err K mg "BadOrder" (He.ga K "BadOrder") := ⟨g_BadOrder, e_BadOrder.1, e_BadOrder.2.1, e_BadOrder.2.2.1, e_BadOrder.2.2.2⟩
  have e_BadTime := He.exc_ok (c.1.fact 46 (f := .exc "BadTime") rfl)
  have X_BadTime : Err K mg "BadTime" (He.ga K "BadTime") := ⟨g_BadTime, e_BadTime.1, e_BadTime.2.1, e_BadTime.2.2.1, e_BadTime.2.2.2⟩
  have e2 := Bool.and_eq_true_iff.mp c.2
  have e3 := Bool.and_eq_true_iff.mp e2.2
  have e4 := Bool.and_eq_true_iff.mp e3.2
  have X_E : ErrN mg (He.ga K "BenchError") (He.ga K "BadOrder") (He.ga K "BadThings") (He.ga K "BadTime") (He.ga K "BadText") := ⟨g_BenchError, g_BadOrder, g_BadThings, g_BadTime, g_BadText⟩
  have f_KH := Bool.and_eq_true_iff.mp e3.1
  have X_KH : ErrD K (He.ga K "BenchError") (He.ga K "BadOrder") (He.ga K "BadThings") (He.ga K "BadTime") (He.ga K "BadText") (He.ga K "BadThings") true false false := ⟨excB_ok f_KH.1, He.exm_ok (c.1.fact 43 (f := .exm "BadThings" "BenchError" true) rfl), exB_kit e2.1 0 rfl, exB_kit e2.1 1 rfl, exB_kit e2.1 2 rfl, exB_kit e2.1 3 rfl, of_decide_eq_true f_KH.2⟩
  have f_KO := Bool.and_eq_true_iff.mp e4.1
  have X_KO : ErrD K (He.ga K "BenchError") (He.ga K "BadOrder") (He.ga K "BadThings") (He.ga K "BadTime") (He.ga K "BadText") (He.ga K "BadOrder") false true false := ⟨excB_ok f_KO.1, He.exm_ok (c.1.fact 45 (f := .exm "BadOrder" "BenchError" true) rfl), exB_kit e2.1 4 rfl, exB_kit e2.1 5 rfl, exB_kit e2.1 6 rfl, exB_kit e2.1 7 rfl, of_decide_eq_true f_KO.2⟩
  have f_KI := Bool.and_eq_true_iff.mp e4.2
  have X_KI : ErrD K (He.ga K "BenchError") (He.ga K "BadOrder") (He.ga K "BadThings") (He.ga K "BadTime") (He.ga K "BadText") (He.ga K "BadTime") false false true := ⟨excB_ok f_KI.1, He.exm_ok (c.1.fact 47 (f := .exm "BadTime" "BenchError" true) rfl), exB_kit e2.1 8 rfl, exB_kit e2.1 9 rfl, exB_kit e2.1 10 rfl, exB_kit e2.1 11 rfl, of_decide_eq_true f_KI.2⟩
  refine ⟨fd_law, fun s v => b s [v] rfl, fun base _ _ => ?_⟩
  have D_is_whole : Def K mg "is_whole" s_is_whole ["thing"] := ⟨_, fd_is_whole, F_is_whole, He.glo_ok X G (c.1.fact 0 (f := .glo "is_whole") rfl), F_is_whole.bindsN fun _ _ _ _ _ _ us hl => match us, hl with | [_], _ => rfl⟩
  have c_is_whole := ok_is_whole (P := P) (w := w) (base := base) B D_is_whole
  have D_is_triple : Def K mg "is_triple" s_is_triple ["thing"] := ⟨_, fd_is_triple, F_is_triple, He.glo_ok X G (c.1.fact 1 (f := .glo "is_triple") rfl), F_is_triple.bindsN fun _ _ _ _ _ _ us hl => match us, hl with | [_], _ => rfl⟩
  have c_is_triple := ok_is_triple (P := P) (w := w) (base := base) B c_is_whole D_is_triple
  have D_check_things : Def K mg "check_things" s_check_things ["things"] := ⟨_, fd_check_things, F_check_things, He.glo_ok X G (c.1.fact 2 (f := .glo "check_things") rfl), F_check_things.bindsN fun _ _ _ _ _ _ us hl => match us, hl with | [_], _ => rfl⟩
  have c_check_things := ok_check_things (P := P) (w := w) (base := base) B X_BadThings c_is_triple D_check_things
  have D_is_order : Def K mg "is_order" s_is_order ["things", "order"] := ⟨_, fd_is_order, F_is_order, He.glo_ok X G (c.1.fact 3 (f := .glo "is_order") rfl), F_is_order.bindsN fun _ _ _ _ _ _ us hl => match us, hl with | [_, _], _ => rfl⟩
  have c_is_order := ok_is_order (P := P) (w := w) (base := base) B c_is_whole D_is_order
  have D_check_order : Def K mg "check_order" s_check_order ["things", "order"] := ⟨_, fd_check_order, F_check_order, He.glo_ok X G (c.1.fact 4 (f := .glo "check_order") rfl), F_check_order.bindsN fun _ _ _ _ _ _ us hl => match us, hl with | [_, _], _ => rfl⟩
  have c_check_order := ok_check_order (P := P) (w := w) (base := base) B X_BadOrder c_is_order D_check_order
  have D_done : Def K mg "done" s_done ["things", "order"] := ⟨_, fd_done, F_done, He.glo_ok X G (c.1.fact 5 (f := .glo "done") rfl), F_done.bindsN fun _ _ _ _ _ _ us hl => match us, hl with | [_, _], _ => rfl⟩
  have c_done := ok_done (P := P) (ww := w) (base := base) B c_check_things c_check_order D_done
  have D_starts : Def K mg "starts" s_starts ["things", "order"] := ⟨_, fd_starts, F_starts, He.glo_ok X G (c.1.fact 6 (f := .glo "starts") rfl), F_starts.bindsN fun _ _ _ _ _ _ us hl => match us, hl with | [_, _], _ => rfl⟩
  have c_starts := ok_starts (P := P) (ww := w) (base := base) B c_check_things c_check_order D_starts
  have D_soonest : Def K mg "soonest" s_soonest ["things"] := ⟨_, fd_soonest, F_soonest, He.glo_ok X G (c.1.fact 7 (f := .glo "soonest") rfl), F_soonest.bindsN fun _ _ _ _ _ _ us hl => match us, hl with | [_], _ => rfl⟩
  have c_soonest := ok_soonest (P := P) (ww := w) (base := base) B c_check_things D_soonest
  have D_within : Def K mg "within" s_within ["things", "time"] := ⟨_, fd_within, F_within, He.glo_ok X G (c.1.fact 8 (f := .glo "within") rfl), F_within.bindsN fun _ _ _ _ _ _ us hl => match us, hl with | [_, _], _ => rfl⟩
  have c_within := ok_within (P := P) (ww := w) (base := base) B X_BadTime c_is_whole c_check_things D_within
  have D_written : Def K mg "written" s_written ["things"] := ⟨_, fd_written, F_written, He.glo_ok X G (c.1.fact 9 (f := .glo "written") rfl), F_written.bindsN fun _ _ _ _ _ _ us hl => match us, hl with | [_], _ => rfl⟩
  have c_written := ok_written (P := P) (ww := w) (base := base) B X_BadThings X_MOST c_check_things D_written
  have D__law_cell_at : Def K mg "_law_cell_at" s__law_cell_at ["_law_script", "_law_k"] := ⟨_, fd__law_cell_at, F__law_cell_at, He.glo_ok X G (c.1.fact 10 (f := .glo "_law_cell_at") rfl), F__law_cell_at.bindsN fun _ _ _ _ _ _ us hl => match us, hl with | [_, _], _ => rfl⟩
  have c__law_cell_at := ok__law_cell_at (P := P) (w := w) (base := base) B D__law_cell_at
  have D__law_draw : Def K mg "_law_draw" s__law_draw ["_law_cell", "_law_k", "_law_many"] := ⟨_, fd__law_draw, F__law_draw, He.glo_ok X G (c.1.fact 11 (f := .glo "_law_draw") rfl), F__law_draw.bindsN fun _ _ _ _ _ _ us hl => match us, hl with | [_, _, _], _ => rfl⟩
  have c__law_draw := ok__law_draw (P := P) (w := w) (base := base) B D__law_draw
  have D__law_things : Def K mg "_law_things" s__law_things ["_law_script"] := ⟨_, fd__law_things, F__law_things, He.glo_ok X G (c.1.fact 12 (f := .glo "_law_things") rfl), F__law_things.bindsN fun _ _ _ _ _ _ us hl => match us, hl with | [_], _ => rfl⟩
  have c__law_things := ok__law_things (P := P) (w := w) (base := base) B c__law_cell_at c__law_draw D__law_things
  have D__law_kinds : Def K mg "_law_kinds" s__law_kinds ["_law_error"] := ⟨_, fd__law_kinds, F__law_kinds, He.glo_ok X G (c.1.fact 13 (f := .glo "_law_kinds") rfl), F__law_kinds.bindsN fun _ _ _ _ _ _ us hl => match us, hl with | [_], _ => rfl⟩
  have c__law_kinds := ok__law_kinds (P := P) (ww := w) (base := base) B X_E D__law_kinds
  have D__law_with_things : Def K mg "_law_with_things" s__law_with_things ["_law_door", "_law_things_here"] := ⟨_, fd__law_with_things, F__law_with_things, He.glo_ok X G (c.1.fact 14 (f := .glo "_law_with_things") rfl), F__law_with_things.bindsN fun _ _ _ _ _ _ us hl => match us, hl with | [_, _], _ => rfl⟩
  have c__law_with_things := ok__law_with_things (P := P) (ww := w) (base := base) B c_done c_starts c_soonest c_within c_written D__law_with_things
  have D__law_with_order : Def K mg "_law_with_order" s__law_with_order ["_law_things_here", "_law_order_here"] := ⟨_, fd__law_with_order, F__law_with_order, He.glo_ok X G (c.1.fact 15 (f := .glo "_law_with_order") rfl), F__law_with_order.bindsN fun _ _ _ _ _ _ us hl => match us, hl with | [_, _], _ => rfl⟩
  have c__law_with_order := ok__law_with_order (P := P) (ww := w) (base := base) B c_done D__law_with_order
  have D__law_with_starts : Def K mg "_law_with_starts" s__law_with_starts ["_law_things_here", "_law_order_here"] := ⟨_, fd__law_with_starts, F__law_with_starts, He.glo_ok X G (c.1.fact 16 (f := .glo "_law_with_starts") rfl), F__law_with_starts.bindsN fun _ _ _ _ _ _ us hl => match us, hl with | [_, _], _ => rfl⟩
  have c__law_with_starts := ok__law_with_starts (P := P) (ww := w) (base := base) B c_starts D__law_with_starts
  have D__law_told : Def K mg "_law_told" s__law_told ["_law_ask", "_law_one", "_law_other"] := ⟨_, fd__law_told, F__law_told, He.glo_ok X G (c.1.fact 17 (f := .glo "_law_told") rfl), F__law_told.bindsN fun _ _ _ _ _ _ us hl => match us, hl with | [_, _, _], _ => rfl⟩
  have c__law_told := ok__law_told (P := P) (ww := w) (base := base) B X_E c__law_kinds D__law_told
  exact ok_law (P := P) (ww := w) (base := base) B X_KH X_KO X_KI c__law_cell_at c__law_things c_within c_written c__law_with_things c__law_with_order c__law_with_starts c__law_told F_law
end Bp
open PySem PySem.W PySem.Calls PyProof.Rows
theorem PySem.Challenge.cw_benchpair_k06_refused_holds : PySem.Challenge.rw_benchpair_k06_refused.Holds := by
  w_on; o_law
  refine HandSHeadRun.head_any (r := OpenLaw.row PySem.Challenge.rw_benchpair_k06_refused) (q := view (OpenLaw.row PySem.Challenge.rw_benchpair_k06_refused).prog [43]) (H := Bp.hkL) (ob := Bp.obL) (M := 4000) (loose := Bp.looseL) (d := HandSHeadRun.topDef (OpenLaw.row PySem.Challenge.rw_benchpair_k06_refused).prog 43) (kwd := []) Bp.obL_eq
    (by kernel_rfl) (fun s => by kernel_rfl) Bp.runL (by kernel_rfl) (by kernel_rfl) (by kernel_rfl) (by rfl) (by first | assumption | decide +kernel) (by decide +kernel) ⟨rfl, rfl, rfl, rfl, rfl, by decide +kernel⟩ ?hw ?hc
  case hw => w_witness2
  case hc =>
    refine L2.walk_ofE (l := PySem.Challenge.rw_benchpair_k06_refused) (n := 63) (k := 7) (x := "_law_script") (CX := L2.CX0) rfl (by decide) (by kernel_rfl) ⟨rfl, by decide, by decide⟩ ?F (fun _ _ _ _ z => z)
    intro w mg fa h Y G hmg0
    obtain ⟨K, KX, c⟩ := Y
    have hmg : mg ("law" : PySem.Str) = some (.ref fa) := by
      have e : (HandSHeadRun.topDef (OpenLaw.row PySem.Challenge.rw_benchpair_k06_refused).prog 43).name = ("law" : PySem.Str) := by kernel_rfl
      rw [← e]
      exact hmg0
    obtain ⟨fd, hb, hF⟩ := Bp.factsL (P := (PySem.Challenge.rw_benchpair_k06_refused).prog) (w := w) KX G hmg c
    exact ⟨K, fd, Bp.sp_law K, KX, hb, fun H a ns hl _ hS => ⟨a, ns, rfl, hS, hl, fun _ => rfl⟩, hF⟩
