import PyProof.Rows.All
import Wide.All
import OpenK.AllK
import Wide.FinOn
import HandS.ForExc
import HandS.More
import HandS.Property
import HandS.OwnEq
import OpenK.KOps
import PyProof.InstEq
import KE.KSuper
import KE.KExcSuper
import HandS.ExcInit
import KE.GoesComp
import KE.GoesRaise
import HandS.Comp
import HandS.Strs
import HandS.SetFor
import HandS.Iter
import HandS.IsInst
import HandS.Conv
import HandS.Flow
import HandS.Zip
import HandS.SortInts
import HandS.Defaults
import HandS.Star
import HandS.MakeKwOnly
import PySem.Challenge.RW_goesnext_k81_whole_caches
import KE.RegKSuper
/-! part M1 -/
set_option Elab.async false
set_option linter.all false
set_option maxHeartbeats 4000000
namespace GN

/-! ### the mathematics: permutations, rows, sets of rows -/
/-- a permutation of 0 .. k - 1 -/
structure IsP (p : List Int) (k : Nat) : Prop where
  len : p.length = k
  nd : p.Nodup
  rg : ∀ x ∈ p, 0 ≤ x ∧ x < k
def iota (k : Nat) : List Int := (List.range k).map fun (i : Nat) => (i : Int)
theorem iota_len (k : Nat) : (iota k).length = k := by simp [iota]
theorem mem_iota {k : Nat} {x : Int} : x ∈ iota k ↔ 0 ≤ x ∧ x < k := by
  unfold iota
  rw [List.mem_map]
  constructor
  · rintro ⟨i, hi, e⟩
    have := List.mem_range.mp hi
    omega
  · intro ⟨h1, h2⟩
    exact ⟨x.toNat, List.mem_range.mpr (by omega), by omega⟩
/-- ascending ints between a and b are at most b - a -/
theorem asc_len : ∀ {l : List Int} {a b : Int}, l.Pairwise (· < ·) → (∀ x ∈ l, a ≤ x ∧ x < b) → (l.length : Int) ≤ b - a ∨ l = []
  | [], _, _, _, _ => .inr rfl
  | x :: xs, a, b, h, hb => by
    obtain ⟨h1, h2⟩ := List.pairwise_cons.mp h
    have hx := hb x List.mem_cons_self
    left
    rcases asc_len (a := x + 1) (b := b) h2 (fun y hy => ⟨h1 y hy, (hb y (List.mem_cons_of_mem _ hy)).2⟩) with q | q
    · rw [List.length_cons]; omega
    · subst q; simp; omega
theorem asc_iota : ∀ {l : List Int} {a : Int}, l.Pairwise (· < ·) → (∀ x ∈ l, a ≤ x ∧ x < a + l.length) → ∀ i (h : i < l.length), l[i] = a + i
  | [], _, _, _, i, h => absurd h (Nat.not_lt_zero _)
  | x :: xs, a, h, hb, i, hi => by
    obtain ⟨h1, h2⟩ := List.pairwise_cons.mp h
    have hx := hb x List.mem_cons_self
    rw [List.length_cons] at hx hb
    have e : x = a := by
      rcases asc_len (a := x + 1) (b := a + (xs.length + 1 : Nat)) h2 (fun y hy => ⟨h1 y hy, (hb y (List.mem_cons_of_mem _ hy)).2⟩) with q | q
      · omega
      · subst q; simp at hx; omega
    cases i with
    | zero => simp [e]
    | succ j =>
      have hj : j < xs.length := by simpa using hi
      have := asc_iota (l := xs) (a := a + 1) h2 (fun y hy => ⟨by have := h1 y hy; omega, by have := (hb y (List.mem_cons_of_mem _ hy)).2; omega⟩) j hj
      rw [List.getElem_cons_succ, this]
      omega
theorem asc_is_iota {l : List Int} {k : Nat} (h : l.Pairwise (· < ·)) (hl : l.length = k) (hb : ∀ x ∈ l, 0 ≤ x ∧ x < k) : l = iota k := by
  refine List.ext_getElem (by rw [iota_len, hl]) fun i h1 h2 => ?_
  rw [asc_iota (a := 0) h (fun x hx => by have := hb x hx; rw [hl]; omega) i h1]
  simp [iota]
theorem le_nd_lt : ∀ {l : List Int}, l.Pairwise (· ≤ ·) → l.Nodup → l.Pairwise (· < ·)
  | [], _, _ => List.Pairwise.nil
  | x :: xs, h, n => by
    obtain ⟨h1, h2⟩ := List.pairwise_cons.mp h
    obtain ⟨n1, n2⟩ := List.nodup_cons.mp n
    refine List.pairwise_cons.mpr ⟨fun y hy => ?_, le_nd_lt h2 n2⟩
    have := h1 y hy
    have : x ≠ y := fun e => n1 (e ▸ hy)
    omega
/-- a permutation, sorted, is 0 .. k - 1 -/
theorem IsP.sorted {p l : List Int} {k : Nat} (h : IsP p k) (hp : l.Perm p) (hs : l.Pairwise (· ≤ ·)) : l = iota k :=
  asc_is_iota (le_nd_lt hs (hp.nodup_iff.mpr h.nd)) (hp.length_eq.trans h.len) fun x hx => h.rg x (hp.mem_iff.mp hx)
theorem IsP.surj {p : List Int} {k : Nat} (h : IsP p k) {m : Nat} (hm : m < k) : ∃ j : Nat, j < k ∧ p[j]? = some (m : Int) := by
  have e := h.sorted (l := p.mergeSort fun a b => decide (a ≤ b)) (List.mergeSort_perm _ _) (by
    have := List.pairwise_mergeSort (le := fun (a b : Int) => decide (a ≤ b)) (fun a b c h1 h2 => by simp at *; omega) (fun a b => by simp; omega) p
    exact this.imp fun h => by simpa using h)
  have hm' : (m : Int) ∈ p := (List.mergeSort_perm p fun a b => decide (a ≤ b)).mem_iff.mp (by rw [e]; exact mem_iota.mpr ⟨by omega, by omega⟩)
  obtain ⟨j, hj, ej⟩ := List.getElem_of_mem hm'
  exact ⟨j, by rw [← h.len]; exact hj, by rw [List.getElem?_eq_getElem hj, ej]⟩

/-- each item of r goes to the place that p tells -/
def mvTo (p r : List Int) (i : Nat) : List Int := (List.range i).foldl (fun acc j => acc.set (p.getD j 0).toNat (r.getD j 0)) r
def mv (p r : List Int) : List Int := mvTo p r r.length
theorem mvTo_succ (p r : List Int) (i : Nat) : mvTo p r (i + 1) = (mvTo p r i).set (p.getD i 0).toNat (r.getD i 0) := by
  unfold mvTo
  rw [List.range_succ, List.foldl_append]
  rfl
theorem mvTo_len (p r : List Int) : ∀ i, (mvTo p r i).length = r.length
  | 0 => rfl
  | i + 1 => by rw [mvTo_succ, List.length_set, mvTo_len p r i]
theorem mv_len (p r : List Int) : (mv p r).length = r.length := mvTo_len p r _
theorem getD_of {α : Type} {l : List α} {i : Nat} {d x : α} (h : l[i]? = some x) : l.getD i d = x := by
  rw [List.getD_eq_getElem?_getD, h]; rfl
theorem mvTo_at {p r : List Int} (h : IsP p r.length) : ∀ i, i ≤ r.length → ∀ j, j < i → (mvTo p r i)[(p.getD j 0).toNat]? = r[j]?
  | 0, _, j, hj => absurd hj (Nat.not_lt_zero _)
  | i + 1, hi, j, hj => by
    have hlen := mvTo_len p r i
    have pin : ∀ j, j < r.length → ∃ x, p[j]? = some x ∧ p.getD j 0 = x ∧ 0 ≤ x ∧ x < r.length := fun j hj => by
      have hj' : j < p.length := by rw [h.len]; exact hj
      have e := List.getElem?_eq_getElem hj'
      exact ⟨_, e, getD_of e, h.rg _ (List.getElem_mem hj')⟩
    obtain ⟨x, ex, dx, x0, x1⟩ := pin i hi
    obtain ⟨y, ey, dy, y0, y1⟩ := pin j (by omega)
    rw [mvTo_succ, dx, dy]
    by_cases e : j = i
    · subst e
      rw [ex] at ey
      cases ey
      rw [List.getElem?_set_self (by rw [hlen]; omega), List.getD_eq_getElem?_getD, List.getElem?_eq_getElem (by omega)]
      rfl
    · have hne : x.toNat ≠ y.toNat := fun q => e (by
        have hxy : x = y := by omega
        subst hxy
        obtain ⟨a1, a2⟩ := List.getElem?_eq_some_iff.mp ex
        obtain ⟨b1, b2⟩ := List.getElem?_eq_some_iff.mp ey
        exact (List.getElem_inj h.nd).mp (b2.trans a2.symm))
      rw [List.getElem?_set_ne hne]
      have := mvTo_at h i (by omega) j (by omega)
      rw [dy] at this
      exact this
theorem mv_at {p r : List Int} (h : IsP p r.length) {m : Nat} (hm : m < r.length) : ∃ j : Nat, j < r.length ∧ p[j]? = some (m : Int) ∧ (mv p r)[m]? = r[j]? := by
  obtain ⟨j, hj, e⟩ := h.surj hm
  refine ⟨j, hj, e, ?_⟩
  have := mvTo_at h r.length (Nat.le_refl _) j hj
  rw [getD_of e] at this
  exact this
theorem mv_mem {p r : List Int} (h : IsP p r.length) {x : Int} (hx : x ∈ mv p r) : x ∈ r := by
  obtain ⟨m, hm, e⟩ := List.getElem_of_mem hx
  rw [mv_len] at hm
  obtain ⟨j, hj, _, q⟩ := mv_at h hm
  rw [List.getElem?_eq_getElem (by rw [mv_len]; exact hm), List.getElem?_eq_getElem hj] at q
  rw [← e, Option.some.inj q]
  exact List.getElem_mem hj
theorem mv_nd {p r : List Int} (h : IsP p r.length) (n : r.Nodup) : (mv p r).Nodup := by
  refine List.pairwise_iff_getElem.mpr fun a b ha hb hab e => ?_
  rw [mv_len] at ha hb
  obtain ⟨i, hi, pi, qi⟩ := mv_at h ha
  obtain ⟨j, hj, pj, qj⟩ := mv_at h hb
  rw [List.getElem?_eq_getElem (by rw [mv_len]; exact ha), List.getElem?_eq_getElem hi] at qi
  rw [List.getElem?_eq_getElem (by rw [mv_len]; exact hb), List.getElem?_eq_getElem hj] at qj
  have hij : i = j := (List.getElem_inj n).mp (by rw [← Option.some.inj qi, ← Option.some.inj qj]; exact e)
  subst hij
  rw [pi] at pj
  have := Option.some.inj pj
  omega

/-! ### rules, rows, the sets of a cache -/
structure RuleOk (k : Nat) (rule : List (List Int)) : Prop where
  len : rule.length = k
  all : ∀ p ∈ rule, IsP p k
structure RowOk (n idx k : Nat) (r : List Int) : Prop where
  len : r.length = k
  nd : r.Nodup
  blk : ∀ x ∈ r, 0 ≤ x ∧ x ≤ 1000000000 ∧ x % n = idx
abbrev Part := List Int × Int × Int
abbrev Pres := List Part
def stp (rule : List (List Int)) (row : List Int) (b : Int) : Bool × List Int :=
  if b ∈ row then (true, mv (rule.getD (row.idxOf b) []) row) else (false, row.drop 1 ++ [b])
def ix (pres : Pres) (b : Int) : Nat := (b % (pres.length : Int)).toNat
def pt (pres : Pres) (b : Int) : Part := pres.getD (ix pres b) ([], 0, 0)
def nxt (rule : List (List Int)) (pres : Pres) (b : Int) : Pres :=
  pres.set (ix pres b) ((stp rule (pt pres b).1 b).2, (pt pres b).2.1 + (if (stp rule (pt pres b).1 b).1 then 1 else 0), (pt pres b).2.2 + (if (stp rule (pt pres b).1 b).1 then 0 else 1))
/-- an access: none if a kept block would go -/
def acc (rule : List (List Int)) (kept : List Int) (pres : Pres) (b : Int) : Option (Bool × Pres) :=
  if b ∉ (pt pres b).1 ∧ (pt pres b).1.headD 0 ∈ kept then none else some ((stp rule (pt pres b).1 b).1, nxt rule pres b)
structure PresOk (n k : Nat) (pres : Pres) : Prop where
  len : pres.length = n
  row : ∀ (i : Nat) p, pres[i]? = some p → RowOk n i k p.1
def hitsOf (pres : Pres) : Int := (pres.map fun p => p.2.1).sum
def missOf (pres : Pres) : Int := (pres.map fun p => p.2.2).sum
def tot (pres : Pres) : Int := hitsOf pres + missOf pres

theorem stp_ok {n idx k : Nat} {rule : List (List Int)} {row : List Int} {b : Int} (hR : RuleOk k rule) (h : RowOk n idx k row) (hk : 1 ≤ k) (hb : 0 ≤ b ∧ b ≤ 1000000000 ∧ b % n = idx) : RowOk n idx k (stp rule row b).2 := by
  unfold stp
  split
  · rename_i hm
    have hi : row.idxOf b < row.length := List.idxOf_lt_length_of_mem hm
    have hi' : row.idxOf b < rule.length := by rw [hR.len, ← h.len]; exact hi
    have e : rule.getD (row.idxOf b) [] = rule[row.idxOf b] := getD_of (List.getElem?_eq_getElem hi')
    have hp : IsP (rule.getD (row.idxOf b) []) row.length := by
      rw [e, h.len]
      exact hR.all _ (List.getElem_mem hi')
    exact ⟨by show (mv _ row).length = k; rw [mv_len, h.len], mv_nd hp h.nd, fun x hx => h.blk x (mv_mem hp hx)⟩
  · rename_i hm
    refine ⟨by show (row.drop 1 ++ [b]).length = k; rw [List.length_append, List.length_drop, h.len]; simp; omega, ?_, fun x hx => ?_⟩
    · show (row.drop 1 ++ [b]).Nodup
      refine List.nodup_append.mpr ⟨h.nd.sublist (List.drop_sublist _ _), by simp, fun x hx y hy e => ?_⟩
      rw [List.mem_singleton.mp hy] at e
      subst e
      exact hm (List.mem_of_mem_drop hx)
    · rcases List.mem_append.mp hx with hx | hx
      · exact h.blk x (List.mem_of_mem_drop hx)
      · rw [List.mem_singleton.mp hx]; exact hb
theorem ix_lt {pres : Pres} {b : Int} (h : 0 < pres.length) : ix pres b < pres.length := by
  unfold ix
  have h1 := Int.emod_nonneg b (b := (pres.length : Int)) (by omega)
  have h2 := Int.emod_lt_of_pos b (b := (pres.length : Int)) (by omega)
  omega
theorem pt_at {pres : Pres} {b : Int} (h : 0 < pres.length) : pres[ix pres b]? = some (pt pres b) := by
  have := ix_lt (b := b) h
  unfold pt
  rw [List.getD_eq_getElem?_getD, List.getElem?_eq_getElem this]
  rfl
theorem ix_mod {pres : Pres} {b : Int} (h : 0 < pres.length) : b % (pres.length : Int) = (ix pres b : Int) := by
  unfold ix
  have h1 := Int.emod_nonneg b (b := (pres.length : Int)) (by omega)
  omega
theorem nxt_ok {n k : Nat} {rule : List (List Int)} {pres : Pres} {b : Int} (hR : RuleOk k rule) (h : PresOk n k pres) (hn : 0 < n) (hk : 1 ≤ k) (hb : 0 ≤ b ∧ b ≤ 1000000000) : PresOk n k (nxt rule pres b) := by
  have hl : 0 < pres.length := by rw [h.len]; exact hn
  have hr := h.row _ _ (pt_at (b := b) hl)
  refine ⟨by unfold nxt; rw [List.length_set, h.len], fun i p e => ?_⟩
  unfold nxt at e
  by_cases q : ix pres b = i
  · subst q
    rw [List.getElem?_set_self (ix_lt hl)] at e
    rw [← Option.some.inj e]
    refine stp_ok hR hr hk ⟨hb.1, hb.2, ?_⟩
    rw [← h.len]
    exact ix_mod hl
  · rw [List.getElem?_set_ne q] at e
    exact h.row i p e
theorem sum_set : ∀ {l : List Int} {j : Nat} {z y : Int}, l[j]? = some z → (l.set j y).sum = l.sum - z + y
  | [], j, z, y, h => by simp at h
  | a :: r, 0, z, y, h => by
    simp at h
    subst h
    simp only [List.set_cons_zero, List.sum_cons]
    omega
  | a :: r, j + 1, z, y, h => by
    have := sum_set (l := r) (j := j) (z := z) (y := y) (by simpa using h)
    simp only [List.set_cons_succ, List.sum_cons, this]
    omega
theorem nxt_tot {rule : List (List Int)} {pres : Pres} {b : Int} (h : 0 < pres.length) : tot (nxt rule pres b) = tot pres + 1 := by
  have e := pt_at (b := b) h
  unfold tot hitsOf missOf nxt
  rw [List.map_set, List.map_set, sum_set (z := (pt pres b).2.1) (by rw [List.getElem?_map, e]; rfl), sum_set (z := (pt pres b).2.2) (by rw [List.getElem?_map, e]; rfl)]
  cases (stp rule (pt pres b).1 b).1 <;> simp <;> omega
end GN

/-! part G1 -/
set_option Elab.async false
set_option linter.all false
set_option maxRecDepth 100000
set_option maxHeartbeats 4000000
namespace GN
open PySem PySem.Spec PyProof.Rows L2

/-! ### heaps: what stays, and the heap without some addresses -/
def Off (S : List Addr) (H : Hp) : Hp := fun b => if b ∈ S then none else H b
def Kp (S : List Addr) (H H' : Hp) : Prop := ∀ b o, H b = some o → b ∉ S → H' b = some o
section
variable {S S' : List Addr} {H H1 H' : Hp} {p : Addr} {o : HO}
theorem kp_rfl : Kp S H H := fun _ _ h _ => h
theorem kp_trans (a : Kp S H H1) (b : Kp S H1 H') : Kp S H H' := fun c u h n => b c u (a c u h n) n
theorem kp_mono (a : Kp S H H') (h : ∀ b ∈ S, b ∈ S') : Kp S' H H' := fun c u e n => a c u e fun z => n (h c z)
theorem kp_same (a : Same H H') : Kp S H H' := fun c u e _ => a c u e
theorem same_kp (a : Kp [] H H') : Same H H' := fun c u e => a c u e (by simp)
theorem kp_new (h : H p = none) : Kp S H (upd H p o) := fun c u e _ => by rw [upd_ne (ne_of_none e h)]; exact e
theorem kp_in (h : p ∈ S) : Kp S H (upd H p o) := fun c u e n => by
  have np : c ≠ p := fun z => n (by rw [z]; exact h)
  rw [upd_ne np]; exact e
theorem same_new (h : H p = none) : Same H (upd H p o) := fun c u e => by rw [upd_ne (ne_of_none e h)]; exact e
theorem off_get {b : Addr} (h : b ∉ S) : Off S H b = H b := if_neg h
theorem off_some {b : Addr} (h : Off S H b = some o) : H b = some o ∧ b ∉ S := by
  unfold Off at h
  by_cases z : b ∈ S
  · rw [if_pos z] at h; cases h
  · rw [if_neg z] at h; exact ⟨h, z⟩
theorem off_same : Same (Off S H) H := fun _ _ h => (off_some h).1
theorem kp_off (a : Kp S' H H') (h : ∀ b ∈ S', b ∈ S) : Same (Off S H) (Off S H') := fun c u e => by
  obtain ⟨e1, n⟩ := off_some e
  rw [off_get n]
  exact a c u e1 fun z => n (h c z)
theorem off_off (h : ∀ b ∈ S, b ∈ S') : Same (Off S' H) (Off S H) := fun c u e => by
  obtain ⟨e1, n⟩ := off_some e
  rw [off_get fun z => n (h c z)]
  exact e1
/-- an address that is new keeps out of what was there -/
theorem same_off_new (h : H p = none) : Same (Off S H) (Off (p :: S) (upd H p o)) := fun c u e => by
  obtain ⟨e1, n⟩ := off_some e
  have np : c ≠ p := ne_of_none e1 h
  rw [off_get (by simp [np, n]), upd_ne np]
  exact e1
theorem same_off (a : Same H H') : Same (Off S H) (Off S H') := kp_off (S' := []) (kp_same a) (by simp)
theorem same_put (h : H p = none) : Same (Off S H) (Off (p :: S) H) := fun c u e => by
  obtain ⟨e1, n⟩ := off_some e
  rw [off_get (by simp [ne_of_none e1 h, n])]
  exact e1
end

/-! ### data: the relation Dp of the layer, carried and opened -/
section
variable {K : PySem.W.Frag} {H H' : Hp}
theorem seqT_mono {a : Addr} {xs : List V} (e : Same H H') (h : SqT K H a xs) : SqT K H' a xs :=
  h.elim (fun h => .inl (h.elim (fun h => .inl (e _ _ h)) fun ⟨o, h⟩ => .inr ⟨o, e _ _ h⟩)) .inr
theorem seqL_mono {a : Addr} {xs : List V} (e : Same H H') (h : SqL K H a xs) : SqL K H' a xs := e.seq h
mutual
theorem dp_mono (e : Same H H') : ∀ (d : PyData) (v : V), Dp K H v d → Dp K H' v d
  | .none, _, h => by cases h; exact .non
  | .bool b, _, h => by cases h; exact .bl b
  | .int i, _, h => by cases h; exact .int i
  | .str x, _, h => by cases h; exact .str x
  | .list ds, _, h => by
    cases h with
    | lst s a => exact .lst (seqL_mono e s) (dps_mono e ds _ a)
  | .tuple ds, _, h => by
    cases h with
    | tup s a => exact .tup (seqT_mono e s) (dps_mono e ds _ a)
  | .dict _, _, h => nomatch h
theorem dps_mono (e : Same H H') : ∀ (ds : List PyData) (vs : List V), DpAll K H vs ds → DpAll K H' vs ds
  | [], _, h => by cases h; exact .nil
  | d :: ds, _, h => by
    cases h with
    | cons a r => exact .cons (dp_mono e d _ a) (dps_mono e ds _ r)
end
theorem _root_.L2.Dp.up {v : V} {d : PyData} (h : Dp K H v d) (e : Same H H') : Dp K H' v d := dp_mono e d v h
theorem _root_.L2.DpAll.up {vs : List V} {ds : List PyData} (h : DpAll K H vs ds) (e : Same H H') : DpAll K H' vs ds := dps_mono e ds vs h
theorem dp_list {v : V} {ds : List PyData} (h : Dp K H v (.list ds)) : ∃ a xs, v = .ref a ∧ SqL K H a xs ∧ DpAll K H xs ds := by
  cases h with
  | lst s a => exact ⟨_, _, rfl, s, a⟩
theorem dp_tup {v : V} {ds : List PyData} (h : Dp K H v (.tuple ds)) : ∃ a xs, v = .ref a ∧ SqT K H a xs ∧ DpAll K H xs ds := by
  cases h with
  | tup s a => exact ⟨_, _, rfl, s, a⟩
theorem dp_int {v : V} {i : Int} (h : Dp K H v (.int i)) : v = .int i := by cases h; rfl
theorem dp_bl {v : V} {b : Bool} (h : Dp K H v (.bool b)) : v = .bl b := by cases h; rfl
theorem dp_non {v : V} (h : Dp K H v .none) : v = .non := by cases h; rfl
theorem dps_len : ∀ {vs : List V} {ds : List PyData}, DpAll K H vs ds → vs.length = ds.length
  | _, _, .nil => rfl
  | _, _, .cons _ r => by rw [List.length_cons, List.length_cons, dps_len r]
theorem dps_get : ∀ {vs : List V} {ds : List PyData} {i : Nat} {d : PyData}, DpAll K H vs ds → ds[i]? = some d → ∃ v, vs[i]? = some v ∧ Dp K H v d
  | _, _, _, _, .nil, e => by simp at e
  | _, _, 0, _, .cons a _, e => by simp at e; subst e; exact ⟨_, rfl, a⟩
  | _, _, i + 1, d, .cons _ r, e => by
    obtain ⟨v, h1, h2⟩ := dps_get (i := i) (d := d) r (by simpa using e)
    exact ⟨v, by simpa using h1, h2⟩
theorem dps_at : ∀ {vs : List V} {ds : List PyData} {i : Nat} {v : V}, DpAll K H vs ds → vs[i]? = some v → ∃ d, ds[i]? = some d ∧ Dp K H v d
  | _, _, _, _, .nil, e => by simp at e
  | _, _, 0, _, .cons a _, e => by simp at e; subst e; exact ⟨_, rfl, a⟩
  | _, _, i + 1, v, .cons _ r, e => by
    obtain ⟨d, h1, h2⟩ := dps_at (i := i) (v := v) r (by simpa using e)
    exact ⟨d, by simpa using h1, h2⟩
theorem dps_app : ∀ {vs ws : List V} {ds es : List PyData}, DpAll K H vs ds → DpAll K H ws es → DpAll K H (vs ++ ws) (ds ++ es)
  | _, _, _, _, .nil, b => b
  | _, _, _, _, .cons a r, b => .cons a (dps_app r b)
theorem dps_take : ∀ {vs : List V} {ds : List PyData} (n : Nat), DpAll K H vs ds → DpAll K H (vs.take n) (ds.take n)
  | _, _, 0, _ => .nil
  | _, _, _ + 1, .nil => .nil
  | _, _, n + 1, .cons a r => .cons a (dps_take n r)
theorem dps_drop : ∀ {vs : List V} {ds : List PyData} (n : Nat), DpAll K H vs ds → DpAll K H (vs.drop n) (ds.drop n)
  | _, _, 0, h => h
  | _, _, _ + 1, .nil => .nil
  | _, _, n + 1, .cons _ r => dps_drop n r
theorem dps_one {v : V} {d : PyData} (h : Dp K H v d) : DpAll K H [v] [d] := .cons h .nil
theorem dps_ints : ∀ ns : List Int, DpAll K H (ns.map V.int) (ns.map PyData.int)
  | [] => .nil
  | n :: r => .cons (.int n) (dps_ints r)
theorem ints_dps : ∀ {ns : List Int} {vs : List V}, DpAll K H vs (ns.map PyData.int) → vs = ns.map V.int
  | [], _, .nil => rfl
  | n :: r, _, .cons a t => by rw [dp_int a, ints_dps t]; rfl
theorem dp_one {v : V} {vs : List V} {d : PyData} {ds : List PyData} (h : DpAll K H (v :: vs) (d :: ds)) : Dp K H v d ∧ DpAll K H vs ds := by
  cases h with
  | cons a r => exact ⟨a, r⟩
end

/-! ### the forms of data that the program has -/
def dI (ns : List Int) : PyData := .list (ns.map PyData.int)
def dT (ns : List Int) : PyData := .tuple (ns.map PyData.int)
def dRule (r : List (List Int)) : PyData := .list (r.map dI)
def dPart (p : Part) : PyData := .tuple [dT p.1, .int p.2.1, .int p.2.2]
def dPres (ps : Pres) : PyData := .tuple (ps.map dPart)
def dPast (l : List Pres) : PyData := .tuple (l.map dPres)
def dCount (p : Part) : PyData := .tuple [.int p.2.1, .int p.2.2]
def dLines (ps : Pres) : PyData := .list (ps.map fun p => dI p.1)
def dCounts (ps : Pres) : PyData := .list (ps.map dCount)
def dWorld (ps : Pres) : PyData := .tuple [dLines ps, dCounts ps]
section
variable {K : PySem.W.Frag} {H : Hp}
theorem dI_mk {a : Addr} {ns : List Int} (h : SqL K H a (ns.map V.int)) : Dp K H (.ref a) (dI ns) := .lst h (dps_ints ns)
theorem dT_mk {a : Addr} {ns : List Int} (h : SqT K H a (ns.map V.int)) : Dp K H (.ref a) (dT ns) := .tup h (dps_ints ns)
theorem dI_open {v : V} {ns : List Int} (h : Dp K H v (dI ns)) : ∃ a, v = .ref a ∧ SqL K H a (ns.map V.int) := by
  obtain ⟨a, xs, e, s, d⟩ := dp_list h
  rw [ints_dps d] at s
  exact ⟨a, e, s⟩
theorem dT_open {v : V} {ns : List Int} (h : Dp K H v (dT ns)) : ∃ a, v = .ref a ∧ SqT K H a (ns.map V.int) := by
  obtain ⟨a, xs, e, s, d⟩ := dp_tup h
  rw [ints_dps d] at s
  exact ⟨a, e, s⟩
end

/-! ### such data may be compared: canLay0 and a depth -/
def Sh (n : Nat) (d : PyData) : Prop := d.canLay0 = true ∧ d.depth ≤ n
theorem sh_ok {n : Nat} {d : PyData} (h : Sh n d) (hn : n ≤ 64 := by decide) : SeqAt.shaped d = true := by
  unfold SeqAt.shaped
  rw [h.1, Bool.true_and]
  exact decide_eq_true (Nat.le_trans h.2 hn)
theorem sh_all {n : Nat} : ∀ {ds : List PyData}, (∀ d ∈ ds, Sh n d) → PyData.canLayAll0 ds = true ∧ PyData.depthAll ds ≤ n
  | [], _ => ⟨by simp only [PyData.canLayAll0], by simp only [PyData.depthAll]; exact Nat.zero_le _⟩
  | d :: r, h => by
    obtain ⟨h1, h2⟩ := h d List.mem_cons_self
    obtain ⟨h3, h4⟩ := sh_all (ds := r) fun e he => h e (List.mem_cons_of_mem _ he)
    refine ⟨by simp only [PyData.canLayAll0, h1, h3, Bool.and_self], ?_⟩
    simp only [PyData.depthAll]
    exact Nat.max_le.mpr ⟨h2, h4⟩
theorem sh_list {n : Nat} {ds : List PyData} (h : ∀ d ∈ ds, Sh n d) : Sh (n + 1) (.list ds) := by
  obtain ⟨h1, h2⟩ := sh_all h
  exact ⟨by simp only [PyData.canLay0]; exact h1, by simp only [PyData.depth]; omega⟩
theorem sh_tup {n : Nat} {ds : List PyData} (h : ∀ d ∈ ds, Sh n d) : Sh (n + 1) (.tuple ds) := by
  obtain ⟨h1, h2⟩ := sh_all h
  exact ⟨by simp only [PyData.canLay0]; exact h1, by simp only [PyData.depth]; omega⟩
theorem sh_map {α : Type} {n : Nat} {f : α → PyData} {xs : List α} (h : ∀ x, Sh n (f x)) : ∀ d ∈ xs.map f, Sh n d := fun d hd => by
  obtain ⟨x, _, e⟩ := List.mem_map.mp hd
  rw [← e]; exact h x
theorem sh_int (n : Nat) (i : Int) : Sh n (.int i) := ⟨by simp only [PyData.canLay0], by simp only [PyData.depth]; exact Nat.zero_le _⟩
theorem sh_bl (n : Nat) (b : Bool) : Sh n (.bool b) := ⟨by simp only [PyData.canLay0], by simp only [PyData.depth]; exact Nat.zero_le _⟩
theorem sh_non (n : Nat) : Sh n .none := ⟨by simp only [PyData.canLay0], by simp only [PyData.depth]; exact Nat.zero_le _⟩
theorem sh_dI (n : Nat) (ns : List Int) : Sh (n + 1) (dI ns) := sh_list (sh_map fun i => sh_int n i)
theorem sh_dT (n : Nat) (ns : List Int) : Sh (n + 1) (dT ns) := sh_tup (sh_map fun i => sh_int n i)
theorem sh_rule (r : List (List Int)) : Sh 2 (dRule r) := sh_list (sh_map fun i => sh_dI 0 i)
theorem sh_part (p : Part) : Sh 2 (dPart p) := sh_tup fun d hd => by
  rcases List.mem_cons.mp hd with e | hd
  · rw [e]; exact sh_dT 0 _
  rcases List.mem_cons.mp hd with e | hd
  · rw [e]; exact sh_int 1 _
  rcases List.mem_cons.mp hd with e | hd
  · rw [e]; exact sh_int 1 _
  · cases hd
theorem sh_pres (ps : Pres) : Sh 3 (dPres ps) := sh_tup (sh_map sh_part)
theorem sh_past (l : List Pres) : Sh 4 (dPast l) := sh_tup (sh_map sh_pres)
theorem sh_count (p : Part) : Sh 1 (dCount p) := sh_tup fun d hd => by
  rcases List.mem_cons.mp hd with e | hd
  · rw [e]; exact sh_int 0 _
  rcases List.mem_cons.mp hd with e | hd
  · rw [e]; exact sh_int 0 _
  · cases hd
theorem sh_counts (ps : Pres) : Sh 2 (dCounts ps) := sh_list (sh_map sh_count)
theorem sh_lines (ps : Pres) : Sh 2 (dLines ps) := sh_list (sh_map fun p => sh_dI 0 p.1)

/-! ### membership, equality of ints as values -/
theorem inV_ints (n : Int) : ∀ ns : List Int, inV (V.int n) (ns.map V.int) = decide (n ∈ ns)
  | [] => rfl
  | m :: r => by
    have ih := inV_ints n r
    unfold inV at ih ⊢
    rw [List.map_cons, List.any_cons, ih]
    by_cases h : m = n
    · subst h; simp [eqV]
    · have h' : ¬ n = m := fun e => h e.symm
      simp [eqV, h, h']
theorem flat_ints : ∀ ns : List Int, (ns.map V.int).all flatV = true
  | [] => rfl
  | n :: r => by rw [List.map_cons, List.all_cons, flat_ints r]; rfl
theorem ints_get {ns : List Int} {i : Nat} {v : V} (h : (ns.map V.int)[i]? = some v) : ∃ n, ns[i]? = some n ∧ v = .int n := by
  rw [List.getElem?_map] at h
  cases e : ns[i]? with
  | none => rw [e] at h; cases h
  | some n => rw [e] at h; exact ⟨n, rfl, (Option.some.inj h).symm⟩
end GN

/-! part G2 -/
set_option Elab.async false
set_option linter.all false
set_option maxRecDepth 100000
set_option maxHeartbeats 4000000
namespace GN
open PySem PySem.Spec L2
open PyProof.Rows hiding St

/-! ### calls by positional promises (FnR); what is raised is wished for at the caller's slots -/
/-- x is a def of the module that keeps sp -/
def Fk (P : Program) (w : World) (K : PySem.W.Frag) (mg : Str → Option Value) (base : Heap) (CX : CXT) (k : Nat) (x : Str) (sp : Sp) : Prop :=
  ∃ f, mg x = some (.ref f) ∧ PySem.W.keepIn K (.ref f) = true ∧ FnR P w K mg base CX k f sp
/-- m is a method of the class at C that keeps sp -/
def Mk2 (P : Program) (w : World) (K : PySem.W.Frag) (mg : Str → Option Value) (base : Heap) (CX : CXT) (k : Nat) (C : Addr) (m : Str) (sp : Sp) : Prop :=
  ∃ f, Meth K C m f ∧ FnR P w K mg base CX k f sp
theorem Fk.mono {P w K mg base CX j k x sp} (F : Fk P w K mg base CX j x sp) (h : j ≤ k) : Fk P w K mg base CX k x sp := by
  obtain ⟨f, a, b, c⟩ := F
  exact ⟨f, a, b, c.mono h⟩
def tCl (sp : Sp) (E : St → XK) (t : TA) : TE := fun σ H Q => t σ H fun vs H1 => sp vs H1 Q (E σ)
def tMt (C : Addr) (m : Str) (sp : Sp) (E : St → XK) (ta : TE) (t : TA) : TE := fun σ H Q => ta σ H fun x H1 => ∃ a dx fs, x = .ref a ∧ H1 a = some (.ins C dx fs) ∧ fs.lookup m = none ∧ t σ H1 fun vs H2 => sp (x :: vs) H2 Q (E σ)
abbrev E00 : St → XK := fun _ _ _ _ => False
section
variable {X : Cx} {CX : CXT} {k : Nat} {f C : Addr} {sp : Sp} {E : St → XK} {x m : Str} {p pos apos : Pos} {e o : Expr} {es : List Expr} {ta : TE} {t : TA}
theorem passAt0 (σ : St) : PassesAt CX0 X σ (E σ) := fun _ _ _ _ _ _ h => h.elim
theorem passAtL (σ : St) : PassesAt (L2.CX X.prog X.w) X σ (fun _ _ _ => False) := fun _ _ _ _ _ _ h => by
  obtain ⟨_, _, _, _, _, _, _, _, _, _, _, _, z⟩ := h
  exact z.elim
theorem run_R {σ : St} {pins : List (Addr × Obj)} {H : Hp} {s : Shared} {Q : VK} {us : List Value} {vs : List V} (F : FnR X.prog X.w X.K X.mg X.base CX k f sp) (hr : Room k X.A) (hx : PassesAt CX X σ (E σ))
    (I : Inv X pins σ H s) (r : Vals vs us) (h : sp vs H Q (E σ)) : wpAny (model X.prog X.w) X.A (call (.ref f) us) (EP X pins σ Q) X.xe s := by
  refine wpAny_call (codeAny_mono (F X.A X.stack s H us vs Q (E σ) hr I.env0 r h) fun r s' hq => ?_)
  cases r with
  | error er => exact hx pins H s er s' I hq
  | ok fl =>
    cases fl with
    | ret u => exact I.after hq
    | next => exact False.elim hq
    | brk => exact False.elim hq
    | cont => exact False.elim hq
/-- x(e, ..) -/
theorem pe_fn (F : Fk X.prog X.w X.K X.mg X.base CX k x sp) (hr : Room k X.A) (hg : Gl X x) (hx : ∀ σ, PassesAt CX X σ (E σ)) (ha : PA X (e :: es) t)
    (hdb : (x == ("__debug__" : Str)) = false := by decide) (he : starEach (e :: es) X.env = (false, eval e X.env) :: starEach es X.env := by rfl) (hpl : (backTo pos (starEach es X.env)).any (·.1) = false := by rfl) :
    PE X (.Call (.Name x p) (e :: es) [] pos) (tCl sp E t) := by
  refine ⟨fun pins s σ H Q I h => ?_⟩
  obtain ⟨f, hm, hk, F⟩ := F
  refine wpAny_Call_Name_kw (ld_glob I hg hm ?_ hdb)
  refine PySem.W.callWith_K (h₀ := X.base) I.ok.mod.kin hk (thn (ha.run pos pins s σ H _ I h) fun us s1 ⟨vs, H1, I1, r, q⟩ => ⟨I1.kIn, ?_⟩) he hpl
  exact run_R F hr (hx σ) I1 r q
/-- o.m(e, ..) -/
theorem pe_mt {pl : Sem Bool} (he : PE X o ta) (c : Cls X.K C) (M : Mk2 X.prog X.w X.K X.mg X.base CX k C m sp) (hr : Room k X.A) (hx : ∀ σ, PassesAt CX X σ (E σ)) (ha : PA X (e :: es) t)
    (hst : starEach (e :: es) X.env = (false, eval e X.env) :: starEach es X.env := by rfl) (hpl : (backTo pos (starEach es X.env)).any (·.1) = false := by rfl)
    (ht : eval (.Call (.Attribute o m apos) (e :: es) [] pos) X.env = (do
      let ov ← eval o X.env
      standAt apos.atName
      let (f, first) ← holding [ov] (getMethod ov m pl)
      callWith pos f first (backTo pos (starEach (e :: es) X.env)) (backToKw pos (keywordEach [] X.env))) := by rfl) :
    PE X (.Call (.Attribute o m apos) (e :: es) [] pos) (tMt C m sp E ta t) := by
  refine ⟨fun pins s σ H Q I h => ?_⟩
  obtain ⟨f, hm, F⟩ := M
  refine PySem.W.methodCall_KW (pl := pl) (thn (he.run pins s σ H _ I h) fun u s1 ⟨x, H1, I1, rx, a, dx, fs, ex, ea, l, q⟩ => ?_) ht
  subst ex
  obtain rfl : u = Value.ref a := rx
  refine getmeth_ok I1 ea c hm l ?_
  refine PySem.W.callWith_K (first := [.ref a]) (h₀ := X.base) I.ok.mod.kin hm.kp (thn (ha.run pos pins s1 σ H1 _ I1 q) fun us s2 ⟨vs, H2, I2, r, q2⟩ => ⟨I2.kIn, ?_⟩) hst hpl
  exact run_R (us := .ref a :: us) (vs := .ref a :: vs) F hr (hx σ) I2 (.cons rfl r) q2
/-- o.m() -/
theorem pe_mt0 {pl : Sem Bool} (he : PE X o ta) (c : Cls X.K C) (M : Mk2 X.prog X.w X.K X.mg X.base CX k C m sp) (hr : Room k X.A) (hx : ∀ σ, PassesAt CX X σ (E σ))
    (ht : eval (.Call (.Attribute o m apos) [] [] pos) X.env = (do
      let ov ← eval o X.env
      standAt apos.atName
      let (f, first) ← holding [ov] (getMethod ov m pl)
      callWith pos f first (backTo pos (starEach [] X.env)) (backToKw pos (keywordEach [] X.env))) := by rfl) :
    PE X (.Call (.Attribute o m apos) [] [] pos) (tMt C m sp E ta tNil) := by
  refine ⟨fun pins s σ H Q I h => ?_⟩
  obtain ⟨f, hm, F⟩ := M
  refine PySem.W.methodCall_KW (pl := pl) (thn (he.run pins s σ H _ I h) fun u s1 ⟨x, H1, I1, rx, a, dx, fs, ex, ea, l, q⟩ => ?_) ht
  subst ex
  obtain rfl : u = Value.ref a := rx
  refine getmeth_ok I1 ea c hm l ?_
  exact PySem.W.callWith_K0 (first := [.ref a]) I1.kIn hm.kp (run_R (us := [.ref a]) (vs := [.ref a]) F hr (hx σ) I1 (.cons rfl .nil) q)
end

/-! ### xs[i] op= e of a list -/
section
variable {X : Cx}
theorem pg_list : PGet X (rIxL X.K) := by
  intro pins s σ H o i ov iv Q I ro ri h
  obtain ⟨p, xs, n, z, rfl, rfl, hq, he, q⟩ := h
  cases ro
  obtain ⟨t, rfl⟩ := ri
  obtain ⟨its, r, pl, hz⟩ := I.list hq
  obtain ⟨j, h1, h2, h3, h4, h5⟩ := atI_get he
  obtain ⟨w, ew, rw'⟩ := r.get h2
  have hl := r.length
  have hn := line63
  have fin : EP X pins σ Q w s := ⟨z, H, I, rw', q⟩
  by_cases h0 : 0 ≤ n
  · have hj : n.toNat = j := by
      rw [seqIndex_of h0 h5] at h1
      exact Option.some.inj h1
    exact wpAny_getItem_list pl.isList h0 (by omega) (by rw [hj]; simpa using ew) fin
  · have hj : (n + (its.toArray.size : Int)).toNat = j := by
      rw [seqIndex_neg (by omega) h4] at h1
      rw [List.size_toArray, ← hl]
      exact Option.some.inj h1
    exact wpAny_getItem_list_neg pl.isList (by omega) (by rw [List.size_toArray] <;> omega) (by omega) (by rw [hj]; simpa using ew) fin
end

/-! ### properties by FnR -/
def Pr2 (P : Program) (w : World) (K : PySem.W.Frag) (mg : Str → Option Value) (base : Heap) (k : Nat) (C : Addr) (f : Str) (sp : Sp) : Prop :=
  ∃ p g, PropOf K C f p g ∧ FnR P w K mg base CX0 k g sp
def tPr (C : Addr) (sp : Sp) (ta : TE) : TE := fun σ H Q => ta σ H fun x H1 => ∃ a dx fs, x = .ref a ∧ H1 a = some (.ins C dx fs) ∧ sp [.ref a] H1 Q (fun _ _ _ => False)
section
variable {X : Cx} {k : Nat} {C : Addr} {f : Str} {sp : Sp} {e : Expr} {pos : Pos} {ta : TE}
theorem pe_pr (he : PE X e ta) (c : Cls X.K C) (hp : Pr2 X.prog X.w X.K X.mg X.base k C f sp) (hr : Room (k + 1) X.A) (hab : attributeBase e f X.env (eval e X.env) = eval e X.env := by rfl) : PE X (.Attribute e f pos) (tPr C sp ta) := by
  refine ⟨fun pins s σ H Q I h => ?_⟩
  obtain ⟨p, g, hp, F⟩ := hp
  refine attr_of hab (thn (he.run pins s σ H _ I h) fun u s1 ⟨x, H1, I1, rx, a, dx, fs, ex, ea, q⟩ => ?_)
  subst ex
  obtain rfl : u = Value.ref a := rx
  obtain ⟨mA, O, _, _, _, _⟩ := ins_get I1.hok ea
  obtain ⟨od, J, _⟩ := O.look
  obtain ⟨rest, hrec⟩ := hp.rec_
  have I2 := I1.tok (s1.toks + 1)
  have hc : (PySem.W.clsIn X.K C).isSome = true := by
    obtain ⟨cd, hc, _⟩ := PySem.W.any_some c.hd
    rw [hc]; rfl
  refine PySem.W.get_bind I1.kIn J (PySem.W.plainGet_of (c.get f)).1 (PySem.W.findObj_data hc hp.at_ hp.get hp.tak) (PySem.W.plainGet_of (c.get f)).2 (wpAny_call (PySem.W.prop_get (s := { s1 with toks := s1.toks + 1 }) I1.kIn hrec ?_))
  refine codeAny_mono (F X.A.in1 X.stack { s1 with toks := s1.toks + 1 } H1 [.ref a] [.ref a] Q (fun _ _ _ => False) hr.in1 I2.env0.in1 (.cons rfl .nil) q) fun r s' hq => ?_
  cases r with
  | error er => exact False.elim hq
  | ok fl =>
    cases fl with
    | ret u =>
      obtain ⟨v, H', I3, rv, q3⟩ := I2.after hq
      show wpAny _ _ (handedOut u) _ _ _
      rw [PySem.W.handedOut_of (handed_of rv)]
      exact wpAny_pure ⟨v, H', I3, rv, q3⟩
    | next => exact False.elim hq
    | brk => exact False.elim hq
    | cont => exact False.elim hq
end

/-! ### len(o), o == q, o != q of own instances -/
/-- what a class has for == and != : its own __eq__ at f, object's __ne__ -/
structure EqIn (K : PySem.W.Frag) (C f : Addr) : Prop where
  eq : PySem.W.findIn K (.ref C) "__eq__" = some (some (.ref f))
  fn : PySem.W.isFn K (.ref f) = true
  ne : PySem.W.findIn K (.ref C) "__ne__" = some (some (.builtin "object.__ne__"))
  ob : PySem.W.mroIn K C (.type "object") = some true
def Eq2 (P : Program) (w : World) (K : PySem.W.Frag) (mg : Str → Option Value) (base : Heap) (k : Nat) (C : Addr) (sp : Sp) : Prop :=
  ∃ f, EqIn K C f ∧ FnR P w K mg base CX0 k f sp
def Len2 (P : Program) (w : World) (K : PySem.W.Frag) (mg : Str → Option Value) (base : Heap) (k : Nat) (C : Addr) (sp : Sp) : Prop :=
  ∃ f, PySem.W.findIn K (.ref C) "__len__" = some (some (.ref f)) ∧ PySem.W.isFn K (.ref f) = true ∧ FnR P w K mg base CX0 k f sp
section
variable {X : Cx} {k : Nat} {C : Addr} {sp : Sp}
theorem fnr_run {A : Around} {pins : List (Addr × Obj)} {σ : St} {H : Hp} {s : Shared} {Q : VK} {us : List Value} {vs : List V} {f : Addr} {E' : Value → Shared → Prop} (F : FnR X.prog X.w X.K X.mg X.base CX0 k f sp) (hr : Room k A) (hA : A.frames = X.A.frames)
    (I : Inv X pins σ H s) (r : Vals vs us) (h : sp vs H Q (fun _ _ _ => False)) : wpAny (model X.prog X.w) A (call (.ref f) us) (EP X pins σ Q) E' s := by
  have e0 : Env0 X.prog X.w X.K X.mg X.base A X.stack s H := by
    have e := I.env0
    exact ⟨by rw [hA]; exact e.frames, e.mod, e.bs, e.bsz, e.funs, e.frf, e.hok, e.bare⟩
  refine wpAny_call (codeAny_mono (F A X.stack s H us vs Q _ hr e0 r h) fun r s' hq => ?_)
  cases r with
  | error er => exact False.elim hq
  | ok fl =>
    cases fl with
    | ret u => exact I.after hq
    | next => exact False.elim hq
    | brk => exact False.elim hq
    | cont => exact False.elim hq
theorem vr1 (a : Addr) : Vals [V.ref a] [Value.ref a] := .cons rfl .nil
theorem vr2 (a b : Addr) : Vals [V.ref a, V.ref b] [Value.ref a, Value.ref b] := .cons rfl (.cons rfl .nil)
/-- len(o) -/
def rLenO (C : Addr) (sp : Sp) : List V → Hp → VK → Prop := fun xs H Q => ∃ a dx fs, xs = [.ref a] ∧ H a = some (.ins C dx fs) ∧ sp [.ref a] H (fun v H' => ∃ n : Int, v = .int n ∧ (0 ≤ n ∧ n < 2 ^ 63) ∧ Q (.int n) H') (fun _ _ _ => False)
theorem call_lenO (L : Len2 X.prog X.w X.K X.mg X.base k C sp) (hr : Room (k + 1) X.A) : CallR X (.builtin "len") (rLenO C sp) := by
  intro pins s σ H xs us Q I r h
  obtain ⟨f, hs, hf, F⟩ := L
  obtain ⟨a, dx, fs, rfl, ea, q⟩ := h
  cases r with
  | cons ra rr =>
    cases rr
    cases ra
    obtain ⟨mA, O, _, _, _, _⟩ := ins_get I.hok ea
    obtain ⟨od, J, _⟩ := O.look
    obtain ⟨m, hF⟩ := I.fr
    refine PySem.W.len_K hF I.ok.mod.kin J hs hf (wpAny_mono (fnr_run F hr.in1 rfl I (vr1 a) q) (fun v s' hv => ?_) fun _ _ z => z)
    obtain ⟨z, H', I', rz, n, ez, hb, q'⟩ := hv
    subst ez
    obtain ⟨tk, rfl⟩ := rz
    exact ⟨hb, .int n, H', I'.tok _, ⟨_, rfl⟩, q'⟩
/-- o == q, both of the class at C -/
def rEqO (C : Addr) (sp : Sp) (neg : Bool) : R2 := fun x y H Q => ∃ a b dx dy fs gs, x = .ref a ∧ y = .ref b ∧ H a = some (.ins C dx fs) ∧ H b = some (.ins C dy gs) ∧
  sp [.ref a, .ref b] H (fun v H' => ∃ c : Bool, v = .bl c ∧ Q (.bl (if neg then !c else c)) H') (fun _ _ _ => False)
theorem op_eqO (L : Eq2 X.prog X.w X.K X.mg X.base k C sp) (hr : Room k X.A) : OpR X (compareOp .Eq) (rEqO C sp false) := by
  intro pins s σ H x y v u Q I rx ry h
  obtain ⟨f, E, F⟩ := L
  obtain ⟨a, b, dx, dy, fs, gs, rfl, rfl, ea, eb, q⟩ := h
  cases rx
  cases ry
  obtain ⟨mA, O, _, _, _, _⟩ := ins_get I.hok ea
  obtain ⟨mB, O', _, _, _, _⟩ := ins_get I.hok eb
  obtain ⟨od, J, _⟩ := O.look
  obtain ⟨od', J', _⟩ := O'.look
  obtain ⟨m, hF⟩ := I.fr
  show wpAny (model X.prog X.w) X.A (richCompare .Eq (.ref a) (.ref b)) (EP X pins σ Q) X.xe s
  refine PySem.W.cmp_K (op := .Eq) (tb := .ref C) hr.units0 hF I.ok.mod.kin J J'.type (by simp [PySem.W.notFirst]) E.eq E.fn (wpAny_mono (fnr_run F hr rfl I (vr2 a b) q) (fun v s' hv => ?_) fun _ _ z => z)
  obtain ⟨z, H', I', rz, c, ez, q'⟩ := hv
  subst ez
  cases rz
  exact ⟨.bl c, H', I', rfl, q'⟩
end
end GN

/-! part G3 -/
set_option Elab.async false
set_option linter.all false
set_option maxRecDepth 100000
set_option maxHeartbeats 4000000
namespace GN
open PySem PySem.Spec L2
open PyProof.Rows hiding St

/-! ### o != q by object's __ne__ over an own __eq__ -/
section
open PySem.W
variable {prog : Program} {w : World} {A : Around} {E : Value → Shared → Prop} {s : Shared} {K : Frag} {x y C f : Addr} {ox oy : Obj} {odx ody : Option Obj}
def BoolB (Q : Value → Shared → Prop) (v : Value) (s' : Shared) : Prop := ∃ c : Bool, v = .bool c ∧ Q (.bool (!c)) s'
theorem slot_ne : Slot "object" "__ne__" "object.__ne__" :=
  .of (owner := "object") (n := "__ne__") (by rw [typeLookup_type, builtinLookup_eq_fast]; kernel_rfl) (by decide +kernel) (by decide +kernel) (by decide +kernel) (by first | exact .inl (by decide +kernel) | exact .inr (by decide +kernel)) (by rw [isSubtype_type]; kernel_rfl)
theorem ne_own {Q : Value → Shared → Prop} (hu : A.units + 1 < cLine) (X : K.In s.heap) (I : PySem.W.InstAt s.heap x ox C odx) (J : PySem.W.InstAt s.heap y oy C ody) (T : EqIn K C f)
    (h : wpAny (model prog w) A.in1 (call (.ref f) [.ref x, .ref y]) (BoolB Q) E s) : wpAny (model prog w) A (richCompare .NotEq (.ref x) (.ref y)) Q E s := by
  have body : wpAny (model prog w) A (call (.builtin "object.__ne__") [.ref x, .ref y]) (fun v s' => v ≠ .notImplemented ∧ Q v s') E s := by
    have sub : PySem.W.Looks (model prog w) s.heap (isInstance (.ref x) (.type "object")) true := I.type.andThen (looks_mroIn X T.ob)
    refine wpAny_call (codeAny_call_builtin slot_ne.plain PySem.F.cmpEntry_ne (@check_slot (model prog w) _ _ s "object.__ne__" "object" "__ne__" (.ref x) [.ref y] [] _ PySem.F.cmpKind_ne PySem.F.cmpSplit_ne sub (PySem.F.cmpArgs_ne _ _) ?_))
    unfold Builtin.«object.__ne__»
    refine wpAny_bind (wpAny_of_eq (a := ((Value.ref x : Value), [Value.ref y])) (by first | rfl | (simp only [slotArgs]; rfl)) ?_)
    refine wpAny_bind (wpAny_cRoomFor (show A.in1.units < cLine from hu) ?_)
    refine wpAny_bind (ifBound_K X I T.eq T.fn (wpAny_mono h (fun v s' hv => ?_) fun _ _ z => z))
    obtain ⟨c, rfl, q⟩ := hv
    exact wpAny_bind (wpAny_truthy_bool (wpAny_pure ⟨(fun z => nomatch z), q⟩))
  have two : wpAny (model prog w) A (callSpecialIfBound? (.ref x) "__ne__" [.ref y]) (fun r s' => ∃ v, r = some v ∧ v ≠ .notImplemented ∧ Q v s') E s := by
    simp only [callSpecialIfBound?, bindSpecialIfBound?]
    have fin : wpAny (model prog w) A (call (.builtin "object.__ne__") ([.ref x] ++ [.ref y]) >>= fun v => pure (some v)) (fun r s' => ∃ v, r = some v ∧ v ≠ .notImplemented ∧ Q v s') E s :=
      wpAny_bind (wpAny_mono body (fun v s' h' => wpAny_pure ⟨v, rfl, h'⟩) fun _ _ z => z)
    refine wpAny_holding (wpAny_bind (wpAny_bind (wpAny_bind (I.type.here ((looks_findIn X T.ne).here ?_)))))
    refine wpAny_bind (wpAny_askSetting (wpAny_ite ?_))
    split
    · exact wpAny_bind (wpAny_of_eq (slot_ne.bind _) (wpAny_pure fin))
    · exact wpAny_tryCatch (wpAny_bind (wpAny_of_eq (slot_ne.bind _) (wpAny_pure fin)))
  have one : wpAny (model prog w) A (tryCompare (.ref x) "__ne__" (.ref y)) (fun r s' => ∃ v, r = some v ∧ Q v s') E s := by
    unfold tryCompare
    refine wpAny_bind (wpAny_mono two (fun r s' z => ?_) fun _ _ z => z)
    obtain ⟨v, rfl, n, q⟩ := z
    cases v <;> first | exact absurd rfl n | exact wpAny_pure ⟨_, rfl, q⟩
  unfold richCompare
  simp only [oneThing_ref]
  refine wpAny_holding (wpAny_bind (wpAny_cRoomFor (by omega) ?_))
  refine wpAny_bind (I.type.here (wpAny_bind (J.type.here ?_)))
  split
  · rename_i q
    simp at q
  · refine wpAny_bind (wpAny_pure ?_)
    simp only [Bool.false_eq_true, if_false]
    refine wpAny_bind (wpAny_mono one (fun r s' z => ?_) fun _ _ e => e)
    obtain ⟨v, rfl, hq⟩ := z
    exact wpAny_pure hq
end
section
variable {X : Cx} {k : Nat} {C : Addr} {sp : Sp}
theorem op_neO (L : Eq2 X.prog X.w X.K X.mg X.base k C sp) (hr : Room (k + 1) X.A) : OpR X (compareOp .NotEq) (rEqO C sp true) := by
  intro pins s σ H x y v u Q I rx ry h
  obtain ⟨f, E, F⟩ := L
  obtain ⟨a, b, dx, dy, fs, gs, rfl, rfl, ea, eb, q⟩ := h
  cases rx
  cases ry
  obtain ⟨mA, O, _, _, _, _⟩ := ins_get I.hok ea
  obtain ⟨mB, O', _, _, _, _⟩ := ins_get I.hok eb
  obtain ⟨od, J, _⟩ := O.look
  obtain ⟨od', J', _⟩ := O'.look
  show wpAny (model X.prog X.w) X.A (richCompare .NotEq (.ref a) (.ref b)) (EP X pins σ Q) X.xe s
  refine ne_own (by have := hr.un; omega) I.kIn J J' E (wpAny_mono (fnr_run F hr.in1 rfl I (vr2 a b) q) (fun v s' hv => ?_) fun _ _ z => z)
  obtain ⟨z, H', I', rz, c, ez, q'⟩ := hv
  subst ez
  cases rz
  exact ⟨c, rfl, .bl (!c), H', I', rfl, q'⟩
end

/-! ### a method that says super(): its body, at the def's own code -/
structure SupScope (N P : List Str) (sc : Scope) : Prop where
  kind : sc.kind = .function
  co : sc.isCoroutine = false
  gen : sc.isGenerator = false
  nd : N.Nodup
  pre : N.take P.length = P
  par : ∀ x ∈ P, sc.names.lookup x = some .local
  nocell : ∀ y ∈ sc.names, y.2 ≠ .cell
  free : ∀ y ∈ sc.names, y.2 = .free → y.1 = "__class__"
def cxS (CX : CXT) (P : Program) (w : World) (K : PySem.W.Frag) (mg : Str → Option Value) (base : Heap) (N : List Str) (qual : Str) (scope : Scope) (f cda cc : Addr) (A : Around) (outer : List Env) (s : Shared) (H : Hp) (E : XK) : Cx where
  prog := P
  w := w
  K := K
  mg := mg
  base := base
  A := A.deeper (PySem.W.ksEnv qual scope s.heap.objs.size f (.ref cda) cc)
  N := N
  s_0 := s
  H_0 := H
  env := PySem.W.ksEnv qual scope s.heap.objs.size f (.ref cda) cc
  outer := outer
  stack := PySem.W.ksEnv qual scope s.heap.objs.size f (.ref cda) cc :: outer
  ex := []
  calm := true
  fn := fun x => !(x == ("__class__" : Str))
  pn := []
  xe := fun e s' => wpAny (model P w) (A.deeper (PySem.W.ksEnv qual scope s.heap.objs.size f (.ref cda) cc)) (leaving (PySem.W.ksEnv qual scope s.heap.objs.size f (.ref cda) cc) e) (fun _ s'' => CX outer H s E e s'') (fun e' s'' => CX outer H s E e' s'') s'
structure PSsA (X : Cx) (b st : List Stmt) (t : TS) : Prop where
  run : ∀ (pins : List (Addr × Obj)) (s : Shared) (σ : St) (H : Hp) (D : Ends), Inv X pins σ H s → t D σ H → _root_.PySem.wpAt (model X.prog X.w) X.A (.func b X.env) (execs st X.env) (SP X pins D) X.xe s
structure PSA (X : Cx) (b : List Stmt) (st : Stmt) (t : TS) : Prop where
  run : ∀ (pins : List (Addr × Obj)) (s : Shared) (σ : St) (H : Hp) (D : Ends), Inv X pins σ H s → t D σ H → _root_.PySem.wpAt (model X.prog X.w) X.A (.func b X.env) (exec st X.env) (SP X pins D) X.xe s
theorem pssA_cons {X : Cx} {b : List Stmt} {st : Stmt} {rest : List Stmt} {t u : TS} (h1 : PSA X b st t) (h2 : PSs X rest u) : PSsA X b (st :: rest) (tSeq t u) := by
  refine ⟨fun pins s σ H D I h => ?_⟩
  refine PySem.ks_wpAt_execs_cons (PySem.ks_wpAt_mono (h1.run pins s σ H { D with nx := u D } I h) (fun f s1 q => ?_) fun _ _ z => z)
  cases f with
  | next =>
    obtain ⟨σ', H', I', q⟩ := q
    exact wpAt_of_wpAny (h2.run pins s1 σ' H' D I' q)
  | ret v => exact q
  | brk => exact q
  | cont => exact q

theorem one_lookup {x : Str} {c c' : Addr} (h : ([("__class__", c)] : List (Str × Addr)).lookup x = some c') : x = "__class__" ∧ c' = c := by
  have hm := PySem.mem_of_lookup h
  rcases List.mem_cons.mp hm with e | e
  · cases e; exact ⟨rfl, rfl⟩
  · cases e
theorem zip_none {y : Str} : ∀ {ps : List Str} {us : List Value}, y ∉ ps → (ps.zip us).reverse.lookup y = none
  | [], _, _ => by simp
  | _ :: _, [], _ => by simp
  | p :: ps, u :: us, h => by
    have h1 : y ≠ p := fun e => h (by simp [e])
    have h2 : y ∉ ps := fun e => h (by simp [e])
    have hb : (y == p) = false := beq_eq_false_iff_ne.mpr h1
    rw [List.zip_cons_cons, List.reverse_cons, List.lookup_append, zip_none h2]
    simp [List.lookup, hb]
theorem zip_some {y : Str} {u : Value} : ∀ {ps : List Str} {us : List Value} {i : Nat}, ps.Nodup → ps[i]? = some y → us[i]? = some u → (ps.zip us).reverse.lookup y = some u
  | [], _, _, _, h, _ => by simp at h
  | _ :: _, [], _, _, _, h => by simp at h
  | p :: ps, w :: us, 0, nd, h1, h2 => by
    simp at h1 h2
    subst h1; subst h2
    rw [List.zip_cons_cons, List.reverse_cons, List.lookup_append, zip_none (List.nodup_cons.mp nd).1]
    simp [List.lookup]
  | p :: ps, w :: us, i + 1, nd, h1, h2 => by
    rw [List.zip_cons_cons, List.reverse_cons, List.lookup_append, zip_some (i := i) (List.nodup_cons.mp nd).2 (by simpa using h1) (by simpa using h2)]
    rfl

/-- THE RULE for such a def -/
theorem fn_sup {CX : CXT} {P : Program} {w : World} {K : PySem.W.Frag} {mg : Str → Option Value} {base : Heap} {k : Nat} {f cda cc D : Addr} {name qual : Str} {params : Arguments} {body : List Stmt} {scope : Scope} {dV kV doc pm ct oc cl : Value} {an od cld : Option Addr}
    {osl csl : Array (Option Value)} {N ps : List Str} {sp : Sp} (lk : K.lookup f = some ⟨oc, od, .func (PySem.W.ksFn name qual params body scope dV kV doc pm an (.ref cda) ct cc), osl⟩) (hcd : PySem.W.codeIn K (.ref cda) qual = true)
    (hcc : K.lookup cc = some ⟨cl, cld, .cell (some (.ref D)), csl⟩) (S : SupScope N ps scope) (len : ∀ vs H Q E, sp vs H Q E → vs.length = ps.length)
    (hbody : ∀ (A : Around) (outer : List Env) (s : Shared) (H : Hp) (vs : List V) (Q : VK) (E : XK), Room k (A.deeper (PySem.W.ksEnv qual scope s.heap.objs.size f (.ref cda) cc)) → sp vs H Q E →
      ∃ t, PSsA (cxS CX P w K mg base N qual scope f cda cc A outer s H E) body body t ∧ t { nx := fun _ H' => Q .non H', rt := Q } (start N vs) H) :
    FnOk P w K mg base CX (k + 1) f (PySem.W.ksFn name qual params body scope dV kV doc pm an (.ref cda) ct cc) ps sp := by
  refine ⟨len, fun A outer s H args us vs Q E hr e0 hb r hsp => ?_⟩
  have hl := len _ _ _ _ hsp
  have KX : K.In s.heap := e0.mod.kin.keeps fun b o e => (e0.bs b o e).1
  have lim : s.heap.NoLimit := e0.mod.nolimit.keeps fun b o e => (e0.bs b o e).1
  have hpl : ps.length ≤ N.length := by have := congrArg List.length S.pre; rw [List.length_take] at this; omega
  have ndP : ps.Nodup := by rw [← S.pre]; exact S.nd.sublist (List.take_sublist _ _)
  refine PySem.ks_codeAny_call_defAt (fd := PySem.W.ksFn name qual params body scope dV kV doc pm an (.ref cda) ct cc) (body := body) (binds := ps.zip us) hr.depth (KX _ _ lk) rfl lim (PySem.W.codeRec_of KX hcd) rfl hb
    S.nocell (fun y hy => S.par y.1 (List.of_mem_zip hy).1) (fun h1 hns hk => ?_) S.co S.gen S.kind
  obtain ⟨t, ht, hq⟩ := hbody A outer s H vs Q E (hr.deeper _) hsp
  have I : Inv (cxS CX P w K mg base N qual scope f cda cc A outer s H E) [] (start N vs) H { s with heap := h1, toks := s.toks + (ps.zip us).length } := by
    have noA : ∀ b : Addr, b ∉ (cxS CX P w K mg base N qual scope f cda cc A outer s H E).ex := fun b z => absurd (show b ∈ ([] : List Addr) from z) (by simp)
    refine ⟨⟨e0.mod, S.kind, rfl, rfl, Nat.le_refl _, fun y z c h1 h2 => (one_lookup h1).1.trans (one_lookup h2).1.symm, fun y hy => ?_, fun y c hf h => ?_, fun _ => hr.hd, Around.frames_deeper e0.frames, .inr ⟨rfl, rfl⟩, fun b z => absurd z (noA b), e0.bs, e0.bsz, fun b _ _ => noA b,
        fun b z => absurd z (noA b), e0.funs, e0.frf⟩,
      rfl, e0.bare, Un.kept hk, ⟨_, hns, fun i y v h1 h2 h3 => ?_⟩, fun y c h => ?_, e0.hok.fresh (Nat.le_refl _), fun y c h => ?_, fun p hp => absurd (show p ∈ ([] : List (Addr × Obj)) from hp) (by simp), e0.hok.kept hk, ?_⟩
    · have hy : scope.names.lookup y = some .cell ∨ scope.names.lookup y = some .free := hy
      rcases hy with hy | hy
      · exact absurd rfl (S.nocell _ (PySem.mem_of_lookup hy))
      · have e := S.free _ (PySem.mem_of_lookup hy) rfl
        have e' : y = "__class__" := e
        subst e'
        exact ⟨cc, rfl⟩
    · obtain ⟨e, _⟩ := one_lookup h
      subst e
      exact absurd (show (!(("__class__" : Str) == "__class__")) = true from hf) (by decide)
    · have hi : i < vs.length := by
        unfold L2.start at h2
        by_cases hi : i < vs.length
        · exact hi
        · rw [List.getElem?_append_right (by simpa using hi), List.getElem?_replicate] at h2
          split at h2 <;> cases h2
      have ha : vs[i]? = some v := by
        unfold L2.start at h2
        rw [List.getElem?_append_left (by simpa using hi), List.getElem?_map] at h2
        cases e : vs[i]? with
        | none => rw [e] at h2; cases h2
        | some a => rw [e] at h2; cases h2; rfl
      obtain ⟨u, hu, rv⟩ := r.get ha
      have hp : ps[i]? = some y := by
        rw [← S.pre, List.getElem?_take_of_lt (by omega)]; exact h1
      exact ⟨u, rv, .inl ⟨S.par y (List.mem_of_getElem? hp), zip_some ndP hp hu⟩⟩
    · obtain ⟨_, e⟩ := one_lookup h
      subst e
      exact ⟨_, _, hk _ _ (KX _ _ hcc), rfl⟩
    · obtain ⟨_, e⟩ := one_lookup h
      subst e
      exact (e0.bs _ _ (e0.mod.kin _ _ hcc)).2
    · unfold L2.start
      show _ = N.length
      rw [List.length_append, List.length_map, List.length_replicate]
      omega
  refine PySem.ks_wpAt_mono (ht.run [] _ (start N vs) H _ I hq) (fun fl s' hs => ?_) fun e s' hs => hs
  have fin : ∀ {σ' : St} {H' : Hp} {v : V} {u : Value}, Inv (cxS CX P w K mg base N qual scope f cda cc A outer s H E) [] σ' H' s' → RelV v u → Q v H' → CE outer P w H s Q u s' :=
    fun {σ' H' v u} J rv q => ⟨v, H', J.os, J.bare, J.base, J.hok, rv, q⟩
  cases fl with
  | ret u =>
    obtain ⟨v, σ', H', J, rv, q⟩ := hs
    exact fin J rv q
  | next =>
    obtain ⟨σ', H', J, q⟩ := hs
    exact fin (v := V.non) (u := Value.none) J rfl q
  | brk =>
    obtain ⟨_, _, _, q⟩ := hs
    exact False.elim q
  | cont =>
    obtain ⟨_, _, _, q⟩ := hs
    exact False.elim q
end GN

/-! part G4 -/
set_option Elab.async false
set_option linter.all false
set_option maxRecDepth 100000
set_option maxHeartbeats 4000000
namespace GN
open PySem PySem.Spec L2
open PyProof.Rows hiding St

/-- what stands behind a super() in the def at f: its code object's file, its class cell, the class at D -/
structure SupF (P : Program) (K : PySem.W.Frag) (f cda cc D : Addr) (sf : Str) : Prop where
  fn : ∃ oc od fd osl ar, K.lookup f = some ⟨oc, od, .func fd, osl⟩ ∧ (fd.params.posonlyargs ++ fd.params.args).head? = some ar ∧ ar.arg = sf
  code : ∃ (vs : Array Value) (file : Str) (tf : Tok) (ccl : Value) (cdd : Option Addr) (ccs : Array (Option Value)), K.lookup cda = some ⟨ccl, cdd, .fields vs, ccs⟩ ∧ vs[2]? = some (.str file tf) ∧ ((P.main.file : Str) == file) = true
  cell : ∃ cl cld csl, K.lookup cc = some ⟨cl, cld, .cell (some (.ref D)), csl⟩
  cls : ∃ cd, PySem.W.clsIn K D = some cd
  top : (P.main.scope.names.lookup ("super" : Str)).isSome = false
  any : PySem.W.nsIn K cStatics "thirdparty.any" = some none
/-- the names of the frame -/
structure SupN (X : Cx) (sf : Str) : Prop where
  sup : X.env.kindOf "super" = some .globalImplicit
  cls : X.env.kindOf "__class__" = some .free
  slf : X.env.kindOf sf = some .local
  ix : X.N[0]? = some sf
  mg : X.mg "super" = none
section
variable {X : Cx} {pins : List (Addr × Obj)} {σ : St} {H : Hp} {s : Shared} {f cda cc D x C : Addr} {self : Str}
/-- the super object -/
theorem sup_obj {b : List Stmt} {p0 p1 : Pos} {attr : Str} {whole : Sem Value} {ox : Obj} {odx : Option Obj} {Q : Value → Shared → Prop} (I : Inv X pins σ H s) (T : SupF X.prog X.K f cda cc D self) (N : SupN X self)
    (hf : X.env.func = some f) (hc : X.env.code = .ref cda) (hcl : X.env.cells.lookup ("__class__" : Str) = some cc) (hx : σ[0]? = some (some (.ref x))) (J : PySem.W.InstAt s.heap x ox C odx) (hsub : PySem.W.mroIn X.K C (.ref D) = some true) (hat : (attr == ("__class__" : Str)) = false)
    (h : ∀ so s', Inv X pins σ H s' → (∀ b o, s.heap.get? b = some o → s'.heap.get? b = some o) → s'.heap.get? so = some (PySem.W.ks_superObj D x C) → Q (.ref so) s') :
    _root_.PySem.wpAt (model X.prog X.w) X.A (.func b X.env) (attributeBase (.Call (.Name "super" p0) [] [] p1) attr X.env whole) Q X.xe s := by
  obtain ⟨oc, od, fd, osl, ar, lf, hp, har⟩ := T.fn
  obtain ⟨vs, file, tf, ccl, cdd, ccs, lc, hvs, hfile⟩ := T.code
  obtain ⟨cl, cld, csl, lcc⟩ := T.cell
  obtain ⟨cdD, hD⟩ := T.cls
  obtain ⟨m, hn, hl⟩ := id I.loc
  obtain ⟨u, ru, lk⟩ := hl 0 self (.ref x) N.ix hx (.inl N.slf)
  obtain rfl : u = Value.ref x := ru
  have hm : m self = some (.ref x) := by
    rcases lk with ⟨_, e⟩ | ⟨k, _⟩
    · exact e
    · rcases k with k | k <;> (rw [N.slf] at k; cases k)
  have KX := I.kIn
  obtain ⟨oD, hD1, hD2⟩ : ∃ oD, s.heap.get? D = some oD ∧ oD.data = .cls cdD := by
    unfold PySem.W.clsIn at hD
    split at hD
    · rename_i c d cd' sl ho
      cases hD
      exact ⟨_, KX _ _ ho, rfl⟩
    · cases hD
  obtain ⟨mb, hb1, hb2⟩ := I.mod.blt
  refine ks_wpAt_super_base N.sup N.cls hat hf (KX _ _ lf) rfl hp hc (KX _ _ lc) rfl hvs hfile T.top ?_
  refine PySem.W.ks_loadName_global I.ok.kind N.sup (Calls.loadGlobal_builtin (by rw [I.ok.glob]; exact I.mod.glob.keeps I.bk) N.mg (by rw [I.ok.blt]; exact hb1.keeps I.bk) ((hb2 "super" (by decide +kernel)).trans PyProof.Rows.Boot.«super») ⟨rfl, ?_⟩)
  refine wpAny_loadName_free I.ok.kind N.cls hcl ⟨_, KX _ _ lcc, rfl⟩ ?_
  rw [har]
  refine wpAny_loadName_local I.ok.kind N.slf hn hm ?_
  obtain ⟨hh, g, d, t, os⟩ := s
  refine ks_wpAny_isType_cls hD1 hD2 ⟨rfl, ?_⟩
  refine ks_wpAny_call_super hD1 hD2 J.at_ J.cls (fun c e => ?_) (PySem.W.looks_mroIn KX hsub) (fun h' e k => ?_)
  · have := J.no
    unfold PySem.W.notCls at this
    rw [e] at this
    exact Bool.noConfusion this
  · exact h _ _ (I.kept (t' := t) k) k e
end

/-! ### super().__init__(e, ..) of an instance -/
def tSup (C D f2 : Addr) (sp : Sp) (E : St → XK) (t : TA) : TS := fun Dd σ H => ∃ x dx fs, σ[0]? = some (some (.ref x)) ∧ H x = some (.ins C dx fs) ∧
  ∀ q, H q = none → t σ (upd H q (.met f2 x)) fun vs H1 => H1 q = some (.met f2 x) ∧ sp (.ref x :: vs) H1 (fun _ H2 => Dd.nx σ H2) (E σ)
theorem ps_sup {X : Cx} {CX : CXT} {k : Nat} {f cda cc D C f2 : Addr} {self : Str} {sp : Sp} {E : St → XK} {b : List Stmt} {p0 p1 apos pos spos : Pos} {e : Expr} {es : List Expr} {t : TA} {pl : Sem Bool}
    (T : SupF X.prog X.K f cda cc D self) (N : SupN X self) (hf : X.env.func = some f) (hc : X.env.code = .ref cda) (hcl : X.env.cells.lookup ("__class__" : Str) = some cc)
    (hsub : PySem.W.mroIn X.K C (.ref D) = some true) (hm : PySem.W.ks_superIn X.K C D "__init__" = some (some (.ref f2))) (ht : PySem.W.typeIn X.K (.ref f2) = some (.type "function")) (hfi : PySem.W.fnIn X.K f2 = true)
    (F : FnR X.prog X.w X.K X.mg X.base CX k f2 sp) (hr : Room k X.A) (hx : ∀ σ, PassesAt CX X σ (E σ)) (ha : PA X (e :: es) t)
    (he : starEach (e :: es) X.env = (false, eval e X.env) :: starEach es X.env := by rfl) (hpl : (backTo pos (starEach es X.env)).any (·.1) = false := by rfl)
    (hq : interactive X.env = false := by rfl) (hs : swapsWith (.Call (.Attribute (.Call (.Name "super" p0) [] [] p1) "__init__" apos) (e :: es) [] pos) none spos.line X.env = pure false := by rfl)
    (hev : eval (.Call (.Attribute (.Call (.Name "super" p0) [] [] p1) "__init__" apos) (e :: es) [] pos) X.env = (do
      let ov ← attributeBase (.Call (.Name "super" p0) [] [] p1) "__init__" X.env (eval (.Call (.Name "super" p0) [] [] p1) X.env)
      standAt apos.atName
      let (f, first) ← holding [ov] (getMethod ov "__init__" pl)
      callWith pos f first (backTo pos (starEach (e :: es) X.env)) []) := by rfl) :
    PSA X b (.Expr (.Call (.Attribute (.Call (.Name "super" p0) [] [] p1) "__init__" apos) (e :: es) [] pos) spos) (tSup C D f2 sp E t) := by
  refine ⟨fun pins s σ H Dd I h => ?_⟩
  obtain ⟨x, dx, fs, h0, hx0, h⟩ := h
  obtain ⟨mA, O, _, _, _, _⟩ := ins_get I.hok hx0
  obtain ⟨od, J, _⟩ := O.look
  refine ks_wpAt_Expr_any (ks_wpAt_MethodCall (pl := pl) (sup_obj I T N hf hc hcl h0 J hsub (by decide) fun so s1 I1 k1 hso => ?_) hev) hq hs
  have J1 : PySem.W.InstAt s1.heap x (PySem.W.instObj C dx) C (some od) := by
    obtain ⟨mA', O', _, _, _, _⟩ := ins_get I1.hok hx0
    obtain ⟨od', J', _⟩ := O'.look
    have e1 : od' = od := by
      have a1 := J'.dict
      have a2 := J.dict
      exact Option.some.inj ((show s1.heap.get? dx = some od' from a1).symm.trans (k1 _ _ (show s.heap.get? dx = some od from a2)))
    rw [← e1]
    exact J'
  have X1 := I1.kIn
  obtain ⟨hh, g, d, tk, os⟩ := s1
  cases hcl' : PySem.W.clsIn X.K C with
  | none => unfold PySem.W.ks_superIn at hm; rw [hcl'] at hm; cases hm
  | some cd =>
    have hm' := hm
    unfold PySem.W.ks_superIn at hm'
    rw [hcl'] at hm'
    obtain ⟨of, hof, hofc⟩ : ∃ of, hh.get? f2 = some of ∧ of.cls = .type "function" := by
      have ht' : (X.K.lookup f2).map (·.cls) = some (.type "function") := ht
      cases z : X.K.lookup f2 with
      | none => rw [z] at ht'; cases ht'
      | some of => rw [z] at ht'; exact ⟨of, X1 _ _ z, Option.some.inj ht'⟩
    refine ks_wpAny_getMethod_super hso (PySem.W.looks_opaque X1 T.any) (l₀ := cd.mro) (fun A Q E s k q => wpAny_bind ((PySem.W.looks_clsIn X1 hcl') A _ E s k (wpAny_pure q))) rfl X1 hm' hof hofc (PySem.W.ks_ne X1 J1 hcl') (by decide) ?_
    have hn : H hh.objs.size = none := I1.hok.fresh (Nat.le_refl _)
    have I2 : Inv X pins σ (upd H hh.objs.size (.met f2 x)) { heap := hh.push { cls := .type "method", data := .fields #[.ref f2, .ref x] }, gens := g, drawn := d, toks := tk + 1, os := os } :=
      I1.laid (t' := tk + 1) (a := hh.objs.size) (o := .met f2 x) (fun b u z => Heap.get?_push_of_some _ z) (Nat.le_refl _)
        (show (hh.push (PySem.W.methodObj (.ref f2) (.ref x))).get? hh.objs.size = some (PySem.W.methodObj (.ref f2) (.ref x)) from Heap.get?_push_size hh rfl)
    show wpAny _ _ (callWith pos (.ref hh.objs.size) [] (backTo pos (starEach (e :: es) X.env)) []) _ _ _
    have hargs := ha.run pos pins _ σ _ _ I2 (h hh.objs.size hn)
    rw [he] at hargs ⊢
    refine callwith_met (X := X) (q := hh.objs.size) (g := f2) (a := x) (by show ((false || (backTo pos (starEach es X.env)).any (·.1)) || false) = false; rw [hpl]; rfl) hfi ?_
    refine Calls.evalArgs_plain (thn hargs fun us s3 ⟨vs, H1, I3, r, hm3, q⟩ => ?_)
    refine ⟨met_P I3 hm3, wpAny_call (PySem.W.method_call (met_P I3 hm3).1 ?_)⟩
    refine codeAny_mono (F X.A X.stack s3 H1 (Value.ref x :: us) (V.ref x :: vs) _ (E σ) hr I3.env0 (.cons rfl r) q) fun r s' hq => ?_
    cases r with
    | error er => exact hx σ pins H1 s3 er s' I3 hq
    | ok fl =>
      cases fl with
      | ret u =>
        obtain ⟨v, H', I', rv, q'⟩ := I3.after hq
        exact ⟨σ, H', I', q'⟩
      | next => exact False.elim hq
      | brk => exact False.elim hq
      | cont => exact False.elim hq
end GN

/-! part G5 -/
set_option Elab.async false
set_option linter.all false
set_option maxRecDepth 100000
set_option maxHeartbeats 4000000
namespace GN
open PySem PySem.Spec L2
open PyProof.Rows hiding St

/-- ValueError.__init__ bound to the exception at x, at q -/
def mwO (q x : Addr) : HO := .ext fun h => h.get? q = some (PySem.W.kxs_mw "ValueError.__init__" x)
theorem mwO_ok {P : Program} {w : World} {H : Hp} {h : Heap} {q x : Addr} (e : h.get? q = some (PySem.W.kxs_mw "ValueError.__init__" x)) : ObjOk P w H h q (mwO q x) :=
  ⟨e, ⟨_, e⟩, fun _ _ z k => k _ z⟩
theorem mwO_at {P : Program} {w : World} {H : Hp} {h : Heap} {q x : Addr} (hok : HOk P w H h) (e : H q = some (mwO q x)) : h.get? q = some (PySem.W.kxs_mw "ValueError.__init__" x) := by
  have z : ObjOk P w H h q (.ext fun h => h.get? q = some (PySem.W.kxs_mw "ValueError.__init__" x)) := hok q _ e
  exact z.1
section
variable {X : Cx} {pins : List (Addr × Obj)} {σ : St} {H : Hp} {s : Shared}
theorem mw_call {u x C : Addr} {us : List Value} {Q : Value → Shared → Prop} (T : OexC X.K C) (I : Inv X pins σ H s) (hu : H u = some (mwO u x)) (e : H x = some (exo x C none)) (hl : us.length ≤ sizeLine)
    (h : ∀ s', Inv X pins σ H s' → Q .none s') : wpAny (model X.prog X.w) X.A (call (.ref u) us) Q X.xe s := by
  obtain ⟨nm, q, N, bs, bm, sn, sub, ab, col, dd, k0, k1, k2, k3, k5, hC, hbm⟩ := T.cls
  obtain ⟨t1, ho⟩ := exo_at I.hok e
  have hm := mwO_at I.hok hu
  have hC' := I.kIn _ _ hC
  obtain ⟨hp, g, d, t, os⟩ := s
  refine wpAny_call (codeAny_of_tree ?_)
  show wpAny _ X.A.in1 (callAny (.ref u) ⟨us, []⟩) _ _ _
  simp only [callAny]
  refine wpAny_bind (wpAny_load hm ?_)
  simp only [PySem.W.kxs_mw, show (Value.type "method-wrapper" == Value.type "method" || Value.type "method-wrapper" == Value.type "builtin_function_or_method" || Value.type "method-wrapper" == Value.type "method-wrapper") = true by decide, if_true]
  refine PySem.W.KFB.if_so (by decide) ?_
  refine wpAny_bind (PySem.W.check_bound_init PySem.F.excBase_ValueError.toExcCallFacts hC' ho rfl ?_)
  refine wpAny_bind (wpAny_pure (wpAny_pure ?_))
  refine ⟨plainId_quiet PySem.F.excBase_ValueError.init.plain _, codeAny_builtin PySem.F.excBase_ValueError.initEntry ?_⟩
  refine PySem.W.exc_init_tree (cls := .ref C) (t0 := t1) (dv := none) (c2 := .none) (c3 := .none) (b4 := .bool false) ho hl fun h' k hx _ => ?_
  have J := I.write (t' := t) (x := x) (e := x) (o := exo x C none) (by rw [e]; exact True.intro) (.inl rfl) k ⟨_, hx⟩ (exo_ok hx)
  have eu : upd H x (exo x C none) = H := by
    funext b
    by_cases hb : b = x
    · rw [hb, upd_same, e]
    · rw [upd_ne hb]
  rw [eu] at J
  exact h _ J
end

/-- super().__init__(e, ..) of an exception that is being made -/
def tSupX (C : Addr) (t : TA) : TS := fun Dd σ H => ∃ x, σ[0]? = some (some (.ref x)) ∧ H x = some (exo x C none) ∧
  ∀ q, H q = none → t σ (upd H q (mwO q x)) fun vs H1 => H1 q = some (mwO q x) ∧ H1 x = some (exo x C none) ∧ vs.length ≤ 1000 ∧ Dd.nx σ H1
theorem ps_supX {X : Cx} {f cda cc D C : Addr} {self : Str} {b : List Stmt} {p0 p1 apos pos spos : Pos} {e : Expr} {es : List Expr} {t : TA} {pl : Sem Bool}
    (T : SupF X.prog X.K f cda cc D self) (N : SupN X self) (O : OexC X.K C) (hf : X.env.func = some f) (hc : X.env.code = .ref cda) (hcl : X.env.cells.lookup ("__class__" : Str) = some cc)
    (hsub : PySem.W.mroIn X.K C (.ref D) = some true) (hm : PySem.W.ks_superIn X.K C D "__init__" = some (some (.builtin "ValueError.__init__"))) (hB : PySem.W.subIn X.K (.ref C) (.type "ValueError") = some true) (ha : PA X (e :: es) t)
    (he : starEach (e :: es) X.env = (false, eval e X.env) :: starEach es X.env := by rfl) (hpl : (backTo pos (starEach es X.env)).any (·.1) = false := by rfl)
    (hq : interactive X.env = false := by rfl) (hs : swapsWith (.Call (.Attribute (.Call (.Name "super" p0) [] [] p1) "__init__" apos) (e :: es) [] pos) none spos.line X.env = pure false := by rfl)
    (hev : eval (.Call (.Attribute (.Call (.Name "super" p0) [] [] p1) "__init__" apos) (e :: es) [] pos) X.env = (do
      let ov ← attributeBase (.Call (.Name "super" p0) [] [] p1) "__init__" X.env (eval (.Call (.Name "super" p0) [] [] p1) X.env)
      standAt apos.atName
      let (f, first) ← holding [ov] (getMethod ov "__init__" pl)
      callWith pos f first (backTo pos (starEach (e :: es) X.env)) []) := by rfl) :
    PSA X b (.Expr (.Call (.Attribute (.Call (.Name "super" p0) [] [] p1) "__init__" apos) (e :: es) [] pos) spos) (tSupX C t) := by
  refine ⟨fun pins s σ H Dd I h => ?_⟩
  obtain ⟨x, h0, hx0, h⟩ := h
  obtain ⟨t0, ho⟩ := exo_at I.hok hx0
  have J : PySem.W.InstAt s.heap x _ C none := ⟨ho, rfl, rfl, trivial⟩
  refine ks_wpAt_Expr_any (ks_wpAt_MethodCall (pl := pl) (sup_obj I T N hf hc hcl h0 J hsub (by decide) fun so s1 I1 k1 hso => ?_) hev) hq hs
  have J1 : PySem.W.InstAt s1.heap x _ C none := ⟨k1 _ _ ho, rfl, rfl, trivial⟩
  have X1 := I1.kIn
  have hI : PySem.W.Looks (model X.prog X.w) s1.heap (isInstance (.ref x) (.type "ValueError")) true := J1.type.andThen (PySem.W.looks_subIn X1 hB)
  obtain ⟨hh, g, d, tk, os⟩ := s1
  cases hcl' : PySem.W.clsIn X.K C with
  | none => unfold PySem.W.ks_superIn at hm; rw [hcl'] at hm; cases hm
  | some cd =>
    have hm' := hm
    unfold PySem.W.ks_superIn at hm'
    rw [hcl'] at hm'
    refine PySem.W.kxs_getMethod PySem.W.kxs_ValueError hso (PySem.W.looks_opaque X1 T.any) (l₀ := cd.mro) (fun A Q E s k q => wpAny_bind ((PySem.W.looks_clsIn X1 hcl') A _ E s k (wpAny_pure q))) rfl X1 hm' hI (PySem.W.ks_ne X1 J1 hcl') (by decide) ?_
    have hn : H hh.objs.size = none := I1.hok.fresh (Nat.le_refl _)
    have I2 : Inv X pins σ (upd H hh.objs.size (mwO hh.objs.size x)) { heap := hh.push (PySem.W.kxs_mw "ValueError.__init__" x), gens := g, drawn := d, toks := tk + 1, os := os } :=
      I1.laid (t' := tk + 1) (a := hh.objs.size) (o := mwO hh.objs.size x) (fun b u z => Heap.get?_push_of_some _ z) (Nat.le_refl _) (mwO_ok (Heap.get?_push_size hh rfl))
    show wpAny _ _ (callWith pos (.ref hh.objs.size) [] (backTo pos (starEach (e :: es) X.env)) []) _ _ _
    have hargs := ha.run pos pins _ σ _ _ I2 (h hh.objs.size hn)
    rw [he] at hargs ⊢
    refine PySem.W.kxs_callWith (i := "ValueError.__init__") (x := x) (by show (false || (backTo pos (starEach es X.env)).any (·.1)) = false; rw [hpl]; rfl) ?_
    refine Calls.evalArgs_plain (thn hargs fun us s3 ⟨vs, H1, I3, r, hm3, hx3, hlen, q⟩ => ?_)
    refine ⟨mwO_at I3.hok hm3, ?_⟩
    refine mw_call (us := [] ++ us) O I3 hm3 hx3 (by rw [List.nil_append, ← r.length, sizeLine_eq]; omega) fun s' I' => ⟨σ, H1, I', q⟩
end GN

/-! part G6 -/
set_option Elab.async false
set_option linter.all false
set_option maxRecDepth 100000
set_option maxHeartbeats 4000000
namespace GN
open PySem PySem.Spec L2
open PyProof.Rows hiding St

section
variable {X : Cx} {pins : List (Addr × Obj)} {σ : St} {H3 : Hp} {s3 : Shared} {scope : Scope} {fp : List Addr} {E : XK}
/-- what a callee lets out within a comprehension's block goes on in the def's own frame -/
theorem blk_pass {ce : Env} (I3 : Inv X pins σ H3 s3) (hce : ce.locals = s3.heap.objs.size) (hcf : ce.frame = X.env.frame) (f3 : ∀ b ∈ fp, FpOk X pins H3 b ∧ b < s3.heap.objs.size) (hs : X.stack = X.env :: X.outer) (hf : X.env.frame = some X.env.locals)
    (tk : Takes X (fun cls d _ H => E cls d H)) (σ' : St) :
    PassesAt (L2.CX X.prog X.w) ((X.blk s3 H3 scope ce fp).wish (notedBy (model X.prog X.w) X.A ce (CompFails (model X.prog X.w) X.A X.xe ce))) σ' E := by
  intro pins' H4 s4 e s' J c
  obtain ⟨a, B, H', cls, d, rfl, fl, hok, ub, na, os, ag, hE⟩ := c
  have fl : HandSPX.FlyingZ B X.stack a (Zc cls d) s'.heap := fl
  have ub : UB (frs X.stack) H4 H' s4.heap B s'.heap := ub
  have bs : Un (frs X.stack) fp H3 H4 s3.heap s4.heap := J.base
  have hfr : X.A.frames = some (X.env :: X.outer) := by rw [I3.ok.frames, hs]
  -- the block's own names, at C
  obtain ⟨m, hn4, _⟩ := id J.loc
  have hn4 : s4.heap.Ns ce.locals m := hn4
  obtain ⟨oC, esC, epC, hC4, hdC, restC⟩ := id hn4
  have n4 : H4 ce.locals = none := J.free
  have lt3 : ∀ {b : Addr} {o : Obj}, s3.heap.get? b = some o → b ≠ ce.locals := fun {b o} z q => by
    have := Heap.lt_size z
    rw [q, hce] at this
    exact Nat.lt_irrefl _ this
  have nF : ce.locals ∉ frs X.stack := fun z => by
    obtain ⟨_, o, ho, _⟩ := I3.stack.mem z
    exact lt3 ho rfl
  have hCB : B.get? ce.locals = some oC := ub.keep _ _ hC4 n4 nF
  have hC' : s'.heap.get? ce.locals = some oC := fl.1 _ _ hCB
  have n' : H' ce.locals = none := ub.free _ _ hC4 n4
  -- the ground without C, the state without C and without the exception
  obtain ⟨B', g1, g2⟩ := restrict B fun b => decide (b ≠ ce.locals)
  have gB : ∀ {b : Addr} {o : Obj}, B'.get? b = some o → B.get? b = some o ∧ b ≠ ce.locals := fun {b o} z => by
    by_cases hb : b = ce.locals
    · rw [g2 b (by simp [hb])] at z; cases z
    · rw [g1 b (by simp [hb])] at z; exact ⟨z, hb⟩
  have gI : ∀ {b : Addr} {o : Obj}, B.get? b = some o → b ≠ ce.locals → B'.get? b = some o := fun {b o} z hb => by rw [g1 b (by simp [hb])]; exact z
  have st' : B'.StaysIn s'.heap := fun b o z => fl.1 b o (gB z).1
  obtain ⟨G, k1, k2⟩ := restrict s'.heap fun b => (B'.get? b).isSome || decide (b ∈ frs X.stack)
  have GB : ∀ {b : Addr} {o : Obj}, B'.get? b = some o → G.get? b = some o := fun {b o} z => by
    rw [k1 b (by simp [z])]
    exact st' b o z
  have GF : ∀ {b : Addr}, b ∈ frs X.stack → G.get? b = s'.heap.get? b := fun {b} z => k1 b (by simp [z])
  have oG : ∀ {b : Addr} {o : Obj}, G.get? b = some o → s'.heap.get? b = some o ∧ ((B'.get? b).isSome = true ∨ b ∈ frs X.stack) := fun {b o} z => by
    cases q : ((B'.get? b).isSome || decide (b ∈ frs X.stack)) with
    | false => rw [k2 b q] at z; cases z
    | true =>
      rw [k1 b q] at z
      exact ⟨z, by simpa [Bool.or_eq_true] using q⟩
  have un : Un (frs X.stack) fp H3 H' s3.heap G := {
    keep := fun b o z n hb hx => GB (gI (ub.keep b o (bs.keep b o z n hb hx) (bs.free b o z n hx) hb) (lt3 z))
    slot := fun b o z n hb hx => by
      obtain ⟨sl, e1⟩ := bs.slot b o z n hb hx
      obtain ⟨sl', e2⟩ := ub.slot b _ e1 hb
      exact ⟨sl', by rw [GF hb]; exact e2⟩
    free := fun b o z n hx => by
      obtain ⟨o', e1⟩ := bs.there b o z hx
      exact ub.free b o' e1 (bs.free b o z n hx)
    there := fun b o z hx => by
      obtain ⟨o', e1⟩ := bs.there b o z hx
      by_cases hb : b ∈ frs X.stack
      · obtain ⟨sl, e2⟩ := ub.slot b o' e1 hb
        exact ⟨_, by rw [GF hb]; exact e2⟩
      · obtain ⟨o2, e2⟩ := ub.there b o' e1 hb
        exact ⟨o2, GB (gI e2 (lt3 z))⟩
    tups := fun b xs z => ub.tups b xs (bs.tups b xs z)
    frzs := fun b o xs z => ub.frzs b o xs (bs.frzs b o xs z)
    tbls := fun b ps z => by
      obtain ⟨m1, e1⟩ := bs.tbls b ps z
      obtain ⟨m2, e2⟩ := ub.tbls b _ e1
      exact ⟨m1 ++ m2, by rw [e2, Array.append_assoc]⟩ }
  have hokG : HOk X.prog X.w H' G := fun b o z => (hok b o z).stay (fun c v hc q => GB (gI q fun y => by
    rcases hc with hc | hc
    · rw [← hc, y, n'] at z; cases z
    · rw [y, n'] at hc; cases hc)) (fun _ q => q) fun _ _ q => q
  have I' : Inv X pins σ H' { s3 with heap := G, gens := s'.gens, drawn := s'.drawn, toks := s'.toks } :=
    I3.call (ch := fp) un hokG ag fun b hb => ⟨(f3 b hb).1.2.2.2.1, (f3 b hb).1.2.1, (f3 b hb).1.2.2.2.2.1, (f3 b hb).1.2.2.2.2.2⟩
  have fl' : HandSPX.FlyingZ B' (X.env :: X.outer) a (Zc cls d) s'.heap := by
    obtain ⟨_, q1, q2, oe, vs, T, oT, ts, z1, z2, z3, z4, z5, z6⟩ := fl
    refine ⟨st', ?_, ?_, oe, vs, T, oT, ts, z1, z2, z3, z4, ?_, z6⟩
    · cases y : B'.get? a with
      | none => rfl
      | some o => rw [(gB y).1] at q1; cases q1
    · rw [← hs]
      refine funFrames_none q2 fun L hL => ?_
      cases y : B'.get? L with
      | none => rfl
      | some o =>
        have := (q2.mem hL).1
        rw [(gB y).1] at this
        cases this
    · cases y : B'.get? T with
      | none => rfl
      | some o => rw [(gB y).1] at z5; cases z5
  -- noted, the block let go, thrown again
  show wpAny (model X.prog X.w) X.A (noteFrame (.ref a) ce) _ _ s'
  rw [noteFrame_env _ hcf]
  refine HandSPX.looks_onZ Zc.steady hfr hf fl' fun h1 hh up => ?_
  have ns' : s'.heap.Ns ce.locals m := ⟨oC, esC, epC, hC', hdC, restC⟩
  obtain ⟨slC, e1C⟩ := up _ _ hC' fun vs q => by rw [hdC] at q; cases q
  have ns1 : h1.Ns ce.locals m := ⟨_, esC, epC, e1C, hdC, restC⟩
  refine ⟨m, ns1, fun h2 m2 hn2 hs2 => ?_⟩
  have hh2 : HandSPX.HeldZ B' (X.env :: X.outer) a (Zc cls d) X.env.locals h2 := by
    obtain ⟨q0, q1, q2, oe, vs, T, oT, ts, z1, z2, z3, z4, z5, z6, z7, z8, z9⟩ := hh
    have nf : ∀ {b : Addr} {o : Obj} {vs : Array Value}, h1.get? b = some o → o.data = .fields vs → b ≠ ce.locals := fun {b o vs} z dd y => by
      rw [y, e1C] at z
      cases z
      rw [show ({ oC with slots := slC } : Obj).data = oC.data from rfl, hdC] at dd
      cases dd
    exact ⟨fun b o z => (hs2.2 b (gB z).2).trans (q0 b o z), q1, Heap.FunFrames.sameBut hs2 hn2 q2, oe, vs, T, oT, ts, (hs2.2 a (nf z1 z3)).trans z1, z2, z3, z4, z5, z6, (hs2.2 T (nf z7 z8)).trans z7, z8, z9⟩
  unfold PySem.passOn
  obtain ⟨_, _, _, oe, vs, T, oT, ts, z1, z2, z3, z4, _⟩ := id hh2
  refine wpAny_bind (wpAny_field z1 z3 z4 ?_)
  rw [if_neg (show ¬ ((Value.ref T == Value.none) = true) from by simp)]
  have fin : wpAny (model X.prog X.w) X.A (setFlight (.ref a) ce.frame) (fun _ s5 => wpAny (model X.prog X.w) X.A (throw (.ref a) : Sem Value) (fun _ _ => False) X.xe s5) X.xe { s' with heap := h2 } := by
    rw [hcf, hf]
    refine HandSPX.setFlight_onZ hh2 fun h5 hh5 up5 => wpAny_throw (tk _ _ ?_)
    refine ⟨a, B', _, pins, σ, H', cls, d, rfl, I', fun b o z hb => ?_, fun b o z hnf => ?_, .inr (.inr (by rw [hs]; exact hh5)), na, os.trans J.os, ag, hE⟩
    · obtain ⟨z2, z3⟩ := oG z
      rcases z3 with z3 | z3
      · obtain ⟨o', q⟩ := Option.isSome_iff_exists.mp z3
        have y := st' b o' q
        rw [z2] at y; cases y
        exact q
      · exact absurd z3 hb
    · obtain ⟨z2, z3⟩ := oG z
      have hb : b ≠ ce.locals := by
        rcases z3 with z3 | z3
        · obtain ⟨o', q⟩ := Option.isSome_iff_exists.mp z3
          exact (gB q).2
        · exact fun y => nF (y ▸ z3)
      obtain ⟨sl1, y1⟩ := up b o z2 hnf
      have y2 := (hs2.2 b hb).trans y1
      obtain ⟨sl2, y3⟩ := up5 b _ y2 hnf
      exact ⟨sl2, y3⟩
  first
    | exact wpAny_bind (wpAny_pure (wpAny_bind fin))
    | exact wpAny_bind fin
end

section
variable {X : Cx}
/-- [elt for tg in iter] as a value, where calls in elt may raise as E says -/
theorem pe_lcX {elt tg iter : Expr} {ifs : List Expr} {scope : Scope} {own : List (Str × Nat)} {pos : Pos} {wi : TI} {g : TG} {tt : TT} {te : TE} {E : XK} (hc : X.calm = true) (hN : X.N.Nodup) (hst : X.stack = X.env :: X.outer) (hf : X.env.frame = some X.env.locals)
    (tk : Takes X (fun cls d _ H => E cls d H)) (hi : PI X tg iter wi) (ok : BlkOk X.N X.env.scope scope own)
    (hg : ∀ (s : Shared) (H : Hp) (C : Addr) (cl : List (Str × Addr)) (fp : List Addr), PG (X.blk s H scope (compEnvC scope cl C X.env) fp) tg g) (ht : ∀ (s : Shared) (H : Hp) (C : Addr) (cl : List (Str × Addr)) (fp : List Addr), PTs (X.blk s H scope (compEnvC scope cl C X.env) fp) ifs tt)
    (he : ∀ (s : Shared) (H : Hp) (C : Addr) (cl : List (Str × Addr)) (fp : List Addr) (xe : Value → Shared → Prop), (∀ σ', PassesAt (L2.CX X.prog X.w) ((X.blk s H scope (compEnvC scope cl C X.env) fp).wish xe) σ' E) →
      PE ((X.blk s H scope (compEnvC scope cl C X.env) fp).wish xe) elt te) (hs : ∀ x, foldedSetIterable iter X.env x = pure x := by intro _; rfl) :
    PE X (.ListComp elt [⟨tg, iter, ifs, 0⟩] scope pos) (tLc wi g tt te (own.map (·.2))) := by
  refine ⟨fun pins s σ H Q I h => ?_⟩
  rw [eval_ListComp]
  have hfree : ∀ y ∈ scope.names, y.2 = .free → ∃ c, X.env.cells.lookup y.1 = some c := fun y hy e => by
    rcases ok.free y hy e with k | k
    · exact I.ok.has _ (.inl k)
    · exact I.ok.has _ (.inr k)
  refine comprehension_at rfl hs (closure_ok hfree) ok.kind (fun y hy e => by rw [ok.uniq y hy, e]) (thn (hi.run pins s σ H _ I h) fun xv s1 hx => thn hx fun itv s2 h2 => ?_)
  obtain ⟨it, fp, tn, J, H2, rfl, I2, T, st2, f2, q⟩ := h2
  refine wpAny_newObj_type (newEnv_comp ?_) (by show 0 ≤ sizeLine; decide)
  generalize hD : s2.heap.objs.size = D
  have hDn : H2 D = none := I2.hok.fresh (Nat.le_of_eq hD)
  obtain ⟨W, ⟨m0, w0⟩, turn⟩ := q D hDn
  generalize hs3 : ({ s2 with heap := s2.heap.push { cls := .type "list", data := .seq ([] : List Value).toArray } } : Shared) = s3
  have h3 : s3.heap = s2.heap.push { cls := .type "list", data := .seq ([] : List Value).toArray } := by rw [← hs3]
  have I3 : Inv X pins σ (upd H2 D (.lst [])) s3 := by
    rw [← hs3]
    refine I2.laid (t' := s2.toks) (fun b o e => Heap.get?_push_of_some _ e) (Nat.le_of_eq hD) ⟨Nat.zero_le _, [], 0, .nil, ?_⟩
    rw [← hD]
    exact Heap.get?_push_size _ rfl
  have old : ∀ b ∈ fp, b < s2.heap.objs.size := fun b hb => by
    obtain ⟨o, e, _⟩ := T.obj _ _ st2 b hb
    exact Heap.lt_size e
  have f3 : ∀ b ∈ fp, FpOk X pins (upd H2 D (.lst [])) b ∧ b < s3.heap.objs.size := fun b hb => by
    have hlt := old b hb
    refine ⟨⟨?_, (f2 b hb).2⟩, by rw [h3, Heap.size_push]; exact Nat.lt_succ_of_lt hlt⟩
    rw [upd_ne (by rw [← hD]; exact Nat.ne_of_lt hlt)]
    exact (f2 b hb).1
  have st3 : tn 0 s3.heap := T.keep _ _ _ st2 fun b _ o e => by rw [h3]; exact Heap.get?_push_of_some _ e
  have I4 := block_start I3 ok hN f3
  generalize hcl : cellsFrom (s3.heap.objs.size + 1) scope.names (cloFrom X.env.cells scope.names []) = cl at I4
  show codeAny _ _ (.compStart (.ListComp elt [⟨tg, iter, ifs, 0⟩] scope pos) 0 (.ref it) (.ref D) (compEnvC scope cl s3.heap.objs.size X.env))
    (compEnds (model X.prog X.w) X.A X.xe none (EP X pins σ Q) (.ref D) (compEnvC scope cl s3.heap.objs.size X.env)) { s3 with heap := pushCells (s3.heap.push { cls := .type "dict", data := .dict #[] }) scope.names }
  have nfp : ∀ b ∈ fp, (upd H2 D (.lst [])) b = none := fun b hb => (f3 b hb).1.1
  generalize hH3 : upd H2 D (.lst []) = H3 at I3 I4 w0 nfp f3
  generalize hs4 : ({ s3 with heap := pushCells (s3.heap.push { cls := .type "dict", data := .dict #[] }) scope.names } : Shared) = s4 at I4 ⊢
  have st4 : tn 0 s4.heap := T.keep _ _ _ st3 fun b _ o e => by rw [← hs4]; exact pushCells_keeps _ _ _ _ (Heap.get?_push_of_some _ e)
  have pg := hg s3 H3 s3.heap.objs.size cl fp
  have pt := ht s3 H3 s3.heap.objs.size cl fp
  have pe := he s3 H3 s3.heap.objs.size cl fp _ (blk_pass (scope := scope) I3 (ce := compEnvC scope cl s3.heap.objs.size X.env) rfl rfl f3 hst hf tk)
  have cL : (compEnvC scope cl s3.heap.objs.size X.env).locals = s3.heap.objs.size := rfl
  generalize compEnvC scope cl s3.heap.objs.size X.env = ce at I4 pg pt pe cL ⊢
  have stat : ∀ {σ' : St} {H' : Hp} {s' : Shared}, Inv (X.blk s3 H3 scope ce fp) [] σ' H' s' → (∀ b ∈ fp, H' b = none) → ∀ b ∈ fp, FpOk (X.blk s3 H3 scope ce fp) [] H' b := fun {σ' H' s'} I' hn b hb =>
    ⟨hn b hb, (I'.ok.exf b hb).1, I'.ok.exfs b hb, .inl hb, fun x c e => (I'.ok.exf b hb).2 x c e, fun p hp => absurd (show p ∈ ([] : List (Addr × Obj)) ++ [] from hp) (by simp)⟩
  have loop : codeAny (model X.prog X.w) X.A (.compLoop (.ListComp elt [⟨tg, iter, ifs, 0⟩] scope pos) 0 (.ref it) (.ref D) ce) (compEnds (model X.prog X.w) X.A X.xe none (EP X pins σ Q) (.ref D) ce) s4 := by
    refine compLoop_any (fun n s' => ∃ i H', Inv (X.blk s3 H3 scope ce fp) [] (wipe σ (own.map (·.2))) H' s' ∧ tn i s'.heap ∧ (∀ b ∈ fp, H' b = none) ∧ W i n H') ?_ m0 ⟨0, H3, I4, st4, nfp, w0⟩
    rintro n s5 ⟨i, H5, I5, st5, n5, w5⟩
    rcases turn i n H5 w5 with ⟨stop, qq⟩ | ⟨go, Nx, hNx, step⟩
    · refine thnF (T.done (X.blk s3 H3 scope ce fp) rfl rfl rfl hc i [] s5 _ H5 (fun _ _ => False) I5 (stat I5 n5) st5 stop) fun r s6 ⟨hr, I6⟩ => ?_
      subst hr
      have I7 : Inv X pins σ H5 s6 := I3.call' (ch := fp) I6.os I6.base I6.hok I6.bare fun b hb => ⟨(f3 b hb).1.2.2.2.1, (f3 b hb).1.2.1, (f3 b hb).1.2.2.2.2.1, (f3 b hb).1.2.2.2.2.2⟩
      have nC : H5 ce.locals = none := I6.free
      obtain ⟨m, hn, _⟩ := I6.loc
      have hn : s6.heap.Ns ce.locals m := hn
      obtain ⟨f0, f1, f2', f3', f4, f5⟩ := I3.fpOk (H' := H5) (b := ce.locals) (by rw [cL]; exact Nat.le_refl _) nC
      exact ⟨m, hn, fun h'' sb => ⟨.ref D, H5, I7.turned (t' := s6.toks) (fun b o hb e => (sb.2 b hb).trans e) f0 f1 f3' f4 f5, rfl, qq⟩⟩
    · refine thnF (T.item (X.blk s3 H3 scope ce fp) rfl rfl rfl hc i [] s5 _ H5 (fun _ _ => False) I5 (stat I5 n5) st5 go) fun r s6 ⟨u, hr, h6⟩ => ?_
      subst hr
      refine thnF h6 fun _ s7 ⟨x, H7, I7, r7, y7, st7, n7⟩ => ?_
      have I7' := I7.pinned (stat I7 n7) (T.obj _ _ st7)
      refine thnF (pg.run _ s7 _ H7 x u _ I7' r7 (step x H7 y7)) fun _ s8 ⟨σ8, H8, I8, hw8, q8⟩ => ?_
      refine thnF (pt.run _ s8 σ8 H8 _ I8 q8) fun b s9 ⟨H9, I9, q9⟩ => ?_
      have fin : ∀ {s' : Shared} {H' : Hp}, Inv (X.blk s3 H3 scope ce fp) ([] ++ pinsAt fp s7.heap) σ8 H' s' → Nx H' → ∃ m, m < n ∧ ∃ i H', Inv (X.blk s3 H3 scope ce fp) [] (wipe σ (own.map (·.2))) H' s' ∧ tn i s'.heap ∧ (∀ b ∈ fp, H' b = none) ∧ W i m H' := fun {s' H'} I' nx => by
        obtain ⟨m', hm, w'⟩ := hNx H' nx
        have pin' : ∀ b ∈ fp, ∀ o, s7.heap.get? b = some o → s'.heap.get? b = some o ∧ H' b = none := fun b hb o e =>
          let z := I'.pin (b, o) (List.mem_append_right _ (List.mem_append_right _ (mem_pinsAt hb e)))
          ⟨z.1, z.2.1⟩
        refine ⟨m', hm, i + 1, H', (I'.unpinned (pins := [])).weak (by rw [← hw8, wipe_length]) (fun j v e => by rw [← hw8] at e; exact (wipe_some e).1), T.keep _ _ _ st7 fun b hb o e => (pin' b hb o e).1, fun b hb => ?_, w'⟩
        obtain ⟨o, e, _⟩ := T.obj _ _ st7 b hb
        exact (pin' b hb o e).2
      cases b with
      | false =>
        simp only [Bool.false_eq_true, if_false] at q9 ⊢
        exact fin I9 q9
      | true =>
        simp only [if_true] at q9 ⊢
        refine thn (pe.run _ s9 σ8 H9 _ (I9.wish _) q9) fun z s10 ⟨yv, H10, I10, r10, acc, hD10, hz10, nx⟩ => ?_
        exact app_ok (X := X.blk s3 H3 scope ce fp) I10.unwish hD10 hz10 r10 fun s11 I11 => fin I11 nx
  exact codeAny_compStart_list loop (T.self X.A 0 _ _ _ st4 loop)
end
end GN

/-! part G7 -/
set_option Elab.async false
set_option linter.all false
set_option maxRecDepth 100000
set_option maxHeartbeats 4000000
namespace GN
open PySem PySem.Spec L2
open PyProof.Rows hiding St

/-! ### sorted(set(xs)), xs a list of ints -/
/-- the members of xs, ascending, each once -/
def ins (n : Int) : List Int → List Int
  | [] => [n]
  | m :: r => if n < m then n :: m :: r else if n = m then m :: r else m :: ins n r
def kset : List Int → List Int
  | [] => []
  | n :: r => ins n (kset r)
theorem mem_ins {n k : Int} : ∀ {l : List Int}, k ∈ ins n l ↔ k = n ∨ k ∈ l
  | [] => by simp [ins]
  | m :: r => by
    unfold ins
    split
    · simp
    · split
      · rename_i h; subst h; simp
      · have ih := mem_ins (n := n) (k := k) (l := r)
        simp only [List.mem_cons, ih]
        constructor
        · rintro (h | h | h) <;> simp [h]
        · rintro (h | h | h) <;> simp [h]
theorem mem_kset {k : Int} : ∀ {l : List Int}, k ∈ kset l ↔ k ∈ l
  | [] => by simp [kset]
  | n :: r => by
    show k ∈ ins n (kset r) ↔ _
    rw [mem_ins, mem_kset, List.mem_cons]
theorem asc_ins {n : Int} : ∀ {l : List Int}, l.Pairwise (· < ·) → (ins n l).Pairwise (· < ·)
  | [], _ => by simp [ins]
  | m :: r, h => by
    obtain ⟨h1, h2⟩ := List.pairwise_cons.mp h
    unfold ins
    split
    · rename_i hn
      refine List.pairwise_cons.mpr ⟨fun k hk => ?_, h⟩
      rcases List.mem_cons.mp hk with e | hk
      · rw [e]; exact hn
      · exact Int.lt_trans hn (h1 k hk)
    · split
      · exact h
      · rename_i h3 h4
        refine List.pairwise_cons.mpr ⟨fun k hk => ?_, asc_ins h2⟩
        rcases mem_ins.mp hk with e | hk
        · rw [e]; omega
        · exact h1 k hk
theorem asc_kset : ∀ l : List Int, (kset l).Pairwise (· < ·)
  | [] => List.Pairwise.nil
  | _ :: r => asc_ins (asc_kset r)
theorem len_ins (n : Int) : ∀ l : List Int, (ins n l).length ≤ l.length + 1
  | [] => by simp [ins]
  | m :: r => by
    unfold ins
    split
    · simp
    · split
      · simp
      · have := len_ins n r
        simp only [List.length_cons]
        omega
theorem len_kset : ∀ l : List Int, (kset l).length ≤ l.length
  | [] => Nat.le_refl _
  | n :: r => by
    have h1 := len_ins n (kset r)
    have h2 := len_kset r
    show (ins n (kset r)).length ≤ _
    rw [List.length_cons]
    omega
/-- two ascending lists of the same members are one -/
theorem asc_same : ∀ {xs ys : List Int}, xs.Pairwise (· < ·) → ys.Pairwise (· < ·) → (∀ k, k ∈ xs ↔ k ∈ ys) → xs = ys
  | [], [], _, _, _ => rfl
  | [], y :: _, _, _, h => by
    have := (h y).mpr List.mem_cons_self
    cases this
  | x :: _, [], _, _, h => by
    have := (h x).mp List.mem_cons_self
    cases this
  | x :: xs, y :: ys, h1, h2, h => by
    obtain ⟨a1, a2⟩ := List.pairwise_cons.mp h1
    obtain ⟨b1, b2⟩ := List.pairwise_cons.mp h2
    have e : x = y := by
      rcases List.mem_cons.mp ((h x).mp List.mem_cons_self) with e | m1
      · exact e
      · rcases List.mem_cons.mp ((h y).mpr List.mem_cons_self) with e | m2
        · exact e.symm
        · have := a1 y m2
          have := b1 x m1
          omega
    subst e
    refine congrArg _ (asc_same a2 b2 fun k => ⟨fun m => ?_, fun m => ?_⟩)
    · rcases List.mem_cons.mp ((h k).mp (List.mem_cons_of_mem _ m)) with e | m'
      · have := a1 k m
        omega
      · exact m'
    · rcases List.mem_cons.mp ((h k).mpr (List.mem_cons_of_mem _ m)) with e | m'
      · have := b1 k m
        omega
      · exact m'
theorem kset_same {xs ys : List Int} (h : ∀ k, k ∈ xs ↔ k ∈ ys) : kset xs = kset ys :=
  asc_same (asc_kset _) (asc_kset _) fun k => by rw [mem_kset, mem_kset]; exact h k
theorem kset_kset (l : List Int) : kset (kset l) = kset l := kset_same fun k => mem_kset

abbrev newSet (w : World) : Obj := { cls := .type "set", dict := none, data := .set #[] 0 (.fresh 0 0 (!w.params.followText "set-order")) }
section
variable {P : Program} {w : World} {A : Around} {E : Value → Shared → Prop} {s : Shared}
theorem set_list {l : Addr} {items : Array Value} (ns : List Int) {Q : Value → Shared → Prop} (hh : A.handled = none) (hl : s.heap.IsList l items) (hit : IntsAre items.toList ns) (hb : ns.length + 1 < scanBound)
    (h : ∀ (h' : Heap) (tk c : Nat), SetR w h' s.heap.objs.size (fun j => decide (j ∈ ns)) c → c ≤ ns.length → (∀ b o, s.heap.get? b = some o → h'.get? b = some o) → Q (.ref s.heap.objs.size) { s with heap := h', toks := tk }) :
    wpAny (model P w) A (call (.type "set") [.ref l]) Q E s := by
  have hisz : items.size = ns.length := by
    have q := IntsAre.length hit
    rwa [Array.length_toList] at q
  have hl0 := hl
  obtain ⟨⟨ocls, odict, odata, oslots⟩, hol, hcl, nl, hdl⟩ := hl
  simp only at hcl hdl
  subst hcl; subst hdl
  have lS : l < s.heap.objs.size := Heap.lt_size hol
  obtain ⟨c, tl, hmro⟩ := PySem.F.called_set.mro
  have hmade := PySem.F.called_set.made
  have hsub := PySem.F.called_set.sub
  refine wpAny_call (codeAny_of_tree ?_)
  show wpAny _ _ (callAny (.type "set") _) _ _ _
  refine wpAny_pure ⟨Code.quiet_builtin _ (by decide +kernel), codeAny_builtin PySem.F.entry_type_call ?_⟩
  rw [Around.under_plain (weight_type_call_type "set" [.ref l] []) rfl]
  have h1 := PySem.F.called_set.notType
  have h2 := PySem.F.called_set.canCreate
  have hct := PySem.F.typeCall_set_1 (.ref l)
  repeat (any_goals (first | assumption | wp_step))

  refine codeAny_mono (code_set_led1 (.ref l) (E := E) (Q₁ := fun obj s₁ => obj = .ref s.heap.objs.size ∧ s₁ = { s with heap := s.heap.push (newSet w) }) ⟨rfl, rfl⟩) fun r s₁ hr => ?_
  rcases r with e | fl
  · exact hr
  cases fl
  case ret obj =>
    obtain ⟨rfl, rfl⟩ := hr
    have hS : (s.heap.push (newSet w)).get? s.heap.objs.size = some (newSet w) := Heap.get?_push_size _ rfl
    have hT : Shared.TypeIs { s with heap := s.heap.push (newSet w) } (.ref s.heap.objs.size) "set" := ⟨_, hS, rfl⟩
    have hli := PySem.F.called_set.init.lookup
    have hbi := PySem.F.called_set.init.bind (.ref s.heap.objs.size)
    repeat (any_goals (first | assumption | wp_step))

    refine codeAny_mono (codeAny_call_builtin (R := wants (fun r s₂ => r = .none ∧ ∃ h' tk c, s₂ = { s with heap := h', toks := tk } ∧ SetR w h' s.heap.objs.size (fun j => decide (j ∈ ns)) c ∧ c ≤ ns.length ∧
        (∀ b o, s.heap.get? b = some o → h'.get? b = some o)) E) PySem.F.called_set.init.plain PySem.F.entry_set_init (check_set_init_1 hT ?_)) fun r₂ s₂ hr₂ => ?_
    · have hol' : (s.heap.push (newSet w)).get? l = some { cls := .type "list", dict := odict, data := .seq items nl, slots := oslots } := Heap.get?_push_of_some _ hol
      have hsls := PySem.F.sub_list_set
      have hslf := PySem.F.sub_list_frozenset
      have hne : (Value.type "list" == Value.type "dict") = false := by decide
      have hl1 : (s.heap.push (newSet w)).IsList l items := ⟨_, hol', rfl, nl, rfl⟩
      unfold Builtin.«set.__init__» noKeywords Builtin.Frozenset.updateFrom
      generalize hPI : pyIter = PI
      wp_walk
      subst hPI

      refine wpAny_pyIter_list hl1 ?_
      refine wpAny_bind (wpAny_runValue ?_)
      have hh3 : A.in1.in1.in1.handled = none := by simp [hh]
      have sz : (s.heap.push (newSet w)).objs.size = s.heap.objs.size + 1 := Heap.size_push _ _
      have hneI : l ≠ (s.heap.push (newSet w)).objs.size := by rw [sz]; exact Nat.ne_of_lt (Nat.lt_succ_of_lt lS)
      have hSf : s.heap.objs.size ∉ [(s.heap.push (newSet w)).objs.size, l] := by
        rw [sz]
        intro hm
        rcases List.mem_cons.mp hm with e | hm
        · exact absurd e (Nat.ne_of_lt (Nat.lt_succ_self _))
        · exact absurd (List.mem_singleton.mp hm) (Nat.ne_of_gt lS)
      have hval : ∀ (i : Nat) (v : Value), items[i]? = some v → ∃ k t, ns[i]? = some k ∧ v = .int k t := fun i v hv => by
        have hi : i < ns.length := by rw [← hisz]; exact (Array.getElem?_eq_some_iff.mp hv).1
        obtain ⟨t, e⟩ := PyProof.Rows.IntsAre.int_at hit i v (by rw [Array.getElem?_toList]; exact hv)
        refine ⟨ns[i], t, List.getElem?_eq_getElem hi, ?_⟩
        rw [e, List.getD_eq_getElem?_getD, List.getElem?_eq_getElem hi] <;> rfl
      refine set_update_ints ((Walks.list hh3 _ l hneI items).toS) s.heap.objs.size hSf ns hisz hb hval (items.size - 0) 0 _ (by omega) (Nat.zero_le _) ⟨⟨_, Heap.get?_push_size _ rfl, rfl, rfl⟩, (hl1.push _)⟩ ?hS0 ?hR
      case hS0 =>
        exact ⟨0, Nat.le_refl 0, setR_new_at (Heap.get?_push_of_some _ hS)⟩
      case hR =>
        intro s' c' hm hc' hS'
        obtain ⟨h', g2, d', tk', os'⟩ := s'
        have eg : g2 = s.gens := hm.gens
        have ed : d' = s.drawn := hm.drawn
        have eo : os' = s.os := hm.os
        subst eg; subst ed; subst eo
        show wpAny _ _ _ _ _ _
        refine wpAny_pure ?_
        show wpAny _ _ (ret Value.none) _ _ _
        rw [hisz] at hc'
        refine wpAny_pure ⟨rfl, h', tk', c', rfl, hS', hc', fun b o e => ?_⟩
        have hb0 : b < s.heap.objs.size := Heap.lt_size e
        refine hm.heap b o (fun hm => ?_) (Heap.get?_push_of_some _ (Heap.get?_push_of_some _ e))
        rcases List.mem_cons.mp hm with e1 | hm
        · exact absurd e1 (Nat.ne_of_lt hb0)
        · rw [sz] at hm
          exact absurd (List.mem_singleton.mp hm) (Nat.ne_of_lt (Nat.lt_succ_of_lt hb0))
    · rcases r₂ with e | fl
      · exact hr₂
      cases fl
      case ret r =>
        obtain ⟨rfl, h', tk, c', rfl, hS', hc', hk'⟩ := hr₂
        repeat (any_goals (first | assumption | wp_step))
        exact h _ _ _ hS' hc' hk'
      all_goals exact hr₂.elim
  all_goals exact hr.elim
end

def tSS (K : PySem.W.Frag) (ta : TE) : TE := fun σ H Q => ta σ H fun x H1 => ∃ (l : Addr) (ns : List Int), x = .ref l ∧ SqL K H1 l (ns.map V.int) ∧ ns.length < 64 ∧ ∀ p, H1 p = none → Q (.ref p) (upd H1 p (.lst ((kset ns).map V.int)))
theorem pe_sortedSet {X : Cx} {a : Expr} {ta : TE} {p p2 q pos : Pos} (hc : X.calm = true) (hg : Gl X "sorted") (hm : X.mg "sorted" = none) (hg2 : Gl X "set") (hm2 : X.mg "set" = none) (ha : PE X a ta)
    (na : starEach [a] X.env = (false, eval a X.env) :: starEach [] X.env := by rfl) : PE X (.Call (.Name "sorted" p) [.Call (.Name "set" p2) [a] [] q] [] pos) (tSS X.K ta) := by
  refine ⟨fun pins s σ H Q I h => ?_⟩
  refine Call_ (ld_blt I hg hm (u := .builtin "sorted") (by decide +kernel) ?_)
  refine PyProof.Rows.callWith_builtin1 (PyProof.Rows.args_cons ?_ rfl) rfl rfl
  refine Call_ (ld_blt I hg2 hm2 PyProof.Rows.boot_set ?_)
  refine PyProof.Rows.callWith_type1 (PyProof.Rows.args_cons (thn (ha.run pins s σ H _ I h) fun v s1 ⟨x, H1, I1, r1, q1⟩ => PyProof.Rows.args_nil ?_) na) na rfl
  obtain ⟨l, ns, rfl, hq, h64, q1⟩ := q1
  cases r1
  obtain ⟨its, r, pl, hz⟩ := I1.list hq
  have hi : IntsAre its ns := by
    have : ∀ {ns : List Int} {us : List Value}, Vals (ns.map V.int) us → IntsAre us ns := by
      intro ns
      induction ns with
      | nil => intro us h; cases h; exact .nil
      | cons n ns ih =>
        intro us h
        cases h with
        | cons rr t =>
          obtain ⟨k, rfl⟩ := rr
          exact .cons n k (ih t)
    exact this r
  refine set_list ns (I1.ok.hd hc) pl.isList (by simpa using hi) (by unfold scanBound; omega) fun h' tk c R hcn k => ?_
  refine PyProof.Rows.args_nil ?_
  have I2 : Inv X pins σ H1 { s1 with heap := h', toks := tk } := I1.kept k
  have R2 : SetR X.w ({ s1 with heap := h', toks := tk } : Shared).heap s1.heap.objs.size (fun j => decide (j ∈ ns)) c := R
  generalize ({ s1 with heap := h', toks := tk } : Shared) = s2 at I2 R2 ⊢
  refine sorted_set R2 (I2.ok.hd hc) (by omega) fun s' p' out cc ms kk g o hp hgp him hs hmm hl => ?_
  have e : ms = kset ns := asc_same hs (asc_kset _) fun z => by rw [hmm z, mem_kset]; simp
  subst e
  have hlen : ((kset ns).map V.int).length ≤ sizeLine := by
    have := len_kset ns
    rw [List.length_map, sizeLine_eq]; omega
  have hn : H1 p' = none := I2.hok.fresh hp
  have J : Inv X pins σ (upd H1 p' (.lst ((kset ns).map V.int))) { s2 with heap := s'.heap, gens := s'.gens, drawn := s'.drawn, toks := s'.toks } :=
    I2.call (ch := []) (Un.laid kk hp hn) (I2.hok.laid kk hp ⟨hlen, out.toList, cc, vals_of_ints him, hgp⟩) (by rw [g]; exact I2.bare) (fun _ z => nomatch z)
  have e : s' = { s2 with heap := s'.heap, gens := s'.gens, drawn := s'.drawn, toks := s'.toks } := by
    cases s'
    cases s2
    cases o
    rfl
  rw [e]
  exact ⟨.ref p', _, J, rfl, q1 p' hn⟩
end GN

/-! part P0 -/
set_option Elab.async false
set_option linter.all false
set_option maxRecDepth 100000
set_option maxHeartbeats 4000000
namespace GN
open PySem PySem.Spec L2
open PyProof.Rows hiding St

def top (i : Nat) : Stmt := PySem.Challenge.pw_goesnext_k81_whole_caches.main.body.getD i (.Pass ⟨0, 0, 0, 0⟩)

/-- the built-in names that the program uses are the built-in ones -/
structure Bi (mg : Str → Option Value) : Prop where
  isi : mg "isinstance" = none
  int : mg "int" = none
  bool : mg "bool" = none
  list : mg "list" = none
  tuple : mg "tuple" = none
  len : mg "len" = none
  all : mg "all" = none
  sum : mg "sum" = none
  sorted : mg "sorted" = none
  set : mg "set" = none
  range : mg "range" = none
  enum : mg "enumerate" = none
  min : mg "min" = none
  super : mg "super" = none

/-! ### built-ins with short readings -/
theorem kb_ii : kitB "int" "int" = some true := by decide +kernel
theorem kb_ib : kitB "int" "bool" = some false := by decide +kernel
theorem kb_ll : kitB "list" "list" = some true := by decide +kernel
theorem tyx_list {K : PySem.W.Frag} {H : Hp} {a : Addr} {xs : List V} (h : SqL K H a xs) : TyX K H (.ref a) (.type "list") := by
  rcases h with (h | ⟨o, h⟩) | ⟨o, its, n, hk, hc, _⟩
  · exact .base (.lst h)
  · exact .base (.frz h)
  · exact .kList hk hc
theorem tyx_int {K : PySem.W.Frag} {H : Hp} (i : Int) : TyX K H (.int i) (.type "int") := .base (.int i)
/-- isinstance(x, T), T built in -/
def rIsT (K : PySem.W.Frag) (T : String) : List V → Hp → VK → Prop := fun xs H Q => ∃ x t k, xs = [x, .ty T] ∧ TyX K H x (.type t) ∧ kitB t T = some k ∧ Q (.bl k) H
section
variable {X : Cx} {a b c e : Expr} {es : List Expr} {ta tb : TE} {t : TA} {p p2 q pos : Pos}
theorem call_isT {T : String} : CallR X (.builtin "isinstance") (rIsT X.K T) := by
  intro pins s σ H xs us Q I r h
  obtain ⟨x, t, k, rfl, ty, e, q⟩ := h
  exact call_isi pins s σ H _ us Q I r ⟨x, .ty T, .type t, .type T, k, rfl, .ty T, ty, kit_ty e, q⟩
theorem pz_isT {x : Str} {T : String} (B : Bi X.mg) (ha : PE X a ta) (hm : X.mg x = none) (hv : bootBuiltins x = some (.type T)) (hn : x ≠ "__name__" := by decide) (hd : (x == ("__debug__" : Str)) = false := by decide) (hg : Gl X "isinstance" := by rfl) (hg2 : Gl X x := by rfl)
    (h1 : starEach [a, .Name x p2] X.env = (false, eval a X.env) :: starEach [.Name x p2] X.env := by rfl) (h2 : (backTo pos (starEach [.Name x p2] X.env)).any (·.1) = false := by rfl) (h3 : starEach [.Name x p2] X.env = (false, eval (.Name x p2) X.env) :: starEach [] X.env := by rfl) :
    PE X (.Call (.Name "isinstance" p) [a, .Name x p2] [] pos) (tCB (rIsT X.K T) (tCons ta (tCons (tC (.ty T)) tNil))) :=
  pe_callB (p := p) (pos := pos) call_isT hg B.isi boot_isinstance (pa_cons ha (pa_cons (pe_bltn (v := .ty T) hg2 hm hv rfl hn hd) pa_nil h3) h1) (by decide) (by decide) h1 h2
def rLen (K : PySem.W.Frag) : List V → Hp → VK → Prop := fun xs H Q => ∃ p ys, xs = [.ref p] ∧ (SqL K H p ys ∨ SqT K H p ys) ∧ Q (.int ys.length) H
/-- len(x) of a list or tuple -/
theorem pz_len (B : Bi X.mg) (ha : PE X a ta) (hg : Gl X "len" := by rfl) (h1 : starEach [a] X.env = (false, eval a X.env) :: starEach [] X.env := by rfl) :
    PE X (.Call (.Name "len" p) [a] [] pos) (tCB (rLen X.K) (tCons ta tNil)) := pe_callB call_len_seq hg B.len boot_len (pa_cons ha pa_nil h1) (by decide) (by decide) h1 rfl
theorem pz_all (hc : X.calm = true) (B : Bi X.mg) (ha : PE X a ta) (hg : Gl X "all" := by rfl) (h1 : starEach [a] X.env = (false, eval a X.env) :: starEach [] X.env := by rfl) :
    PE X (.Call (.Name "all" p) [a] [] pos) (tCB (rAll X.K) (tCons ta tNil)) := pe_callB (cr_all hc) hg B.all boot_all (pa_cons ha pa_nil h1) (by decide) (by decide) h1 rfl
theorem pz_sum (hc : X.calm = true) (B : Bi X.mg) (ha : PE X a ta) (hg : Gl X "sum" := by rfl) (h1 : starEach [a] X.env = (false, eval a X.env) :: starEach [] X.env := by rfl) :
    PE X (.Call (.Name "sum" p) [a] [] pos) (tCB (rSum X.K) (tCons ta tNil)) := pe_callB (cr_sum hc) hg B.sum boot_sum (pa_cons ha pa_nil h1) (by decide) (by decide) h1 rfl
theorem pz_sorted (B : Bi X.mg) (ha : PE X a ta) (hg : Gl X "sorted" := by rfl) (h1 : starEach [a] X.env = (false, eval a X.env) :: starEach [] X.env := by rfl) :
    PE X (.Call (.Name "sorted" p) [a] [] pos) (tCB (rSorted X.K) (tCons ta tNil)) := pe_callB cr_sorted hg B.sorted boot_sorted (pa_cons ha pa_nil h1) (by decide) (by decide) h1 rfl
def rList (K : PySem.W.Frag) : List V → Hp → VK → Prop := fun xs H Q => ∃ p ys, xs = [.ref p] ∧ (SqL K H p ys ∨ SqT K H p ys) ∧ ∀ l, H l = none → Q (.ref l) (upd H l (.lst ys))
theorem pz_list (B : Bi X.mg) (ha : PE X a ta) (hg : Gl X "list" := by rfl) (h1 : starEach [a] X.env = (false, eval a X.env) :: starEach [] X.env := by rfl) :
    PE X (.Call (.Name "list" p) [a] [] pos) (tCB (rList X.K) (tCons ta tNil)) := pe_callTy call_list_of hg B.list boot_list (pa_cons ha pa_nil h1) (by decide) (by decide) h1 rfl
def rTup (K : PySem.W.Frag) : List V → Hp → VK → Prop := fun xs H Q => ∃ p ys, xs = [.ref p] ∧ ((SqL K H p ys ∧ ∀ l, H l = none → Q (.ref l) (upd H l (.tup ys))) ∨ (SqT K H p ys ∧ Q (.ref p) H))
theorem pz_tuple (B : Bi X.mg) (ha : PE X a ta) (hg : Gl X "tuple" := by rfl) (h1 : starEach [a] X.env = (false, eval a X.env) :: starEach [] X.env := by rfl) :
    PE X (.Call (.Name "tuple" p) [a] [] pos) (tCB (rTup X.K) (tCons ta tNil)) := pe_callTy call_tuple_of hg B.tuple boot_tuple (pa_cons ha pa_nil h1) (by decide) (by decide) h1 rfl
def rInt : List V → Hp → VK → Prop := fun xs H Q => (∃ i, xs = [.int i] ∧ Q (.int i) H) ∨ (∃ k, xs = [.bl k] ∧ Q (.int (if k = true then 1 else 0)) H)
theorem pz_int (B : Bi X.mg) (ha : PE X a ta) (hg : Gl X "int" := by rfl) (h1 : starEach [a] X.env = (false, eval a X.env) :: starEach [] X.env := by rfl) :
    PE X (.Call (.Name "int" p) [a] [] pos) (tCB rInt (tCons ta tNil)) := pe_callTy call_int1 hg B.int boot_int (pa_cons ha pa_nil h1) (by decide) (by decide) h1 rfl
end

/-! ### lists made by comprehensions: the new list at D holds data; what else the elements change stands in S, and is told by J -/
def PvD (K : PySem.W.Frag) (D : Addr) (S : List Addr) (Hs : Hp) (ds : List PyData) (J : Nat → Hp → Prop) (i : Nat) (H : Hp) : Prop :=
  ∃ vs, H D = some (.lst vs) ∧ DpAll K (Off (D :: S) H) vs (ds.take i) ∧ Kp (D :: S) Hs H ∧ J i H
section
variable {K : PySem.W.Frag} {D : Addr} {S : List Addr} {Hs : Hp} {ds : List PyData} {J : Nat → Hp → Prop}
theorem pv_zero (hD : Hs D = some (.lst [])) (h : J 0 Hs) : PvD K D S Hs ds J 0 Hs := ⟨[], hD, .nil, kp_rfl, h⟩
theorem dps_count {vs : List V} {i : Nat} {H : Hp} (h : DpAll K H vs (ds.take i)) : vs.length ≤ ds.length := by
  rw [dps_len h, List.length_take]; omega
/-- one more item -/
theorem pv_step {i : Nat} {H H' : Hp} {vs : List V} {y : V} {d : PyData} (hd : ds[i]? = some d) (h1 : DpAll K (Off (D :: S) H) vs (ds.take i)) (h2 : Kp (D :: S) Hs H) (e1 : H' D = some (.lst vs)) (e2 : Kp (D :: S) H H') (e3 : Dp K (Off (D :: S) H') y d)
    (e4 : J (i + 1) (upd H' D (.lst (vs ++ [y])))) : PvD K D S Hs ds J (i + 1) (upd H' D (.lst (vs ++ [y]))) := by
  have up : Same (Off (D :: S) H') (Off (D :: S) (upd H' D (.lst (vs ++ [y])))) := kp_off (kp_in (S := D :: S) (p := D) List.mem_cons_self) fun _ h => h
  have e : ds.take (i + 1) = ds.take i ++ [d] := by
    rw [List.take_add_one, hd]; rfl
  refine ⟨vs ++ [y], upd_same, ?_, kp_trans (kp_trans h2 e2) (kp_in List.mem_cons_self), e4⟩
  rw [e]
  exact dps_app ((h1.up (kp_off e2 fun _ h => h)).up up) (dps_one (e3.up up))
theorem pv_done {n : Nat} {H : Hp} (h : PvD K D S Hs ds J n H) (hn : ds.length ≤ n) : ∃ vs, H D = some (.lst vs) ∧ DpAll K (Off (D :: S) H) vs ds ∧ Kp (D :: S) Hs H ∧ J n H := by
  obtain ⟨vs, a, b, c, d⟩ := h
  rw [List.take_of_length_le hn] at b
  exact ⟨vs, a, b, c, d⟩
/-- the new list as data, behind the comprehension -/
theorem dp_new {H : Hp} {vs : List V} (h : H D = some (.lst vs)) (hS : D ∉ S) (b : DpAll K (Off (D :: S) H) vs ds) : Dp K (Off S H) (.ref D) (.list ds) :=
  .lst (.of (by rw [off_get hS]; exact h)) (b.up (off_off fun x hx => List.mem_cons_of_mem _ hx))
theorem wipe1 {σ : St} {s : Nat} {x : V} : wipe ((wipe σ [s]).set s (some x)) [s] = wipe σ [s] := by
  show ((σ.set s none).set s (some x)).set s none = σ.set s none
  rw [List.set_set, List.set_set]
/-- over a list, the target a name -/
theorem lc_dpL {a : Addr} {xs : List V} {te : TE} {sl : Nat} {σ : St} {Qd : Hp → Prop} (hds : ds.length = xs.length) (hz : xs.length < sizeLine) (hl : SqL K (Off (D :: S) Hs) a xs) (hD : Hs D = some (.lst [])) (h0 : J 0 Hs)
    (hs : ∀ (i : Nat) x d H vs (G : VK), xs[i]? = some x → ds[i]? = some d → H D = some (.lst vs) → Kp (D :: S) Hs H → J i H →
      (∀ y H', H' D = some (.lst vs) → Kp (D :: S) H H' → Dp K (Off (D :: S) H') y d → J (i + 1) (upd H' D (.lst (vs ++ [y]))) → G y H') → te ((wipe σ [sl]).set sl (some x)) H G)
    (hd : ∀ H vs, H D = some (.lst vs) → DpAll K (Off (D :: S) H) vs ds → Kp (D :: S) Hs H → J xs.length H → Qd H) :
    ∃ W : Nat → Nat → Hp → Prop, (∃ m, W 0 m Hs) ∧ ∀ i m H, W i m H →
      ((Itl K a).stop i H ∧ Qd H) ∨ ((Itl K a).go i H ∧ ∃ Nx : Hp → Prop, (∀ H', Nx H' → ∃ m', m' < m ∧ W (i + 1) m' H') ∧ ∀ x H', (Itl K a).yld i H x H' → gName sl x (wipe σ [sl]) H' fun σ2 H2 => wipe σ2 [sl] = wipe σ [sl] ∧ tYes σ2 H2 fun b H3 =>
        if b = true then te σ2 H3 fun y H4 => ∃ acc, H4 D = some (.lst acc) ∧ acc.length < sizeLine ∧ Nx (upd H4 D (.lst (acc ++ [y]))) else Nx H3) := by
  have hU : upd Hs D (.lst []) = Hs := by
    funext b
    by_cases hb : b = D
    · rw [hb, upd_same, hD]
    · rw [upd_ne hb]
  have hl' : ∀ H, Kp (D :: S) Hs H → SqL K H a xs := fun H k => seqL_mono (off_same (S := D :: S)) (seqL_mono (kp_off (S := D :: S) k fun _ h => h) hl)
  have z := lc_list (K := K) (a := a) (xs := xs) (g := gName sl) (tt := tYes) (te := te) (vs := [sl]) (σ := σ) (H1 := Hs) (D := D) (Qd := Qd) (PvD K D S Hs ds J) (by rw [hU]; exact pv_zero hD h0)
    (fun i H hi p => by obtain ⟨vs, _, _, k, _⟩ := p; exact hl' H k)
    (fun i x H hx p => by
      obtain ⟨vs, a1, a2, a3, a4⟩ := p
      have hi : i < ds.length := by rw [hds]; exact (List.getElem?_eq_some_iff.mp hx).1
      refine ⟨wipe1, ?_⟩
      refine (hs i x ds[i] H vs _ hx (List.getElem?_eq_getElem hi) a1 a3 a4 fun y H' b1 b2 b3 b4 => ?_ : te ((wipe σ [sl]).set sl (some x)) H _)
      have := dps_count a2
      exact ⟨vs, b1, by omega, pv_step (List.getElem?_eq_getElem hi) a2 a3 b1 b2 b3 b4⟩)
    (fun H p => by
      obtain ⟨vs, a1, a2, a3, a4⟩ := pv_done p (by omega)
      exact hd H vs a1 a2 a3 a4)
  rw [hU] at z
  exact z
end
end GN

/-! part P1 -/
set_option Elab.async false
set_option linter.all false
set_option maxRecDepth 100000
set_option maxHeartbeats 4000000
namespace GN
open PySem PySem.Spec L2
open PyProof.Rows hiding St

/-! ### what is changed stands somewhere -/
def Occ (M : List Addr) (H : Hp) : Prop := ∀ b ∈ M, H b ≠ none
section
variable {M S : List Addr} {H H' : Hp} {p : Addr} {o : HO} {K : PySem.W.Frag}
theorem occ_nil : Occ [] H := fun _ h => by cases h
theorem occ_kp (h : Occ M H) (k : Same H H') : Occ M H' := fun b hb e => by
  cases z : H b with
  | none => exact h b hb z
  | some o => rw [k b o z] at e; cases e
theorem occ_upd (h : Occ M H) : Occ M (upd H p o) := fun b hb e => by
  by_cases z : b = p
  · rw [z, upd_same] at e; cases e
  · rw [upd_ne z] at e; exact h b hb e
theorem occ_cons (h : Occ M H) (hp : H p = some o) : Occ (p :: M) H := fun b hb e => by
  rcases List.mem_cons.mp hb with z | hb
  · rw [z, hp] at e; cases e
  · exact h b hb e
theorem occ_new (h : Occ M H) (hn : H p = none) : p ∉ M := fun z => h p z hn
theorem occ_new' (h : Occ M H) : Occ (p :: M) (upd H p o) := occ_cons (occ_upd h) upd_same
theorem occ_mono (h : Occ M H) (k : Kp S H H') (hS : ∀ b ∈ S, H' b ≠ none) : Occ M H' := fun b hb e => by
  by_cases z : b ∈ S
  · exact hS b z e
  · cases y : H b with
    | none => exact h b hb y
    | some o => rw [k b o y z] at e; cases e
/-- a new thing at p, outside M -/
theorem off_upd (h : Occ M H) (hn : H p = none) : Off M (upd H p o) p = some o := by rw [off_get (occ_new h hn), upd_same]
theorem same_offN (hn : H p = none) : Same (Off M H) (Off M (upd H p o)) := same_off (same_new hn)
end

section
variable {K : PySem.W.Frag} {D : Addr} {S : List Addr} {Hs : Hp} {ds : List PyData} {J : Nat → Hp → Prop}
theorem upd_again {H : Hp} {o : HO} (h : H D = some o) : upd H D o = H := by
  funext b
  by_cases hb : b = D
  · rw [hb, upd_same, h]
  · rw [upd_ne hb]
/-- over a tuple, any target -/
theorem lc_dpT {a : Addr} {xs : List V} {te : TE} {g : TG} {ws : List Nat} {σ : St} {Qd : Hp → Prop} (hds : ds.length = xs.length) (hz : xs.length < sizeLine) (hl : SqT K (Off (D :: S) Hs) a xs) (hD : Hs D = some (.lst [])) (h0 : J 0 Hs)
    (hs : ∀ (i : Nat) x d H vs (G : VK), xs[i]? = some x → ds[i]? = some d → H D = some (.lst vs) → Kp (D :: S) Hs H → J i H →
      (∀ y H', H' D = some (.lst vs) → Kp (D :: S) H H' → Dp K (Off (D :: S) H') y d → J (i + 1) (upd H' D (.lst (vs ++ [y]))) → G y H') → g x (wipe σ ws) H fun σ2 H2 => wipe σ2 ws = wipe σ ws ∧ te σ2 H2 G)
    (hd : ∀ H vs, H D = some (.lst vs) → DpAll K (Off (D :: S) H) vs ds → Kp (D :: S) Hs H → J xs.length H → Qd H) :
    ∃ W : Nat → Nat → Hp → Prop, (∃ m, W 0 m Hs) ∧ ∀ i m H, W i m H →
      ((Itt K a).stop i H ∧ Qd H) ∨ ((Itt K a).go i H ∧ ∃ Nx : Hp → Prop, (∀ H', Nx H' → ∃ m', m' < m ∧ W (i + 1) m' H') ∧ ∀ x H', (Itt K a).yld i H x H' → g x (wipe σ ws) H' fun σ2 H2 => wipe σ2 ws = wipe σ ws ∧ tYes σ2 H2 fun b H3 =>
        if b = true then te σ2 H3 fun y H4 => ∃ acc, H4 D = some (.lst acc) ∧ acc.length < sizeLine ∧ Nx (upd H4 D (.lst (acc ++ [y]))) else Nx H3) := by
  have hU : upd Hs D (.lst []) = Hs := upd_again hD
  have hl' : ∀ H, Kp (D :: S) Hs H → SqT K H a xs := fun H k => seqT_mono (off_same (S := D :: S)) (seqT_mono (kp_off (S := D :: S) k fun _ h => h) hl)
  have z := lc_tup (K := K) (a := a) (xs := xs) (g := g) (tt := tYes) (te := te) (vs := ws) (σ := σ) (H1 := Hs) (D := D) (Qd := Qd) (PvD K D S Hs ds J) (by rw [hU]; exact pv_zero hD h0)
    (fun i H hi p => by obtain ⟨vs, _, _, k, _⟩ := p; exact hl' H k)
    (fun i x H hx p => by
      obtain ⟨vs, a1, a2, a3, a4⟩ := p
      have hi : i < ds.length := by rw [hds]; exact (List.getElem?_eq_some_iff.mp hx).1
      exact hs i x ds[i] H vs (fun y H4 => ∃ acc, H4 D = some (.lst acc) ∧ acc.length < sizeLine ∧ PvD K D S Hs ds J (i + 1) (upd H4 D (.lst (acc ++ [y])))) hx (List.getElem?_eq_getElem hi) a1 a3 a4 fun y H' b1 b2 b3 b4 => by
        have := dps_count a2
        exact ⟨vs, b1, by omega, pv_step (List.getElem?_eq_getElem hi) a2 a3 b1 b2 b3 b4⟩)
    (fun H p => by
      obtain ⟨vs, a1, a2, a3, a4⟩ := pv_done p (by omega)
      exact hd H vs a1 a2 a3 a4)
  rw [hU] at z
  exact z
/-- over a range, the target a name -/
theorem lc_dpR {lo : Int} {n : Nat} {te : TE} {sl : Nat} {σ : St} {Qd : Hp → Prop} (hds : ds.length = n) (hz : n < sizeLine) (hD : Hs D = some (.lst [])) (h0 : J 0 Hs)
    (hs : ∀ (i : Nat) d H vs (G : VK), i < n → ds[i]? = some d → H D = some (.lst vs) → Kp (D :: S) Hs H → J i H →
      (∀ y H', H' D = some (.lst vs) → Kp (D :: S) H H' → Dp K (Off (D :: S) H') y d → J (i + 1) (upd H' D (.lst (vs ++ [y]))) → G y H') → te ((wipe σ [sl]).set sl (some (.int (lo + (i : Nat))))) H G)
    (hd : ∀ H vs, H D = some (.lst vs) → DpAll K (Off (D :: S) H) vs ds → Kp (D :: S) Hs H → J n H → Qd H) :
    ∃ W : Nat → Nat → Hp → Prop, (∃ m, W 0 m Hs) ∧ ∀ i m H, W i m H →
      ((Itr lo n).stop i H ∧ Qd H) ∨ ((Itr lo n).go i H ∧ ∃ Nx : Hp → Prop, (∀ H', Nx H' → ∃ m', m' < m ∧ W (i + 1) m' H') ∧ ∀ x H', (Itr lo n).yld i H x H' → gName sl x (wipe σ [sl]) H' fun σ2 H2 => wipe σ2 [sl] = wipe σ [sl] ∧ tYes σ2 H2 fun b H3 =>
        if b = true then te σ2 H3 fun y H4 => ∃ acc, H4 D = some (.lst acc) ∧ acc.length < sizeLine ∧ Nx (upd H4 D (.lst (acc ++ [y]))) else Nx H3) := by
  have hU : upd Hs D (.lst []) = Hs := upd_again hD
  have z := lc_range (lo := lo) (n := n) (g := gName sl) (tt := tYes) (te := te) (vs := [sl]) (σ := σ) (H1 := Hs) (D := D) (Qd := Qd) (PvD K D S Hs ds J) (by rw [hU]; exact pv_zero hD h0)
    (fun i H hi p => by
      obtain ⟨vs, a1, a2, a3, a4⟩ := p
      have hi' : i < ds.length := by rw [hds]; exact hi
      refine ⟨wipe1, ?_⟩
      refine (hs i ds[i] H vs _ hi (List.getElem?_eq_getElem hi') a1 a3 a4 fun y H' b1 b2 b3 b4 => ?_ : te ((wipe σ [sl]).set sl (some (.int (lo + (i : Nat))))) H _)
      have := dps_count a2
      exact ⟨vs, b1, by omega, pv_step (List.getElem?_eq_getElem hi') a2 a3 b1 b2 b3 b4⟩)
    (fun H p => by
      obtain ⟨vs, a1, a2, a3, a4⟩ := pv_done p (by omega)
      exact hd H vs a1 a2 a3 a4)
  rw [hU] at z
  exact z
end

theorem p0 {X : Cx} : ∀ σ, PassesAt CX0 X σ (E00 σ) := fun σ => passAt0 σ
/-! ### the rules with K named (within a comprehension's block the block's K is K) -/
section
variable {X : Cx} {K : PySem.W.Frag} {a b c e l tg : Expr} {es : List Expr} {ta tb tl : TE} {t : TA} {p p2 q pos apos cpos : Pos}
theorem kix_list (hK : X.K = K := by rfl) : IxR X (rIxL K) := hK ▸ ix_list
theorem kix_tup (hK : X.K = K := by rfl) : IxR X (rIxT K) := hK ▸ ix_tup
theorem kop_in (hK : X.K = K := by rfl) : OpR X (compareOp .In) (rIn K false) := hK ▸ op_in_seq
theorem kop_notIn (hK : X.K = K := by rfl) : OpR X (compareOp .NotIn) (rIn K true) := hK ▸ op_notIn_seq
theorem kop_eqD (hu : X.A.units + 64 < cLine) (hK : X.K = K := by rfl) : OpR X (compareOp .Eq) (rEqD K) := hK ▸ op_eqD hu
theorem kop_neD (hu : X.A.units + 64 < cLine) (hK : X.K = K := by rfl) : OpR X (compareOp .NotEq) (rNeD K) := hK ▸ op_neD hu
theorem kpi_list (hl : PE X l tl) (hK : X.K = K := by rfl) : PI X tg l (iList K tl) := hK ▸ pi_list hl
theorem kpi_tup (hl : PE X l tl) (hK : X.K = K := by rfl) : PI X tg l (iTup K tl) := hK ▸ pi_tup hl
theorem kpe_fld {f : Str} (he : PE X e ta) (hb : attributeBase e f X.env (eval e X.env) = eval e X.env := by rfl) (hK : X.K = K := by rfl) : PE X (.Attribute e f pos) (tFld K ta f) := hK ▸ pe_fld he hb
theorem kpe_con {f : Str} (he : PE X e ta) (hb : attributeBase e f X.env (eval e X.env) = eval e X.env := by rfl) (hK : X.K = K := by rfl) : PE X (.Attribute e f pos) (tCon K ta f) := hK ▸ pe_con he hb
theorem kz_len {mg : Str → Option Value} (B : Bi mg) (ha : PE X a ta) (hK : X.K = K := by rfl) (hm : X.mg = mg := by rfl) (hg : Gl X "len" := by rfl) (h1 : starEach [a] X.env = (false, eval a X.env) :: starEach [] X.env := by rfl) :
    PE X (.Call (.Name "len" p) [a] [] pos) (tCB (rLen K) (tCons ta tNil)) := hK ▸ pz_len (hm ▸ B) ha hg h1
theorem kz_all {mg : Str → Option Value} (hc : X.calm = true) (B : Bi mg) (ha : PE X a ta) (hK : X.K = K := by rfl) (hm : X.mg = mg := by rfl) (hg : Gl X "all" := by rfl) (h1 : starEach [a] X.env = (false, eval a X.env) :: starEach [] X.env := by rfl) :
    PE X (.Call (.Name "all" p) [a] [] pos) (tCB (rAll K) (tCons ta tNil)) := hK ▸ pz_all hc (hm ▸ B) ha hg h1
theorem kz_sum {mg : Str → Option Value} (hc : X.calm = true) (B : Bi mg) (ha : PE X a ta) (hK : X.K = K := by rfl) (hm : X.mg = mg := by rfl) (hg : Gl X "sum" := by rfl) (h1 : starEach [a] X.env = (false, eval a X.env) :: starEach [] X.env := by rfl) :
    PE X (.Call (.Name "sum" p) [a] [] pos) (tCB (rSum K) (tCons ta tNil)) := hK ▸ pz_sum hc (hm ▸ B) ha hg h1
theorem kz_list {mg : Str → Option Value} (B : Bi mg) (ha : PE X a ta) (hK : X.K = K := by rfl) (hm : X.mg = mg := by rfl) (hg : Gl X "list" := by rfl) (h1 : starEach [a] X.env = (false, eval a X.env) :: starEach [] X.env := by rfl) :
    PE X (.Call (.Name "list" p) [a] [] pos) (tCB (rList K) (tCons ta tNil)) := hK ▸ pz_list (hm ▸ B) ha hg h1
theorem kz_tuple {mg : Str → Option Value} (B : Bi mg) (ha : PE X a ta) (hK : X.K = K := by rfl) (hm : X.mg = mg := by rfl) (hg : Gl X "tuple" := by rfl) (h1 : starEach [a] X.env = (false, eval a X.env) :: starEach [] X.env := by rfl) :
    PE X (.Call (.Name "tuple" p) [a] [] pos) (tCB (rTup K) (tCons ta tNil)) := hK ▸ pz_tuple (hm ▸ B) ha hg h1
theorem kz_int {mg : Str → Option Value} (B : Bi mg) (ha : PE X a ta) (hm : X.mg = mg := by rfl) (hg : Gl X "int" := by rfl) (h1 : starEach [a] X.env = (false, eval a X.env) :: starEach [] X.env := by rfl) :
    PE X (.Call (.Name "int" p) [a] [] pos) (tCB rInt (tCons ta tNil)) := pz_int (hm ▸ B) ha hg h1
theorem kz_isT {mg : Str → Option Value} {x : Str} {T : String} (B : Bi mg) (ha : PE X a ta) (hm : mg x = none) (hv : bootBuiltins x = some (.type T)) (hK : X.K = K := by rfl) (hmg : X.mg = mg := by rfl) (hn : x ≠ "__name__" := by decide) (hd : (x == ("__debug__" : Str)) = false := by decide) (hg : Gl X "isinstance" := by rfl) (hg2 : Gl X x := by rfl)
    (h1 : starEach [a, .Name x p2] X.env = (false, eval a X.env) :: starEach [.Name x p2] X.env := by rfl) (h2 : (backTo pos (starEach [.Name x p2] X.env)).any (·.1) = false := by rfl) (h3 : starEach [.Name x p2] X.env = (false, eval (.Name x p2) X.env) :: starEach [] X.env := by rfl) :
    PE X (.Call (.Name "isinstance" p) [a, .Name x p2] [] pos) (tCB (rIsT K T) (tCons ta (tCons (tC (.ty T)) tNil))) := by
  subst hmg
  exact hK ▸ pz_isT B ha hm hv hn hd hg hg2 h1 h2 h3
end
/-! ### for i, x in enumerate(xs) -/
theorem for_enum2 {K : PySem.W.Frag} {a : Addr} {xs : List V} {s1 s2 : Nat} {tb : TS} {D : Ends} {σ : St} {H : Hp} (Pv : Nat → St → Hp → Prop) (h0 : Pv 0 σ H) (hl : ∀ i σ H, i ≤ xs.length → Pv i σ H → SqL K H a xs)
    (hs : ∀ (i : Nat) x σ H T, xs[i]? = some x → Pv i σ H → H T = none → tb { D with nx := Pv (i + 1), ct := Pv (i + 1), bk := D.nx } ((σ.set s1 (some (.int (i : Nat)))).set s2 (some x)) (upd H T (.tup [.int (i : Nat), x]))) (hd : ∀ σ H, Pv xs.length σ H → D.nx σ H) :
    ∃ W : Nat → Nat → St → Hp → Prop, (∃ m, W 0 m σ H) ∧ ∀ i m σ H, W i m σ H →
      ((Ite K a).stop i H ∧ D.nx σ H) ∨ ((Ite K a).go i H ∧ ∃ N : St → Hp → Prop, (∀ σ' H', N σ' H' → ∃ m', m' < m ∧ W (i + 1) m' σ' H') ∧ ∀ x H', (Ite K a).yld i H x H' → gTup K 2 (gCons (gName s1) (gCons (gName s2) gNil)) x σ H' fun σ2 H2 => tb { D with nx := N, ct := N, bk := D.nx } σ2 H2) := by
  refine ⟨fun i m σ H => m = xs.length - i ∧ i ≤ xs.length ∧ Pv i σ H, ⟨xs.length, by simp, Nat.zero_le _, h0⟩, ?_⟩
  rintro i m σ H ⟨rfl, hi, p⟩
  have q := hl i σ H hi p
  by_cases hlt : i < xs.length
  · refine .inr ⟨⟨xs, xs[i], q, by simp [hlt]⟩, Pv (i + 1), fun σ' H' p' => ⟨xs.length - (i + 1), by omega, rfl, hlt, p'⟩, fun x H' y => ?_⟩
    obtain ⟨T, x', rfl, hT, rfl, hx⟩ := y
    exact ⟨T, _, rfl, .of upd_same, rfl, _, _, rfl, _, _, rfl, rfl, hs i x' σ H T (hx xs q) p hT⟩
  · have e : i = xs.length := by omega
    subst e
    exact .inl ⟨⟨xs, q, Nat.le_refl _⟩, hd σ H p⟩

/-! ### lists of ints that stand, and ints in them -/
theorem ints_at {ns : List Int} {j : Nat} {n : Int} (h : ns[j]? = some n) : atI (ns.map V.int) (j : Int) = some (.int n) := atI_nat (by rw [List.getElem?_map, h]; rfl)
theorem ixN_nat {n j : Nat} (h : j < n) : ixN n (j : Int) = some j := by
  unfold ixN
  rw [if_pos (by omega), if_pos (by omega)]
  rfl
theorem ixN_int {n : Nat} {i : Int} (h0 : 0 ≤ i) (h : i < n) : ixN n i = some i.toNat := by
  unfold ixN
  rw [if_pos h0, if_pos h]
theorem map_set_int (l : List Int) (j : Nat) (x : Int) : (l.map V.int).set j (.int x) = (l.set j x).map V.int := by rw [List.map_set]
theorem rgV_iota (k : Nat) : rgV 0 (k : Int) = (iota k).map V.int := by
  unfold rgV iota
  rw [List.map_map]
  have e : ((k : Int) - 0).toNat = k := by omega
  rw [e]
  refine List.map_congr_left fun i _ => ?_
  show V.int (0 + (i : Int)) = V.int (i : Int)
  rw [Int.zero_add]
/-- a promise of data over the heap without M -/
def ResD (K : PySem.W.Frag) (M : List Addr) (H : Hp) (d : PyData) (Q : VK) : Prop := ∀ v H', Same H H' → Dp K (Off M H') v d → Q v H'
theorem dp_lst_new {K : PySem.W.Frag} {M : List Addr} {H : Hp} {p : Addr} {vs : List V} {ds : List PyData} (ho : Occ M H) (hn : H p = none) (h : DpAll K (Off M H) vs ds) : Dp K (Off M (upd H p (.lst vs))) (.ref p) (.list ds) :=
  .lst (.of (off_upd ho hn)) (h.up (same_offN hn))
theorem dp_tup_new {K : PySem.W.Frag} {M : List Addr} {H : Hp} {p : Addr} {vs : List V} {ds : List PyData} (ho : Occ M H) (hn : H p = none) (h : DpAll K (Off M H) vs ds) : Dp K (Off M (upd H p (.tup vs))) (.ref p) (.tuple ds) :=
  .tup (.of (off_upd ho hn)) (h.up (same_offN hn))
theorem dp_here {K : PySem.W.Frag} {M : List Addr} {H : Hp} {v : V} {d : PyData} (h : Dp K (Off M H) v d) : Dp K H v d := h.up off_same
end GN

/-! part P2 -/
set_option Elab.async false
set_option linter.all false
set_option maxRecDepth 100000
set_option maxHeartbeats 4000000
namespace GN
open PySem PySem.Spec L2
open PyProof.Rows hiding St

/-! ### comprehensions whose elements only make new things -/
section
variable {K : PySem.W.Frag} {D p : Addr} {M : List Addr} {H0 H H' : Hp} {ds : List PyData} {o : HO}
theorem same_upd (k : Same H0 H) (hn : H0 p = none) : Same H0 (upd H p o) := fun b u e => by rw [upd_ne (ne_of_none e hn)]; exact k b u e
theorem same_offD (k : Same H0 H) (hn : H0 D = none) : Same (Off M H0) (Off (D :: M) H) := fun b u e => by
  obtain ⟨e1, n⟩ := off_some e
  rw [off_get (by simp [ne_of_none e1 hn, n])]
  exact k b u e1
theorem seqL_offD {a : Addr} {xs : List V} (hl : SqL K H0 a xs) (hM : SqL K (Off M H0) a xs) (k : Same H0 H) (hn : H0 D = none) : SqL K (Off (D :: M) H) a xs := seqL_mono (same_offD k hn) hM
theorem lc_pL {a : Addr} {xs : List V} {te : TE} {sl : Nat} {σ : St} {Qd : Hp → Prop} (hD : H0 D = none) (hM : Occ M H0) (hds : ds.length = xs.length) (hz : xs.length < sizeLine) (hl : SqL K (Off M H0) a xs)
    (hs : ∀ (i : Nat) x d H (G : VK), xs[i]? = some x → ds[i]? = some d → Same H0 H → Occ (D :: M) H → Same (Off M H0) (Off (D :: M) H) →
      (∀ y H', Same H H' → Dp K (Off (D :: M) H') y d → G y H') → te ((wipe σ [sl]).set sl (some x)) H G)
    (hd : ∀ H vs, Same H0 H → Occ M H → H D = some (.lst vs) → DpAll K (Off M H) vs ds → Qd H) :
    ∃ W : Nat → Nat → Hp → Prop, (∃ m, W 0 m (upd H0 D (.lst []))) ∧ ∀ i m H, W i m H →
      ((Itl K a).stop i H ∧ Qd H) ∨ ((Itl K a).go i H ∧ ∃ Nx : Hp → Prop, (∀ H', Nx H' → ∃ m', m' < m ∧ W (i + 1) m' H') ∧ ∀ x H', (Itl K a).yld i H x H' → gName sl x (wipe σ [sl]) H' fun σ2 H2 => wipe σ2 [sl] = wipe σ [sl] ∧ tYes σ2 H2 fun b H3 =>
        if b = true then te σ2 H3 fun y H4 => ∃ acc, H4 D = some (.lst acc) ∧ acc.length < sizeLine ∧ Nx (upd H4 D (.lst (acc ++ [y]))) else Nx H3) :=
  lc_dpL (S := M) (J := fun _ H => Same H0 H) hds hz (seqL_mono (same_offD (same_new hD) hD) hl) upd_same (same_new hD)
    (fun i x d H vs G hx he hDD kk hJ hG => hs i x d H G hx he hJ (occ_cons (occ_kp hM hJ) hDD) (same_offD hJ hD) fun y H' k dy => hG y H' (k _ _ hDD) (kp_same k) dy (same_upd (hJ.trans k) hD))
    (fun H vs h1 h2 _ hJ => hd H vs hJ (occ_kp hM hJ) h1 (h2.up (off_off fun _ h => List.mem_cons_of_mem _ h)))
theorem lc_pT {a : Addr} {xs : List V} {te : TE} {g : TG} {ws : List Nat} {σ : St} {Qd : Hp → Prop} (hD : H0 D = none) (hM : Occ M H0) (hds : ds.length = xs.length) (hz : xs.length < sizeLine) (hl : SqT K (Off M H0) a xs)
    (hs : ∀ (i : Nat) x d H (G : VK), xs[i]? = some x → ds[i]? = some d → Same H0 H → Occ (D :: M) H → Same (Off M H0) (Off (D :: M) H) →
      (∀ y H', Same H H' → Dp K (Off (D :: M) H') y d → G y H') → g x (wipe σ ws) H fun σ2 H2 => wipe σ2 ws = wipe σ ws ∧ te σ2 H2 G)
    (hd : ∀ H vs, Same H0 H → Occ M H → H D = some (.lst vs) → DpAll K (Off M H) vs ds → Qd H) :
    ∃ W : Nat → Nat → Hp → Prop, (∃ m, W 0 m (upd H0 D (.lst []))) ∧ ∀ i m H, W i m H →
      ((Itt K a).stop i H ∧ Qd H) ∨ ((Itt K a).go i H ∧ ∃ Nx : Hp → Prop, (∀ H', Nx H' → ∃ m', m' < m ∧ W (i + 1) m' H') ∧ ∀ x H', (Itt K a).yld i H x H' → g x (wipe σ ws) H' fun σ2 H2 => wipe σ2 ws = wipe σ ws ∧ tYes σ2 H2 fun b H3 =>
        if b = true then te σ2 H3 fun y H4 => ∃ acc, H4 D = some (.lst acc) ∧ acc.length < sizeLine ∧ Nx (upd H4 D (.lst (acc ++ [y]))) else Nx H3) :=
  lc_dpT (S := M) (J := fun _ H => Same H0 H) hds hz (seqT_mono (same_offD (same_new hD) hD) hl) upd_same (same_new hD)
    (fun i x d H vs G hx he hDD kk hJ hG => hs i x d H G hx he hJ (occ_cons (occ_kp hM hJ) hDD) (same_offD hJ hD) fun y H' k dy => hG y H' (k _ _ hDD) (kp_same k) dy (same_upd (hJ.trans k) hD))
    (fun H vs h1 h2 _ hJ => hd H vs hJ (occ_kp hM hJ) h1 (h2.up (off_off fun _ h => List.mem_cons_of_mem _ h)))
end

/-! ### the parts of data -/
section
variable {K : PySem.W.Frag} {H : Hp}
theorem dp_part {x : V} {p : Part} (h : Dp K H x (dPart p)) : ∃ t a, x = .ref t ∧ SqT K H t [.ref a, .int p.2.1, .int p.2.2] ∧ Dp K H (.ref a) (dT p.1) ∧ SqT K H a (p.1.map V.int) := by
  obtain ⟨t, xs, rfl, hs, hd⟩ := dp_tup h
  cases hd with
  | cons h1 r =>
    cases r with
    | cons h2 r =>
      cases r with
      | cons h3 r =>
        cases r
        obtain ⟨a, rfl, ha⟩ := dT_open h1
        rw [dp_int h2, dp_int h3] at hs
        exact ⟨t, a, rfl, hs, h1, ha⟩
theorem dp_pres {x : V} {ps : Pres} (h : Dp K H x (dPres ps)) : ∃ t xs, x = .ref t ∧ SqT K H t xs ∧ DpAll K H xs (ps.map dPart) ∧ xs.length = ps.length := by
  obtain ⟨t, xs, e, hs, hd⟩ := dp_tup h
  exact ⟨t, xs, e, hs, hd, by rw [dps_len hd, List.length_map]⟩
end

/-! ### the store -/
structure SC (K : PySem.W.Frag) (C : Addr) : Prop where
  cls : Cls K C
  rule : NoAttr K C "rule_here"
  pres : NoAttr K C "present"
  past : NoAttr K C "past"
  kept : NoAttr K C "kept_here"
def fsOf (vr vp vq vk : V) : List (Str × V) := [("rule_here", vr), ("present", vp), ("past", vq), ("kept_here", vk)]
structure Sto (K : PySem.W.Frag) (M : List Addr) (H : Hp) (s C : Addr) (rule : List (List Int)) (pres : Pres) (past : List Pres) (kept : List Int) : Prop where
  sc : SC K C
  mem : s ∈ M
  at_ : ∃ dx vr vp vq vk, H s = some (.ins C dx (fsOf vr vp vq vk)) ∧ Dp K (Off M H) vr (dRule rule) ∧ Dp K (Off M H) vp (dPres pres) ∧ Dp K (Off M H) vq (dPast past) ∧ Dp K (Off M H) vk (dT kept)
section
variable {K : PySem.W.Frag} {M S : List Addr} {H H' : Hp} {s C p : Addr} {rule : List (List Int)} {pres : Pres} {past : List Pres} {kept : List Int}
theorem Sto.kp (h : Sto K M H s C rule pres past kept) (k : Kp S H H') (hS : ∀ b ∈ S, b ∈ M) (hs : s ∉ S) : Sto K M H' s C rule pres past kept := by
  obtain ⟨sc, m, dx, vr, vp, vq, vk, e, h1, h2, h3, h4⟩ := h
  have u := kp_off k hS
  exact ⟨sc, m, dx, vr, vp, vq, vk, k _ _ e hs, h1.up u, h2.up u, h3.up u, h4.up u⟩
theorem Sto.same (h : Sto K M H s C rule pres past kept) (k : Same H H') : Sto K M H' s C rule pres past kept := h.kp (S := []) (kp_same k) (fun _ z => by cases z) (by simp)
/-- one more thing that may change -/
theorem Sto.more (h : Sto K M H s C rule pres past kept) (k : Same H H') (hn : H p = none) : Sto K (p :: M) H' s C rule pres past kept := by
  obtain ⟨sc, m, dx, vr, vp, vq, vk, e, h1, h2, h3, h4⟩ := h
  have u : Same (Off M H) (Off (p :: M) H') := same_offD k hn
  exact ⟨sc, List.mem_cons_of_mem _ m, dx, vr, vp, vq, vk, k _ _ e, h1.up u, h2.up u, h3.up u, h4.up u⟩
end
end GN

/-! part D1 -/
set_option Elab.async false
set_option linter.all false
set_option maxRecDepth 100000
set_option maxHeartbeats 4000000
namespace GN
open PySem PySem.Spec L2
open PyProof.Rows hiding St

section
variable {P : Program} {w : World} {K : PySem.W.Frag} {mg : Str → Option Value} {base : Heap}
/-! ### is_integer -/
abbrev sIsInt : Stmt := top 9
def spIsInt : Sp := fun vs H Q _ => ∃ (n : Int) (lo hi : V), vs = [.int n, lo, hi] ∧ (lo = .non ∨ ∃ l : Int, lo = .int l ∧ l ≤ n) ∧ (hi = .non ∨ ∃ l : Int, hi = .int l ∧ n ≤ l) ∧ Q (.bl true) H
theorem scIsInt : FnScope ["value", "least", "most"] ["value", "least", "most"] (defScope sIsInt) := ⟨rfl, rfl, rfl, by decide +kernel, rfl, by decide +kernel, by decide +kernel⟩
theorem ok_isInt {f : Addr} {fd : FuncData} (B : Bi mg) (F : FunD K "is_integer" "is_integer" (defArgs sIsInt) (defBody sIsInt) (defScope sIsInt) [.non, .non] [] f fd) : FnOk P w K mg base CX0 1 f fd ["value", "least", "most"] spIsInt := by
  refine F.ok scIsInt (fun vs H Q E h => ?_) (fun cdv A outer s H vs Q E hr h => ?_)
  · obtain ⟨n, lo, hi, rfl, _⟩ := h
    rfl
  · obtain ⟨n, lo, hi, rfl, hl, hh, q⟩ := h
    refine ⟨_, pss_cons (ps_if (PW.pt (pw_or (pt_not (pt_val (pz_isT B (pv 0) B.int boot_int))) (pw_or1 (pt_val (pz_isT B (pv 0) B.bool boot_bool))))) (pss_one (ps_ret pe_bl)) pss_nil)
      (pss_one (ps_ret (pe_and (pe_or (pe_cmp (pc_isN (pv 1))) (pe_one (pe_cmp (pc_ge (pv 0) (pv 1))))) (pe_one (pe_or (pe_cmp (pc_isN (pv 2))) (pe_one (pe_cmp (pc_le (pv 0) (pv 2))))))))), ?_⟩
    refine ⟨_, rfl, _, _, _, rfl, tyx_int n, kb_ii, true, rfl, ?_⟩
    refine iteF ?_
    refine ⟨_, rfl, _, _, _, rfl, tyx_int n, kb_ib, false, rfl, ?_⟩
    refine iteF ?_
    have second : ∀ G : VK, G (.bl true) H → tOrV (tIsN (tVar 2)) (tLe (tVar 0) (tVar 2)) (start ["value", "least", "most"] [.int n, lo, hi]) H G := fun G g => by
      rcases hh with rfl | ⟨l, rfl, hl⟩
      · exact ⟨_, rfl, true, rfl, iteT g⟩
      · refine ⟨_, rfl, false, rfl, iteF ?_⟩
        exact ⟨_, rfl, _, rfl, _, _, rfl, rfl, by simp only [decide_eq_true hl]; exact g⟩
    rcases hl with rfl | ⟨l, rfl, hl⟩
    · exact ⟨_, rfl, true, rfl, iteT ⟨true, rfl, iteT (second _ q)⟩⟩
    · refine ⟨_, rfl, false, rfl, iteF ?_⟩
      exact ⟨_, rfl, _, rfl, _, _, rfl, rfl, true, by simp only [decide_eq_true hl], iteT (second _ q)⟩
end
end GN

/-! part D2 -/
set_option Elab.async false
set_option linter.all false
set_option maxRecDepth 100000
set_option maxHeartbeats 4000000
namespace GN
open PySem PySem.Spec L2
open PyProof.Rows hiding St

section
variable {P : Program} {w : World} {K : PySem.W.Frag} {mg : Str → Option Value} {base : Heap}
abbrev spInt1 : Sp := fun vs H Q E => spIsInt (vs ++ [.non, .non]) H Q E
theorem isInt1 {n : Int} {H : Hp} {Q : VK} {E : XK} (h : Q (.bl true) H) : spInt1 [.int n] H Q E := ⟨n, .non, .non, rfl, .inl rfl, .inl rfl, h⟩
theorem all_true {n : Nat} : ((List.replicate n true).map V.bl) = List.replicate n (V.bl true) := List.map_replicate
/-- a list of n times True -/
theorem dps_trues {K : PySem.W.Frag} {H : Hp} : ∀ {n : Nat} {vs : List V}, DpAll K H vs (List.replicate n (.bool true)) → vs = (List.replicate n true).map V.bl
  | 0, _, .nil => rfl
  | n + 1, _, .cons a t => by rw [dp_bl a, dps_trues t]; rfl
theorem small64 {n : Nat} (h : n < 64) : n < sizeLine := Nat.lt_of_lt_of_le h (by decide)
theorem all_id (n : Nat) : (List.replicate n true).all id = true := by
  induction n with
  | zero => rfl
  | succ n ih => rw [List.replicate_succ, List.all_cons, ih]; rfl
/-! ### is_permutation_of -/
abbrev sIsPerm : Stmt := top 10
def spIsPerm (K : PySem.W.Frag) : Sp := fun vs H Q _ => ∃ (v : V) (p : List Int) (k : Nat), vs = [v, .int k] ∧ Dp K H v (dI p) ∧ IsP p k ∧ k < 64 ∧ ∀ H', Same H H' → Q (.bl true) H'
theorem scIsPerm : FnScope ["value", "size", "item"] ["value", "size"] (defScope sIsPerm) := ⟨rfl, rfl, rfl, by decide +kernel, rfl, by decide +kernel, by decide +kernel⟩
theorem ok_isPerm {f : Addr} {fd : FuncData} (B : Bi mg) (F_is_integer : Fk P w K mg base CX0 1 "is_integer" spInt1) (F : Fun K "is_permutation_of" "is_permutation_of" sIsPerm f fd) : FnOk P w K mg base CX0 2 f fd ["value", "size"] (spIsPerm K) := by
  refine F.ok scIsPerm (fun vs H Q E h => ?_) (fun cdv A outer s H vs Q E hr h => ?_)
  · obtain ⟨v, p, k, rfl, _⟩ := h
    rfl
  · obtain ⟨v, p, k, rfl, hv, hp, hk, q⟩ := h
    obtain ⟨a, rfl, hl⟩ := dI_open hv
    refine ⟨_, (pss_cons (ps_if (PW.pt (pw_or (pt_not (pt_val (kz_isT (K := K) B (pv 0) B.list boot_list))) (pw_or (pt_cmpR op_ne (kz_len (K := K) B (pv 0)) (pv 1) (nomark _)) (pw_or1 (pt_not (pt_val (kz_all (K := K) rfl B (pe_lc (own := [("item", 2)]) (g := gName 2) (tt := tYes) rfl scIsPerm.nd (kpi_list (K := K) (pv 0)) (blkOk_by (N := ["value", "size", "item"]) (sc := defScope sIsPerm) (by decide +kernel)) (fun _ _ _ _ _ => (pg_name (i := 2) scIsPerm.nd rfl (Or.inl rfl))) (fun _ _ _ _ _ => pts_nil) (fun _ _ _ _ _ => (pe_fn (F_is_integer.mono (by decide)) hr rfl p0 (pa_cons (pv 2) pa_nil))))))))))) (pss_one (ps_ret pe_bl)) pss_nil)
      (pss_one (ps_ret (pe_cmpR (op_eqD (by exact hr.units)) (pz_sorted (by exact B) (pv 0)) (pe_listRg rfl rfl B.list (prg_1 rfl B.range (pv 1))) (nomark _))))), ?_⟩
    refine ⟨_, rfl, _, _, _, rfl, tyx_list hl, kb_ll, true, rfl, ?_⟩
    refine iteF ?_
    refine ⟨_, rfl, a, _, rfl, .inl hl, _, rfl, rfl, _, rfl, ?_⟩
    have hlen : ((p.map V.int).length : Int) = k := by rw [List.length_map, hp.len]
    refine iteNS (by rw [hlen]) ?_
    refine ⟨_, rfl, a, rfl, ⟨_, hl⟩, fun D hD => ?_⟩
    have hl1 := seqL_mono (same_off_new (S := []) (o := .lst []) hD) (seqL_mono (fun _ _ h => by rw [off_get (by simp)]; exact h) hl)
    refine lc_dpL (K := K) (S := []) (ds := List.replicate p.length (.bool true)) (J := fun _ _ => True) (by rw [List.length_replicate, List.length_map]) (by rw [List.length_map, hp.len]; exact small64 hk) hl1 upd_same trivial (fun i x d H1 ws G hx hd hDD kk _ hG => ?_) (fun H1 ws hDD hw kk _ => ?_)
    · obtain ⟨n, hn, rfl⟩ := ints_get hx
      refine ⟨_, rfl, isInt1 (E := fun _ _ _ => False) (hG _ _ hDD kp_rfl ?_ trivial)⟩
      rw [List.getElem?_replicate] at hd
      split at hd
      · cases hd; exact .bl _
      · cases hd
    · rw [dps_trues hw] at hDD
      refine ⟨D, _, rfl, .of hDD, _, rfl, ?_⟩
      rw [all_id]
      refine iteF ?_
      have hs : Same H H1 := fun b o e => kk b o (by rw [upd_ne (ne_of_none e hD)]; exact e) (by simp [ne_of_none e hD])
      refine ⟨_, rfl, a, _, rfl, hs.seq hl, by rw [hp.len]; exact hk, fun ns' pp perm rising hpp => ?_⟩
      have hsort : ns' = iota k := hp.sorted perm rising
      refine ⟨_, rfl, k, rfl, ⟨by decide, by decide, by omega, by omega, by omega⟩, fun q2 hq2 => ?_⟩
      refine ⟨dI ns', dI (iota k), dI_mk (.of (by rw [upd_ne (ne_of_none upd_same hq2), upd_same])), dI_mk (.of (by rw [upd_same, rgV_iota])), sh_ok (sh_dI 0 _), sh_ok (sh_dI 0 _), ?_⟩
      subst hsort
      rw [SeqAt.eqv_refl _ (sh_dI 0 _).1]
      exact q _ ((hs.trans (same_new hpp)).trans (same_new hq2))
/-! ### is_block, check_stream -/
abbrev sIsBlock : Stmt := top 16
def spIsBlock : Sp := fun vs H Q _ => ∃ n : Int, vs = [.int n] ∧ 0 ≤ n ∧ n ≤ 1000000000 ∧ Q (.bl true) H
theorem scIsBlock : FnScope ["value"] ["value"] (defScope sIsBlock) := ⟨rfl, rfl, rfl, by decide +kernel, rfl, by decide +kernel, by decide +kernel⟩
/-- the module's constants -/
structure Ct (mg : Str → Option Value) : Prop where
  least : ∃ t, mg "LEAST_PLACES" = some (.int 2 t)
  most : ∃ t, mg "MOST_PLACES" = some (.int 12 t)
  block : ∃ t, mg "MOST_BLOCK" = some (.int 1000000000 t)
theorem ok_isBlock {f : Addr} {fd : FuncData} (C : Ct mg) (F_is_integer : Fk P w K mg base CX0 1 "is_integer" spIsInt) (F : Fun K "is_block" "is_block" sIsBlock f fd) : FnOk P w K mg base CX0 2 f fd ["value"] spIsBlock := by
  refine F.ok scIsBlock (fun vs H Q E h => ?_) (fun cdv A outer s H vs Q E hr h => ?_)
  · obtain ⟨n, rfl, _⟩ := h
    rfl
  · obtain ⟨n, rfl, h0, h1, q⟩ := h
    obtain ⟨t, ht⟩ := C.block
    refine ⟨_, pss_one (ps_ret (pe_fn F_is_integer hr rfl p0 (pa_cons (pv 0) (pa_cons pe_int (pa_cons (pe_glob (v := .int 1000000000) rfl ht ⟨_, rfl⟩) pa_nil))))), ?_⟩
    exact ⟨_, rfl, n, _, _, rfl, .inr ⟨0, rfl, h0⟩, .inr ⟨_, rfl, h1⟩, q⟩
abbrev sChkStream : Stmt := top 18
def BlkAll (ns : List Int) : Prop := ∀ n ∈ ns, 0 ≤ n ∧ n ≤ 1000000000
def spChkStream (K : PySem.W.Frag) : Sp := fun vs H Q _ => ∃ (v : V) (ns : List Int), vs = [v] ∧ Dp K H v (dI ns) ∧ BlkAll ns ∧ ∀ H', Same H H' → Q .non H'
theorem scChkStream : FnScope ["value", "index", "item"] ["value"] (defScope sChkStream) := ⟨rfl, rfl, rfl, by decide +kernel, rfl, by decide +kernel, by decide +kernel⟩
theorem ok_chkStream {f : Addr} {fd : FuncData} (B : Bi mg) (F_is_block : Fk P w K mg base CX0 2 "is_block" spIsBlock) (F : Fun K "check_stream" "check_stream" sChkStream f fd) : FnOk P w K mg base CX0 3 f fd ["value"] (spChkStream K) := by
  refine F.ok scChkStream (fun vs H Q E h => ?_) (fun cdv A outer s H vs Q E hr h => ?_)
  · obtain ⟨v, ns, rfl, _⟩ := h
    rfl
  · obtain ⟨v, ns, rfl, hv, hb, q⟩ := h
    obtain ⟨a, rfl, hl⟩ := dI_open hv
    refine ⟨_, pss_cons (ps_if (pt_not (pt_val (pz_isT B (pv 0) B.list boot_list))) (pss_one ps_never) pss_nil)
      (pss_one (ps_for PassesOwn.never rfl (pi_enum rfl B.enum (pa_cons (pv 0) pa_nil)) (pg_tup rfl (pgs_cons (pg_name (i := 1) scChkStream.nd rfl (Or.inl rfl)) (pgs_cons (pg_name (i := 2) scChkStream.nd rfl (Or.inl rfl)) pgs_nil)))
        (pss_one (ps_if (pt_not (pt_val (pe_fn F_is_block hr rfl p0 (pa_cons (pv 2) pa_nil)))) (pss_one ps_never) pss_nil)))), ?_⟩
    refine ⟨_, rfl, _, _, _, rfl, tyx_list hl, kb_ll, true, rfl, iteF ?_⟩
    refine ⟨_, rfl, a, _, rfl, hl, ?_⟩
    refine for_enum2 (xs := ns.map V.int) (s1 := 1) (s2 := 2) (fun i σ H' => (∃ u v, σ = [some (.ref a), u, v]) ∧ Same H H') ⟨⟨_, _, rfl⟩, Same.refl _⟩ (fun i σ H' _ h => h.2.seq hl) (fun i x σ H' T hx hP hT => ?_) (fun σ H' h => q _ h.2)
    obtain ⟨⟨u, v, rfl⟩, hs⟩ := hP
    obtain ⟨n, hn, rfl⟩ := ints_get hx
    have hbn := hb n (List.mem_of_getElem? hn)
    exact ⟨_, rfl, n, rfl, hbn.1, hbn.2, true, rfl, iteF ⟨⟨_, _, rfl⟩, hs.trans (same_new hT)⟩⟩

/-! ### check_rule -/
abbrev sChkRule : Stmt := top 15
def spChkRule (K : PySem.W.Frag) : Sp := fun vs H Q _ => ∃ (v : V) (rule : List (List Int)) (k : Nat), vs = [v] ∧ Dp K H v (dRule rule) ∧ RuleOk k rule ∧ 2 ≤ k ∧ k ≤ 12 ∧ ∀ H', Same H H' → Q .non H'
theorem scChkRule : FnScope ["value", "index", "item"] ["value"] (defScope sChkRule) := ⟨rfl, rfl, rfl, by decide +kernel, rfl, by decide +kernel, by decide +kernel⟩
theorem dps_map {α : Type} {K : PySem.W.Frag} {H : Hp} {f : α → PyData} {xs : List α} {vs : List V} {i : Nat} {v : V} (h : DpAll K H vs (xs.map f)) (hv : vs[i]? = some v) : ∃ x, xs[i]? = some x ∧ Dp K H v (f x) := by
  obtain ⟨d, h1, h2⟩ := dps_at h hv
  rw [List.getElem?_map] at h1
  cases e : xs[i]? with
  | none => rw [e] at h1; cases h1
  | some x => rw [e] at h1; exact ⟨x, rfl, by rw [← Option.some.inj h1] at h2; exact h2⟩
theorem ok_chkRule {f : Addr} {fd : FuncData} (B : Bi mg) (C : Ct mg) (F_is_permutation_of : Fk P w K mg base CX0 2 "is_permutation_of" (spIsPerm K)) (F : Fun K "check_rule" "check_rule" sChkRule f fd) : FnOk P w K mg base CX0 3 f fd ["value"] (spChkRule K) := by
  refine F.ok scChkRule (fun vs H Q E h => ?_) (fun cdv A outer s H vs Q E hr h => ?_)
  · obtain ⟨v, rule, k, rfl, _⟩ := h
    rfl
  · obtain ⟨v, rule, k, rfl, hv, hR, h2, h12, q⟩ := h
    obtain ⟨a, xs, rfl, hl, hd⟩ := dp_list hv
    obtain ⟨t1, ht1⟩ := C.least
    obtain ⟨t2, ht2⟩ := C.most
    have hlen : xs.length = k := by rw [dps_len hd, List.length_map, hR.len]
    refine ⟨_, (pss_cons (ps_if (PW.pt (pw_or (pt_not (pt_val (kz_isT (K := K) B (pv 0) B.list boot_list))) (pw_or1 (pt_not (pt_chain op_le op_le (pe_glob (v := .int 2) rfl ht1 ⟨_, rfl⟩) (kz_len (K := K) B (pv 0)) (pe_glob (v := .int 12) rfl ht2 ⟨_, rfl⟩)))))) (pss_one ps_never) pss_nil)
      (pss_one (ps_for PassesOwn.never rfl (pi_enum rfl B.enum (pa_cons (pv 0) pa_nil)) (pg_tup rfl (pgs_cons (pg_name (i := 1) scChkRule.nd rfl (Or.inl rfl)) (pgs_cons (pg_name (i := 2) scChkRule.nd rfl (Or.inl rfl)) pgs_nil))) (pss_one (ps_if (pt_not (pt_val (pe_fn (F_is_permutation_of.mono (by decide)) hr rfl p0 (pa_cons (pv 2) (pa_cons (kz_len (K := K) B (pv 0)) pa_nil))))) (pss_one ps_never) pss_nil))))), ?_⟩
    refine ⟨_, rfl, _, _, _, rfl, tyx_list hl, kb_ll, true, rfl, iteF ?_⟩
    refine ⟨_, rfl, a, _, rfl, .inl hl, _, _, rfl, rfl, _, rfl, ?_⟩
    refine ite2 (fun _ => ?_) (fun z => absurd (decide_eq_true (show (2 : Int) ≤ xs.length from by omega)) z)
    refine ⟨_, _, rfl, rfl, _, rfl, ?_⟩
    rw [decide_eq_true (show (xs.length : Int) ≤ 12 from by omega)]
    refine iteF ?_
    refine ⟨_, rfl, a, _, rfl, hl, ?_⟩
    refine for_enum2 (xs := xs) (s1 := 1) (s2 := 2) (fun i σ H' => (∃ u v, σ = [some (.ref a), u, v]) ∧ Same H H') ⟨⟨_, _, rfl⟩, Same.refl _⟩ (fun i σ H' _ h => h.2.seq hl) (fun i x σ H' T hx hP hT => ?_) (fun σ H' h => q _ h.2)
    obtain ⟨⟨u, v, rfl⟩, hs⟩ := hP
    obtain ⟨p, hp, dp⟩ := dps_map hd hx
    have hs2 := hs.trans (same_new (o := .tup [.int (i : Nat), x]) hT)
    refine ⟨_, rfl, _, rfl, a, _, rfl, .inl (hs2.seq hl), x, p, xs.length, rfl, dp.up hs2, by rw [hlen]; exact hR.all p (List.mem_of_getElem? hp), by omega, fun H3 hs3 => ?_⟩
    exact ⟨true, rfl, iteF ⟨⟨_, _, rfl⟩, hs2.trans hs3⟩⟩
end
end GN

/-! part D3 -/
set_option Elab.async false
set_option linter.all false
set_option maxRecDepth 100000
set_option maxHeartbeats 4000000
namespace GN
open PySem PySem.Spec L2
open PyProof.Rows hiding St

/-! ### slices by natural bounds -/
theorem cut_from (xs : List V) {j : Nat} (h : j ≤ xs.length) : cutV xs (some (j : Int)) none = xs.drop j := by
  unfold cutV
  rw [HT.sIx_nat, HT.sIx_none, Nat.min_eq_left h, List.take_of_length_le (by rw [List.length_drop]; omega)]
theorem cut_to (xs : List V) {j : Nat} (h : j ≤ xs.length) : cutV xs none (some (j : Int)) = xs.take j := by
  unfold cutV
  rw [HT.sIx_nat, HT.sIx_none, Nat.min_eq_left h, List.drop_zero, Nat.sub_zero]
theorem cut_last (xs : List V) : cutV xs none (some (-1)) = xs.take (xs.length - 1) := by
  have e : HT.sIx xs.length xs.length (some (-1)) = xs.length - 1 := by
    show (if (-1 : Int) < 0 then ((-1 : Int) + (xs.length : Int)).toNat else min (-1 : Int).toNat xs.length) = _
    rw [if_pos (by decide)]
    omega
  unfold cutV
  rw [e, HT.sIx_none, List.drop_zero, Nat.sub_zero]
theorem idx_first {r : List Int} {b : Int} (h : b ∈ r) : (r.map V.int)[r.idxOf b]? = some (.int b) ∧ ∀ (m : Nat) (z : V), m < r.idxOf b → (r.map V.int)[m]? = some z → eqV z (.int b) = false := by
  have hi : r.idxOf b < r.length := List.idxOf_lt_length_of_mem h
  refine ⟨by rw [List.getElem?_map, List.getElem?_eq_getElem hi, List.getElem_idxOf]; rfl, fun m z hm hz => ?_⟩
  obtain ⟨n, hn, rfl⟩ := ints_get hz
  have hne : n ≠ b := fun e => by
    subst e
    have hml : m < r.length := by omega
    rw [List.getElem?_eq_getElem hml] at hn
    have e2 : r[m] = n := Option.some.inj hn
    have := List.not_of_lt_findIdx (p := fun x => x == n) (xs := r) (i := m) hm
    simp [e2] at this
  show eqV (.int n) (.int b) = false
  simp [eqV, hne]
theorem eqV_int (b : Int) : eqV (.int b) (.int b) = true := by simp [eqV]

section
variable {P : Program} {w : World} {K : PySem.W.Frag} {mg : Str → Option Value} {base : Heap}
/-! ### is_row -/
abbrev sIsRow : Stmt := top 17
def spIsRow (K : PySem.W.Frag) : Sp := fun vs H Q _ => ∃ (a : Addr) (xs : List V) (v : V) (r : List Int), vs = [.ref a, v] ∧ SqL K H a xs ∧ Dp K H v (dI r) ∧ r.length = xs.length ∧ r.Nodup ∧ BlkAll r ∧ r.length < 64 ∧ ∀ H', Same H H' → Q (.bl true) H'
theorem scIsRow : FnScope ["rule", "value", "item"] ["rule", "value"] (defScope sIsRow) := ⟨rfl, rfl, rfl, by decide +kernel, rfl, by decide +kernel, by decide +kernel⟩
theorem ok_isRow {f : Addr} {fd : FuncData} (B : Bi mg) (F_is_block : Fk P w K mg base CX0 2 "is_block" spIsBlock) (F : Fun K "is_row" "is_row" sIsRow f fd) : FnOk P w K mg base CX0 3 f fd ["rule", "value"] (spIsRow K) := by
  refine F.ok scIsRow (fun vs H Q E h => ?_) (fun cdv A outer s H vs Q E hr h => ?_)
  · obtain ⟨a, xs, v, r, rfl, _⟩ := h
    rfl
  · obtain ⟨a, xs, v, r, rfl, ha, hv, hlen, hnd, hb, h64, q⟩ := h
    obtain ⟨b, rfl, hl⟩ := dI_open hv
    refine ⟨_, (pss_cons (ps_if (PW.pt (pw_or (pt_not (pt_val (kz_isT (K := K) B (pv 1) B.list boot_list))) (pw_or (pt_cmpR op_ne (kz_len (K := K) B (pv 1)) (kz_len (K := K) B (pv 0)) (nomark _)) (pw_or1 (pt_not (pt_val (kz_all (K := K) rfl B (pe_lc (own := [("item", 2)]) (g := gName 2) (tt := tYes) rfl scIsRow.nd (kpi_list (K := K) (pv 1)) (blkOk_by (N := ["rule", "value", "item"]) (sc := defScope sIsRow) (by decide +kernel)) (fun _ _ _ _ _ => (pg_name (i := 2) scIsRow.nd rfl (Or.inl rfl))) (fun _ _ _ _ _ => pts_nil) (fun _ _ _ _ _ => (pe_fn (F_is_block.mono (by decide)) hr rfl p0 (pa_cons (pv 2) pa_nil))))))))))) (pss_one (ps_ret pe_bl)) pss_nil)
      (pss_one (ps_ret (pe_cmpR op_eq (RZ.pe_lenSetI rfl B.len rfl B.set (pv 1)) (kz_len (K := K) B (pv 1)) (nomark _))))), ?_⟩
    refine ⟨_, rfl, _, _, _, rfl, tyx_list hl, kb_ll, true, rfl, iteF ?_⟩
    refine ⟨_, rfl, b, _, rfl, .inl hl, _, rfl, a, _, rfl, .inl ha, rfl, _, rfl, ?_⟩
    refine iteNS (by rw [List.length_map, hlen]) ?_
    refine ⟨_, rfl, b, rfl, ⟨_, hl⟩, fun D hD => ?_⟩
    have hl1 := seqL_mono (same_off_new (S := []) (o := .lst []) hD) (seqL_mono (fun _ _ h => by rw [off_get (by simp)]; exact h) hl)
    refine lc_dpL (K := K) (S := []) (ds := List.replicate r.length (.bool true)) (J := fun _ _ => True) (by rw [List.length_replicate, List.length_map]) (by rw [List.length_map]; exact small64 h64) hl1 upd_same trivial (fun i x d H1 ws G hx hd hDD kk _ hG => ?_) (fun H1 ws hDD hw kk _ => ?_)
    · obtain ⟨n, hn, rfl⟩ := ints_get hx
      have hbn := hb n (List.mem_of_getElem? hn)
      refine ⟨_, rfl, n, rfl, hbn.1, hbn.2, hG _ _ hDD kp_rfl ?_ trivial⟩
      rw [List.getElem?_replicate] at hd
      split at hd
      · cases hd; exact .bl _
      · cases hd
    · rw [dps_trues hw] at hDD
      refine ⟨D, _, rfl, .of hDD, _, rfl, ?_⟩
      rw [all_id]
      refine iteF ?_
      have hs : Same H H1 := fun b o e => kk b o (by rw [upd_ne (ne_of_none e hD)]; exact e) (by simp [ne_of_none e hD])
      refine ⟨_, rfl, b, _, rfl, hs.seq hl, hnd, by omega, _, rfl, b, _, rfl, .inl (hs.seq hl), rfl, ?_⟩
      rw [decide_eq_true (show (V.int (r.length : Nat)) = V.int ((r.map V.int).length : Nat) from by rw [List.length_map])]
      exact q _ hs
/-! ### check_block -/
abbrev sChkBlock : Stmt := top 25
def spChkBlock : Sp := fun vs H Q _ => ∃ n : Int, vs = [.int n] ∧ 0 ≤ n ∧ n ≤ 1000000000 ∧ Q .non H
theorem scChkBlock : FnScope ["value"] ["value"] (defScope sChkBlock) := ⟨rfl, rfl, rfl, by decide +kernel, rfl, by decide +kernel, by decide +kernel⟩
theorem ok_chkBlock {f : Addr} {fd : FuncData} (F_is_block : Fk P w K mg base CX0 2 "is_block" spIsBlock) (F : Fun K "check_block" "check_block" sChkBlock f fd) : FnOk P w K mg base CX0 3 f fd ["value"] spChkBlock := by
  refine F.ok scChkBlock (fun vs H Q E h => ?_) (fun cdv A outer s H vs Q E hr h => ?_)
  · obtain ⟨n, rfl, _⟩ := h
    rfl
  · obtain ⟨n, rfl, h0, h1, q⟩ := h
    refine ⟨_, (pss_one (ps_if (pt_not (pt_val (pe_fn (F_is_block.mono (by decide)) hr rfl p0 (pa_cons (pv 0) pa_nil)))) (pss_one ps_never) pss_nil)), ?_⟩
    exact ⟨_, rfl, n, rfl, h0, h1, true, rfl, iteF q⟩
/-! ### check_rows -/
abbrev sChkRows : Stmt := top 24
structure RowsOk (k : Nat) (rows : List (List Int)) : Prop where
  pos : 0 < rows.length
  lt : rows.length < 64
  row : ∀ (i : Nat) r, rows[i]? = some r → RowOk rows.length i k r
def dRows (rows : List (List Int)) : PyData := .list (rows.map dI)
def spChkRows (K : PySem.W.Frag) : Sp := fun vs H Q _ => ∃ (a : Addr) (xs : List V) (v : V) (rows : List (List Int)) (k : Nat), vs = [.ref a, v] ∧ SqL K H a xs ∧ xs.length = k ∧ k < 64 ∧ Dp K H v (dRows rows) ∧ RowsOk k rows ∧ ∀ H', Same H H' → Q .non H'
theorem scChkRows : FnScope ["rule", "value", "index", "row", "block"] ["rule", "value"] (defScope sChkRows) := ⟨rfl, rfl, rfl, by decide +kernel, rfl, by decide +kernel, by decide +kernel⟩
theorem ok_chkRows {f : Addr} {fd : FuncData} (B : Bi mg) (F_is_row : Fk P w K mg base CX0 3 "is_row" (spIsRow K)) (F : Fun K "check_rows" "check_rows" sChkRows f fd) : FnOk P w K mg base CX0 4 f fd ["rule", "value"] (spChkRows K) := by
  refine F.ok scChkRows (fun vs H Q E h => ?_) (fun cdv A outer s H vs Q E hr h => ?_)
  · obtain ⟨a, xs, v, rows, k, rfl, _⟩ := h
    rfl
  · obtain ⟨a, xs, v, rows, k, rfl, ha, hk, hk64, hv, hR, q⟩ := h
    obtain ⟨b, ys, rfl, hl, hd⟩ := dp_list hv
    have hlen : ys.length = rows.length := by rw [dps_len hd, List.length_map]
    refine ⟨_, (pss_cons (ps_if (PW.pt (pw_or (pt_not (pt_val (kz_isT (K := K) B (pv 1) B.list boot_list))) (pw_or1 (pt_cmpR (op_eqD (by exact hr.units)) (pv 1) (pe_lst pa_nil) (nomark _))))) (pss_one ps_never) pss_nil)
      (pss_one (ps_for PassesOwn.never rfl (pi_enum rfl B.enum (pa_cons (pv 1) pa_nil)) (pg_tup rfl (pgs_cons (pg_name (i := 2) scChkRows.nd rfl (Or.inr rfl)) (pgs_cons (pg_name (i := 3) scChkRows.nd rfl (Or.inl rfl)) pgs_nil))) (pss_one (ps_if (PW.pt (pw_or (pt_not (pt_val (pe_fn (F_is_row.mono (by decide)) hr rfl p0 (pa_cons (pv 0) (pa_cons (pv 3) pa_nil))))) (pw_or1 (pt_not (pt_val (kz_all (K := K) rfl B (pe_lc (own := [("block", 4)]) (g := gName 4) (tt := tYes) rfl scChkRows.nd (kpi_list (K := K) (pv 3)) (blkOk_by (N := ["rule", "value", "index", "row", "block"]) (sc := defScope sChkRows) (by decide +kernel)) (fun _ _ _ _ _ => (pg_name (i := 4) scChkRows.nd rfl (Or.inl rfl))) (fun _ _ _ _ _ => pts_nil) (fun _ _ _ _ _ => (pe_cmpR op_eq (pe_op op_mod (pv 4) (kz_len (K := K) B (pv 1))) (pv 2) (nomark _)))))))))) (pss_one ps_never) pss_nil))))), ?_⟩
    refine ⟨_, rfl, _, _, _, rfl, tyx_list hl, kb_ll, true, rfl, iteF ?_⟩
    refine ⟨_, rfl, by show 0 ≤ sizeLine; decide, fun e he => ?_⟩
    have hs0 := same_new (o := .lst []) he
    refine ⟨dRows rows, .list [], hv.up hs0, .lst (.of upd_same) .nil, sh_ok (n := 2) (sh_list (sh_map fun i => sh_dI 0 i)), by decide, false, ?_, iteF ?_⟩
    · cases rows with
      | nil => exact absurd hR.pos (by simp)
      | cons r rs => simp [dRows, PyData.eqv, PyData.eqvAll]
    refine ⟨_, rfl, b, _, rfl, hs0.seq hl, ?_⟩
    refine for_enum2 (xs := ys) (s1 := 2) (s2 := 3) (fun i σ H' => (∃ u v, σ = [some (.ref a), some (.ref b), u, v, none]) ∧ Same H H') ⟨⟨_, _, rfl⟩, hs0⟩ (fun i σ H' _ h => h.2.seq hl) (fun i x σ H' T hx hP hT => ?_) (fun σ H' h => q _ h.2)
    obtain ⟨⟨u, v, rfl⟩, hs⟩ := hP
    obtain ⟨r, hr', dr⟩ := dps_map hd hx
    have hs2 := hs.trans (same_new (o := .tup [.int (i : Nat), x]) hT)
    have ok := hR.row i r hr'
    refine ⟨_, rfl, _, rfl, a, xs, x, r, rfl, hs2.seq ha, dr.up hs2, by rw [ok.len, hk], ok.nd, fun n hn => ⟨(ok.blk n hn).1, (ok.blk n hn).2.1⟩, by rw [ok.len]; exact hk64, fun H3 hs3 => ?_⟩
    refine ⟨true, rfl, iteF ?_⟩
    have hs4 := hs2.trans hs3
    obtain ⟨c, rfl, hc⟩ := dI_open (dr.up hs4)
    refine ⟨_, rfl, c, rfl, ⟨_, hc⟩, fun D hD => ?_⟩
    have hl1 := seqL_mono (same_off_new (S := []) (o := .lst []) hD) (seqL_mono (fun _ _ h => by rw [off_get (by simp)]; exact h) hc)
    refine lc_dpL (K := K) (S := []) (ds := List.replicate r.length (.bool true)) (J := fun _ _ => True) (by rw [List.length_replicate, List.length_map]) (by rw [List.length_map, ok.len]; exact small64 hk64) hl1 upd_same trivial (fun j x d H5 ws G hx hd' hDD kk _ hG => ?_) (fun H5 ws hDD hw kk _ => ?_)
    · obtain ⟨n, hn, rfl⟩ := ints_get hx
      have hbn := (ok.blk n (List.mem_of_getElem? hn)).2.2
      have hs5 : Same H H5 := fun p o e => kk p o (by rw [upd_ne (ne_of_none (hs4 p o e) hD)]; exact hs4 p o e) (by simp [ne_of_none (hs4 p o e) hD])
      refine ⟨_, rfl, _, rfl, b, _, rfl, .inl (hs5.seq hl), _, _, rfl, rfl, (by show (0 : Int) < (ys.length : Int); have := hR.pos; omega), _, rfl, rfl, ?_⟩
      rw [decide_eq_true (show V.int (n % (ys.length : Int)) = V.int (i : Nat) from by rw [hlen, hbn])]
      refine hG _ _ hDD kp_rfl ?_ trivial
      rw [List.getElem?_replicate] at hd'
      split at hd'
      · cases hd'; exact .bl _
      · cases hd'
    · rw [dps_trues hw] at hDD
      refine ⟨D, _, rfl, .of hDD, _, rfl, ?_⟩
      rw [all_id]
      refine iteF ?_
      have hs5 : Same H H5 := fun p o e => kk p o (by rw [upd_ne (ne_of_none (hs4 p o e) hD)]; exact hs4 p o e) (by simp [ne_of_none (hs4 p o e) hD])
      exact ⟨⟨_, _, rfl⟩, hs5⟩
end
end GN

/-! part D4 -/
set_option Elab.async false
set_option linter.all false
set_option maxRecDepth 100000
set_option maxHeartbeats 4000000
namespace GN
open PySem PySem.Spec L2
open PyProof.Rows hiding St

theorem getD_int {l : List Int} {j : Nat} (h : j < l.length) : l[j]? = some (l.getD j 0) := by
  rw [List.getD_eq_getElem?_getD, List.getElem?_eq_getElem h]; rfl
section
variable {P : Program} {w : World} {K : PySem.W.Frag} {mg : Str → Option Value} {base : Heap}
/-! ### moved -/
abbrev sMoved : Stmt := top 19
def spMoved (K : PySem.W.Frag) : Sp := fun vs H Q _ => ∃ (M : List Addr) (v u : V) (p r : List Int), vs = [v, u] ∧ Occ M H ∧ Dp K H v (dI p) ∧ Dp K H u (dI r) ∧ IsP p r.length ∧ r.length < 64 ∧ ResD K M H (dI (mv p r)) Q
theorem scMoved : FnScope ["permutation", "row", "found", "place", "item"] ["permutation", "row"] (defScope sMoved) := ⟨rfl, rfl, rfl, by decide +kernel, rfl, by decide +kernel, by decide +kernel⟩
theorem ok_moved {f : Addr} {fd : FuncData} (B : Bi mg) (F : Fun K "moved" "moved" sMoved f fd) : FnOk P w K mg base CX0 1 f fd ["permutation", "row"] (spMoved K) := by
  refine F.ok scMoved (fun vs H Q E h => ?_) (fun cdv A outer s H vs Q E hr h => ?_)
  · obtain ⟨M, v, u, p, r, rfl, _⟩ := h
    rfl
  · obtain ⟨M, v, u, p, r, rfl, hM, hv, hu, hp, h64, q⟩ := h
    obtain ⟨a, rfl, ha⟩ := dI_open hv
    obtain ⟨b, rfl, hb⟩ := dI_open hu
    refine ⟨_, (pss_cons (ps_set (i := 2) scMoved.nd rfl (Or.inl rfl) (kz_list (K := K) B (pv 1)))
      (pss_cons (ps_for PassesOwn.never rfl (pi_enum rfl B.enum (pa_cons (pv 1) pa_nil)) (pg_tup rfl (pgs_cons (pg_name (i := 3) scMoved.nd rfl (Or.inl rfl)) (pgs_cons (pg_name (i := 4) scMoved.nd rfl (Or.inl rfl)) pgs_nil))) (pss_one (ps_asg (pv 4) (pg_sub (pv 2) (pe_ix (kix_list (K := K)) (pv 0) (pv 3) (fun _ _ => rfl)) L2.set_list))))
      (pss_one (ps_ret (pv 2))))), ?_⟩
    refine ⟨_, rfl, b, _, rfl, .inl hb, fun l hl => ?_⟩
    have hs0 := same_new (o := .lst (r.map V.int)) hl
    refine ⟨_, rfl, b, _, rfl, hs0.seq hb, ?_⟩
    refine for_enum2 (xs := r.map V.int) (s1 := 3) (s2 := 4) (fun i σ H' => (∃ x y, σ = [some (.ref a), some (.ref b), some (.ref l), x, y]) ∧ H' l = some (.lst ((mvTo p r i).map V.int)) ∧ Same H H') ⟨⟨_, _, rfl⟩, upd_same, hs0⟩ (fun i σ H' _ h => h.2.2.seq hb) (fun i x σ H' T hx hP hT => ?_) (fun σ H' hP => ?_)
    · obtain ⟨⟨x1, y1, rfl⟩, hl', hs⟩ := hP
      obtain ⟨n, hn, rfl⟩ := ints_get hx
      have hi : i < r.length := (List.getElem?_eq_some_iff.mp hn).1
      have hs2 := hs.trans (same_new (o := .tup [.int (i : Nat), .int n]) hT)
      have hip : i < p.length := by rw [hp.len]; exact hi
      have ep := getD_int hip
      have hrg := hp.rg _ (List.mem_of_getElem? ep)
      have hl2 : upd H' T (.tup [.int (i : Nat), .int n]) l = some (.lst ((mvTo p r i).map V.int)) := by rw [upd_ne (ne_of_none hl' hT)]; exact hl'
      refine ⟨_, rfl, _, rfl, _, rfl, _, rfl, a, _, _, _, rfl, rfl, hs2.seq ha, ints_at ep, ?_⟩
      refine ⟨l, _, _, _, rfl, rfl, hl2, ixN_int hrg.1 (by rw [List.length_map, mvTo_len]; exact hrg.2), ⟨_, _, rfl⟩, ?_, ?_⟩
      · rw [upd_same, map_set_int, mvTo_succ, getD_of hn]
      · intro c o e
        have nl : c ≠ l := ne_of_none e hl
        rw [upd_ne nl]
        exact hs2 c o e
    · obtain ⟨⟨x1, y1, rfl⟩, hl', hs⟩ := hP
      rw [List.length_map] at hl'
      refine ⟨_, rfl, q _ _ hs (dI_mk (.of ?_))⟩
      rw [off_get (occ_new hM hl)]
      exact hl'
/-! ### row_after_hit, row_after_miss, stepped -/
abbrev sHit : Stmt := top 20
def spHit (K : PySem.W.Frag) : Sp := fun vs H Q _ => ∃ (M : List Addr) (v u : V) (rule : List (List Int)) (r : List Int) (j : Nat), vs = [v, u, .int j] ∧ Occ M H ∧ Dp K H v (dRule rule) ∧ Dp K H u (dI r) ∧ RuleOk r.length rule ∧ j < r.length ∧ r.length < 64 ∧ ResD K M H (dI (mv (rule.getD j []) r)) Q
theorem scHit : FnScope ["rule", "row", "place"] ["rule", "row", "place"] (defScope sHit) := ⟨rfl, rfl, rfl, by decide +kernel, rfl, by decide +kernel, by decide +kernel⟩
theorem ok_hit {f : Addr} {fd : FuncData} (F_moved : Fk P w K mg base CX0 1 "moved" (spMoved K)) (F : Fun K "row_after_hit" "row_after_hit" sHit f fd) : FnOk P w K mg base CX0 2 f fd ["rule", "row", "place"] (spHit K) := by
  refine F.ok scHit (fun vs H Q E h => ?_) (fun cdv A outer s H vs Q E hr h => ?_)
  · obtain ⟨M, v, u, rule, r, j, rfl, _⟩ := h
    rfl
  · obtain ⟨M, v, u, rule, r, j, rfl, hM, hv, hu, hR, hj, h64, q⟩ := h
    obtain ⟨a, xs, rfl, ha, hd⟩ := dp_list hv
    refine ⟨_, (pss_one (ps_ret (pe_fn (F_moved.mono (by decide)) hr rfl p0 (pa_cons (pe_ix (kix_list (K := K)) (pv 0) (pv 2) (fun _ _ => rfl)) (pa_cons (pv 1) pa_nil))))), ?_⟩
    have hj' : j < rule.length := by rw [hR.len]; exact hj
    have e : rule[j]? = some (rule.getD j []) := by rw [List.getD_eq_getElem?_getD, List.getElem?_eq_getElem hj']; rfl
    obtain ⟨x, hx, dx⟩ := dps_get (d := dI (rule.getD j [])) (i := j) hd (by rw [List.getElem?_map, e]; rfl)
    refine ⟨_, rfl, _, rfl, a, _, _, _, rfl, rfl, ha, atI_nat hx, ?_⟩
    exact ⟨_, rfl, M, x, u, _, r, rfl, hM, dx, hu, hR.all _ (List.mem_of_getElem? e), h64, q⟩
abbrev sMiss : Stmt := top 21
def spMiss (K : PySem.W.Frag) : Sp := fun vs H Q _ => ∃ (M : List Addr) (u : V) (r : List Int) (b : Int), vs = [u, .int b] ∧ Occ M H ∧ Dp K H u (dI r) ∧ 1 ≤ r.length ∧ r.length < 64 ∧ ResD K M H (dI (r.drop 1 ++ [b])) Q
theorem scMiss : FnScope ["row", "block"] ["row", "block"] (defScope sMiss) := ⟨rfl, rfl, rfl, by decide +kernel, rfl, by decide +kernel, by decide +kernel⟩
theorem ok_miss {f : Addr} {fd : FuncData} (F : Fun K "row_after_miss" "row_after_miss" sMiss f fd) : FnOk P w K mg base CX0 1 f fd ["row", "block"] (spMiss K) := by
  refine F.ok scMiss (fun vs H Q E h => ?_) (fun cdv A outer s H vs Q E hr h => ?_)
  · obtain ⟨M, u, r, b, rfl, _⟩ := h
    rfl
  · obtain ⟨M, u, r, b, rfl, hM, hu, h1, h64, q⟩ := h
    obtain ⟨a, rfl, ha⟩ := dI_open hu
    refine ⟨_, (pss_one (ps_ret (pe_lst (StX.pa_star (pe_slice sl_list (pv 0) (po_some pe_int) po_none) (pa_cons (pv 1) pa_nil))))), ?_⟩
    refine ⟨_, rfl, _, rfl, a, _, rfl, ha, fun p hp => ?_⟩
    have hc : cutV (r.map V.int) (some 1) none = (r.drop 1).map V.int := by
      rw [show (1 : Int) = ((1 : Nat) : Int) from rfl, cut_from _ (by rw [List.length_map]; exact h1), List.map_drop]
    rw [hc]
    refine ⟨p, _, rfl, .inr (.of upd_same), _, rfl, ?_, fun l hl => ?_⟩
    · exact Nat.le_of_lt (small64 (by simp; omega))
    · refine q _ _ ((same_new hp).trans (same_new hl)) (dI_mk (.of ?_))
      rw [off_upd (occ_upd hM) hl, List.map_append]
      rfl
abbrev sStepped : Stmt := top 22
def dStp (rule : List (List Int)) (r : List Int) (b : Int) : PyData := .tuple [.bool (stp rule r b).1, dI (stp rule r b).2]
def spStepped (K : PySem.W.Frag) : Sp := fun vs H Q _ => ∃ (M : List Addr) (v u : V) (rule : List (List Int)) (r : List Int) (b : Int), vs = [v, u, .int b] ∧ Occ M H ∧ Dp K H v (dRule rule) ∧ Dp K H u (dI r) ∧ RuleOk r.length rule ∧ 1 ≤ r.length ∧ r.length < 64 ∧ ResD K M H (dStp rule r b) Q
theorem scStepped : FnScope ["rule", "row", "block"] ["rule", "row", "block"] (defScope sStepped) := ⟨rfl, rfl, rfl, by decide +kernel, rfl, by decide +kernel, by decide +kernel⟩
theorem dp_pair {M : List Addr} {H : Hp} {p : Addr} {x y : V} {d e : PyData} (ho : Occ M H) (hn : H p = none) (hx : Dp K (Off M H) x d) (hy : Dp K (Off M H) y e) : Dp K (Off M (upd H p (.tup [x, y]))) (.ref p) (.tuple [d, e]) :=
  dp_tup_new ho hn (.cons hx (.cons hy .nil))
theorem ok_stepped {f : Addr} {fd : FuncData} (F_row_after_hit : Fk P w K mg base CX0 2 "row_after_hit" (spHit K)) (F_row_after_miss : Fk P w K mg base CX0 1 "row_after_miss" (spMiss K)) (F : Fun K "stepped" "stepped" sStepped f fd) : FnOk P w K mg base CX0 3 f fd ["rule", "row", "block"] (spStepped K) := by
  refine F.ok scStepped (fun vs H Q E h => ?_) (fun cdv A outer s H vs Q E hr h => ?_)
  · obtain ⟨M, v, u, rule, r, b, rfl, _⟩ := h
    rfl
  · obtain ⟨M, v, u, rule, r, b, rfl, hM, hv, hu, hR, h1, h64, q⟩ := h
    obtain ⟨a, rfl, ha⟩ := dI_open hu
    refine ⟨_, (pss_cons (ps_if (pt_cmpR (kop_in (K := K)) (pv 2) (pv 1) rfl) (pss_one (ps_ret (pe_tup (pa_cons pe_bl (pa_cons (pe_fn (F_row_after_hit.mono (by decide)) hr rfl p0 (pa_cons (pv 0) (pa_cons (pv 1) (pa_cons (pe_bm PySem.F.plainAttrs_list PySem.F.slot_list_index PySem.F.type_list_index mt_index (pv 1) (pa_cons (pv 2) pa_nil)) pa_nil)))) pa_nil))))) pss_nil)
      (pss_one (ps_ret (pe_tup (pa_cons pe_bl (pa_cons (pe_fn (F_row_after_miss.mono (by decide)) hr rfl p0 (pa_cons (pv 1) (pa_cons (pv 2) pa_nil))) pa_nil)))))), ?_⟩
    refine ⟨_, rfl, _, rfl, a, _, rfl, .inl ha, rfl, flat_ints r, _, rfl, ?_⟩
    rw [if_neg Bool.false_ne_true, inV_ints]
    by_cases hm : b ∈ r
    · rw [decide_eq_true hm]
      refine iteT ?_
      refine ⟨_, rfl, _, rfl, _, rfl, .inl ⟨rfl, _, ha⟩, _, rfl, a, _, _, _, _, rfl, rfl, ha, rfl, flat_ints r, (idx_first hm).1, eqV_int b, (idx_first hm).2, ?_⟩
      refine ⟨M, v, _, rule, r, r.idxOf b, rfl, hM, hv, hu, hR, List.idxOf_lt_length_of_mem hm, h64, fun x H' hs dx => ?_⟩
      refine ⟨by show 2 ≤ sizeLine; decide, fun p hp => ?_⟩
      refine q _ _ (hs.trans (same_new hp)) ?_
      have := dp_pair (occ_kp hM hs) hp (.bl true) dx
      unfold dStp stp
      rw [if_pos hm]
      exact this
    · rw [decide_eq_false hm]
      refine iteF ?_
      refine ⟨_, rfl, _, rfl, M, _, r, b, rfl, hM, hu, h1, h64, fun x H' hs dx => ?_⟩
      refine ⟨by show 2 ≤ sizeLine; decide, fun p hp => ?_⟩
      refine q _ _ (hs.trans (same_new hp)) ?_
      have := dp_pair (occ_kp hM hs) hp (.bl false) dx
      unfold dStp stp
      rw [if_neg hm]
      exact this
end
end GN

/-! part D5 -/
set_option Elab.async false
set_option linter.all false
set_option maxRecDepth 100000
set_option maxHeartbeats 4000000
namespace GN
open PySem PySem.Spec L2
open PyProof.Rows hiding St

abbrev cls0 : Stmt := top 26
def pres0 (rows : List (List Int)) : Pres := rows.map fun r => (r, 0, 0)
theorem dps_nth {α : Type} {K : PySem.W.Frag} {H : Hp} {f : α → PyData} {g : α → PyData} {xs : List α} {vs : List V} {i : Nat} {v : V} {d : PyData} (h : DpAll K H vs (xs.map f)) (hv : vs[i]? = some v) (hd : (xs.map g)[i]? = some d) : ∃ x, xs[i]? = some x ∧ Dp K H v (f x) ∧ d = g x := by
  obtain ⟨x, e, dx⟩ := dps_map h hv
  rw [List.getElem?_map, e] at hd
  exact ⟨x, e, dx, (Option.some.inj hd).symm⟩
section
variable {P : Program} {w : World} {K : PySem.W.Frag} {mg : Str → Option Value} {base : Heap}
/-! ### Cache.__init__ -/
abbrev sInit : Stmt := inClass cls0 1
structure InitOk (k : Nat) (rule : List (List Int)) (rows : List (List Int)) : Prop where
  rule : RuleOk k rule
  lo : 2 ≤ k
  hi : k ≤ 12
  rows : RowsOk k rows
def spInit (K : PySem.W.Frag) : Sp := fun vs H Q _ => ∃ (M : List Addr) (s C dx : Addr) (v u : V) (rule rows : List (List Int)) (k : Nat), vs = [.ref s, v, u] ∧ s ∈ M ∧ Occ M H ∧ H s = some (.ins C dx []) ∧ SC K C ∧
  Dp K (Off M H) v (dRule rule) ∧ Dp K (Off M H) u (dRows rows) ∧ InitOk k rule rows ∧ ∀ H', Kp [s] H H' → Occ M H' → Sto K M H' s C rule (pres0 rows) [] [] → Q .non H'
theorem scInit : FnScope ["self", "rule", "rows", "permutation", "row"] ["self", "rule", "rows"] (defScope sInit) := ⟨rfl, rfl, rfl, by decide +kernel, rfl, by decide +kernel, by decide +kernel⟩
theorem ok_init {f : Addr} {fd : FuncData} (B : Bi mg) (F_check_rule : Fk P w K mg base CX0 3 "check_rule" (spChkRule K)) (F_check_rows : Fk P w K mg base CX0 4 "check_rows" (spChkRows K)) (F : Fun K "__init__" "Cache.__init__" sInit f fd) :
    FnOk P w K mg base CX0 5 f fd ["self", "rule", "rows"] (spInit K) := by
  refine F.ok scInit (fun vs H Q E h => ?_) (fun cdv A outer s0 H vs Q E hr h => ?_)
  · obtain ⟨M, s, C, dx, v, u, rule, rows, k, rfl, _⟩ := h
    rfl
  · obtain ⟨M, s, C, dx, v, u, rule, rows, k, rfl, hm, hM, hs, sc, hv, hu, ok, q⟩ := h
    obtain ⟨a, xs, rfl, ha, hd⟩ := dp_list hv
    obtain ⟨b, ys, rfl, hb, he⟩ := dp_list hu
    have hlx : xs.length = k := by rw [dps_len hd, List.length_map, ok.rule.len]
    have hly : ys.length = rows.length := by rw [dps_len he, List.length_map]
    refine ⟨_, (pss_cons (ps_expr (pe_fn (F_check_rule.mono (by decide)) hr rfl p0 (pa_cons (pv 1) pa_nil)))
      (pss_cons (ps_expr (pe_fn (F_check_rows.mono (by decide)) hr rfl p0 (pa_cons (pv 1) (pa_cons (pv 2) pa_nil))))
      (pss_cons (ps_fld (pv 0) (pe_lc (own := [("permutation", 3)]) (g := gName 3) (tt := tYes) rfl scInit.nd (kpi_list (K := K) (pv 1)) (blkOk_by (N := ["self", "rule", "rows", "permutation", "row"]) (sc := defScope sInit) (by decide +kernel)) (fun _ _ _ _ _ => (pg_name (i := 3) scInit.nd rfl (Or.inl rfl))) (fun _ _ _ _ _ => pts_nil) (fun _ _ _ _ _ => (kz_list (K := K) B (pv 3)))) rfl)
      (pss_cons (ps_fld (pv 0) (kz_tuple (K := K) B (pe_lc (own := [("row", 4)]) (g := gName 4) (tt := tYes) rfl scInit.nd (kpi_list (K := K) (pv 2)) (blkOk_by (N := ["self", "rule", "rows", "permutation", "row"]) (sc := defScope sInit) (by decide +kernel)) (fun _ _ _ _ _ => (pg_name (i := 4) scInit.nd rfl (Or.inl rfl))) (fun _ _ _ _ _ => pts_nil) (fun _ _ _ _ _ => (pe_tup (pa_cons (kz_tuple (K := K) B (pv 4)) (pa_cons pe_int (pa_cons pe_int pa_nil))))))) rfl)
      (pss_cons (ps_fld (pv 0) (pe_tup pa_nil) rfl)
      (pss_one (ps_fld (pv 0) (pe_tup pa_nil) rfl))))))), ?_⟩
    -- check_rule, check_rows
    refine ⟨_, rfl, .ref a, rule, k, rfl, dp_here hv, ok.rule, ok.lo, ok.hi, fun H1 s1 => ?_⟩
    refine ⟨_, rfl, _, rfl, a, xs, .ref b, rows, k, rfl, seqL_mono (off_same.trans s1) ha, hlx, by have := ok.hi; omega, dp_here (hu.up (same_off s1)), ok.rows, fun H2 s2' => ?_⟩
    have s2 := s1.trans s2'
    have hM2 := occ_kp hM s2
    have o2 : Same (Off M H) (Off M H2) := same_off s2
    -- self.rule_here
    refine ⟨_, rfl, a, rfl, ⟨_, seqL_mono off_same (seqL_mono o2 ha)⟩, fun D hD => ?_⟩
    refine lc_pL (K := K) (M := M) (ds := rule.map dI) hD hM2 (by rw [List.length_map, ok.rule.len, hlx]) (by rw [hlx]; exact small64 (by have := ok.hi; omega)) (seqL_mono o2 ha) (fun i x d H3 G hx hd' hs3 hO up hG => ?_) (fun H3 vs3 hs3 hM3 hD3 hds3 => ?_)
    · obtain ⟨p, hp, dx', rfl⟩ := dps_nth (hd.up o2) hx hd'
      obtain ⟨c, rfl, hc⟩ := dI_open (dx'.up up)
      refine ⟨_, rfl, c, _, rfl, .inl (seqL_mono off_same hc), fun l hl => hG _ _ (same_new hl) (dI_mk (.of (off_upd hO hl)))⟩
    have s3 := s2.trans hs3
    have e3 := s3 _ _ hs
    refine ⟨_, rfl, s, C, dx, [], rfl, e3, sc.cls, sc.rule, by decide, ?_⟩
    have k4 : Kp [s] H3 (upd H3 s (.ins C dx (putF "rule_here" (.ref D) []))) := kp_in List.mem_cons_self
    generalize h4 : upd H3 s (.ins C dx (putF "rule_here" (.ref D) [])) = H4 at k4
    have e4 : H4 s = some (.ins C dx (putF "rule_here" (.ref D) [])) := by rw [← h4, upd_same]
    have hM4 : Occ M H4 := by rw [← h4]; exact occ_upd hM3
    have o4 : Same (Off M H3) (Off M H4) := kp_off k4 fun c hc => by rw [List.mem_singleton.mp hc]; exact hm
    have o04 : Same (Off M H) (Off M H4) := (same_off s3).trans o4
    have k04 : Kp [s] H H4 := kp_trans (kp_same s3) k4
    have dr4 : Dp K (Off M H4) (.ref D) (dRule rule) := (Dp.lst (.of (by rw [off_get (occ_new hM2 hD)]; exact hD3)) hds3 : Dp K (Off M H3) (.ref D) (dRule rule)).up o4
    -- self.present
    refine ⟨_, rfl, b, rfl, ⟨_, seqL_mono off_same (seqL_mono o04 hb)⟩, fun E1 hE1 => ?_⟩
    refine lc_pL (K := K) (M := M) (ds := (pres0 rows).map dPart) hE1 hM4 (by rw [List.length_map, pres0, List.length_map, hly]) (by rw [hly]; exact small64 ok.rows.lt) (seqL_mono o04 hb) (fun i x d H5 G hx hd' hs5 hO up hG => ?_) (fun H5 vs5 hs5 hM5 hD5 hds5 => ?_)
    · rw [pres0, List.map_map] at hd'
      obtain ⟨r, hrow, dx', rfl⟩ := dps_nth (he.up o04) hx hd'
      obtain ⟨c, rfl, hc⟩ := dI_open (dx'.up up)
      refine ⟨_, rfl, c, _, rfl, .inl ⟨seqL_mono off_same hc, fun l hl => ⟨by show 3 ≤ sizeLine; decide, fun p hp => hG _ _ ((same_new hl).trans (same_new hp)) ?_⟩⟩⟩
      exact dp_tup_new (occ_upd hO) hp (.cons (dT_mk (.of (off_upd hO hl))) (.cons (.int 0) (.cons (.int 0) .nil)))
    refine ⟨E1, _, rfl, .inl ⟨.of hD5, fun l hl => ?_⟩⟩
    have s6 := hs5.trans (same_new (o := .tup vs5) hl)
    refine ⟨_, rfl, s, C, dx, _, rfl, s6 _ _ e4, sc.cls, sc.pres, (show (1 : Nat) < 1000 by decide), ?_⟩
    have dp6 : Dp K (Off M (upd H5 l (.tup vs5))) (.ref l) (dPres (pres0 rows)) := dp_tup_new hM5 hl hds5
    have hM6 : Occ M (upd H5 l (.tup vs5)) := occ_upd hM5
    have dr6 := dr4.up (same_off s6)
    generalize upd H5 l (.tup vs5) = H6 at s6 dp6 hM6 dr6
    have k7 : Kp [s] H6 (upd H6 s (.ins C dx (putF "present" (.ref l) (putF "rule_here" (.ref D) [])))) := kp_in List.mem_cons_self
    generalize h7 : upd H6 s (.ins C dx (putF "present" (.ref l) (putF "rule_here" (.ref D) []))) = H7 at k7
    have e7 : H7 s = some (.ins C dx (putF "present" (.ref l) (putF "rule_here" (.ref D) []))) := by rw [← h7, upd_same]
    have hM7 : Occ M H7 := by rw [← h7]; exact occ_upd hM6
    have sub : ∀ c ∈ [s], c ∈ M := fun c hc => by rw [List.mem_singleton.mp hc]; exact hm
    have k07 : Kp [s] H H7 := kp_trans (kp_trans k04 (kp_same s6)) k7
    have dr7 := dr6.up (kp_off k7 sub)
    have dp7 := dp6.up (kp_off k7 sub)
    -- self.past
    refine ⟨by show 0 ≤ sizeLine; decide, fun t ht => ⟨_, rfl, s, C, dx, _, rfl, same_new ht _ _ e7, sc.cls, sc.past, (show (2 : Nat) < 1000 by decide), ?_⟩⟩
    have dq8 : Dp K (Off M (upd H7 t (.tup []))) (.ref t) (dPast []) := dp_tup_new hM7 ht .nil
    have s8 := same_new (o := .tup []) ht
    have hM8 : Occ M (upd H7 t (.tup [])) := occ_upd hM7
    generalize upd H7 t (.tup []) = H8 at dq8 s8 hM8
    have k9 : Kp [s] H8 (upd H8 s (.ins C dx (putF "past" (.ref t) (putF "present" (.ref l) (putF "rule_here" (.ref D) []))))) := kp_in List.mem_cons_self
    generalize h9 : upd H8 s (.ins C dx (putF "past" (.ref t) (putF "present" (.ref l) (putF "rule_here" (.ref D) [])))) = H9 at k9
    have e9 : H9 s = some (.ins C dx (putF "past" (.ref t) (putF "present" (.ref l) (putF "rule_here" (.ref D) [])))) := by rw [← h9, upd_same]
    have hM9 : Occ M H9 := by rw [← h9]; exact occ_upd hM8
    -- self.kept_here
    refine ⟨by show 0 ≤ sizeLine; decide, fun t2 ht2 => ⟨_, rfl, s, C, dx, _, rfl, same_new ht2 _ _ e9, sc.cls, sc.kept, (show (3 : Nat) < 1000 by decide), ?_⟩⟩
    have dk10 : Dp K (Off M (upd H9 t2 (.tup []))) (.ref t2) (dT []) := dp_tup_new hM9 ht2 .nil
    have s10 := same_new (o := .tup []) ht2
    have hM10 : Occ M (upd H9 t2 (.tup [])) := occ_upd hM9
    generalize upd H9 t2 (.tup []) = H10 at dk10 s10 hM10
    have k11 : Kp [s] H10 (upd H10 s (.ins C dx (fsOf (.ref D) (.ref l) (.ref t) (.ref t2)))) := kp_in List.mem_cons_self
    have o9 := kp_off (S := M) k9 sub
    have o11 := kp_off (S := M) k11 sub
    have o8 := same_off (S := M) s8
    have o10 := same_off (S := M) s10
    exact q _ (kp_trans (kp_trans (kp_trans k07 (kp_same s8)) (kp_trans k9 (kp_same s10))) k11) (occ_upd hM10)
      ⟨sc, hm, dx, _, _, _, _, upd_same, (dr7.up (o8.trans (o9.trans o10))).up o11, (dp7.up (o8.trans (o9.trans o10))).up o11, (dq8.up (o9.trans o10)).up o11, dk10.up o11⟩
end
end GN

/-! part D6 -/
set_option Elab.async false
set_option linter.all false
set_option maxRecDepth 100000
set_option maxHeartbeats 4000000
namespace GN
open PySem PySem.Spec L2
open PyProof.Rows hiding St

abbrev Out := List (List Int) → Pres → List Pres → List Int → PyData
/-- what is read off a store -/
def spRead (K : PySem.W.Frag) (out : Out) : Sp := fun vs H Q _ => ∃ (M : List Addr) (s C : Addr) (rule : List (List Int)) (pres : Pres) (past : List Pres) (kept : List Int), vs = [.ref s] ∧ Occ M H ∧ Sto K M H s C rule pres past kept ∧ pres.length < 64 ∧
  ResD K M H (out rule pres past kept) Q
def oRows : Out := fun _ pres _ _ => dLines pres
def oHits : Out := fun _ pres _ _ => .int (hitsOf pres)
def oMisses : Out := fun _ pres _ _ => .int (missOf pres)
def oLen : Out := fun _ _ past _ => .int past.length
def oBySet : Out := fun _ pres _ _ => dCounts pres
def oKept : Out := fun _ _ _ kept => dI kept
theorem map_ints {α : Type} (f : α → Int) (xs : List α) : (xs.map fun x => PyData.int (f x)) = (xs.map f).map PyData.int := by rw [List.map_map]; rfl
section
variable {P : Program} {w : World} {K : PySem.W.Frag} {mg : Str → Option Value} {base : Heap}
abbrev N4 : List Str := ["self", "row", "hits", "misses"]
abbrev sRows : Stmt := inClass cls0 2
theorem scRows : FnScope N4 ["self"] (defScope sRows) := ⟨rfl, rfl, rfl, by decide +kernel, rfl, by decide +kernel, by decide +kernel⟩
theorem ok_rows {f : Addr} {fd : FuncData} (B : Bi mg) (F : Fun K "rows" "Cache.rows" sRows f fd) : FnOk P w K mg base CX0 1 f fd ["self"] (spRead K oRows) := by
  refine F.ok scRows (fun vs H Q E h => ?_) (fun cdv A outer s0 H vs Q E hr h => ?_)
  · obtain ⟨M, s, C, rule, pres, past, kept, rfl, _⟩ := h
    rfl
  · obtain ⟨M, s, C, rule, pres, past, kept, rfl, hM, S, h64, q⟩ := h
    obtain ⟨sc, hm, dx, vr, vp, vq, vk, e, dr, dp, dq, dk⟩ := S
    obtain ⟨t, xs, rfl, ht, hd, hlx⟩ := dp_pres dp
    refine ⟨_, (pss_one (ps_ret (pe_lc (own := [("row", 1), ("hits", 2), ("misses", 3)]) (g := gTup K 3 (gCons (gName 1) (gCons (gName 2) (gCons (gName 3) gNil)))) (tt := tYes) rfl scRows.nd (kpi_tup (K := K) (kpe_fld (K := K) (pv 0))) (blkOk_by (N := ["self", "row", "hits", "misses"]) (sc := defScope sRows) (by decide +kernel)) (fun _ _ _ _ _ => (pg_tup rfl (pgs_cons (pg_name (i := 1) scRows.nd rfl (Or.inl rfl)) (pgs_cons (pg_name (i := 2) scRows.nd rfl (Or.inl rfl)) (pgs_cons (pg_name (i := 3) scRows.nd rfl (Or.inl rfl)) pgs_nil))))) (fun _ _ _ _ _ => pts_nil) (fun _ _ _ _ _ => (kz_list (K := K) B (pv 1)))))), ?_⟩
    refine ⟨_, rfl, s, C, dx, _, _, rfl, e, sc.cls, sc.pres, rfl, t, rfl, ⟨_, seqT_mono off_same ht⟩, fun D hD => ?_⟩
    refine lc_pT (K := K) (M := M) (ds := pres.map fun p => dI p.1) hD hM (by rw [List.length_map, hlx]) (by rw [hlx]; exact small64 h64) ht (fun i x d H3 G hx hd' hs3 hO up hG => ?_) (fun H3 vs3 hs3 hM3 hD3 hds3 => ?_)
    · obtain ⟨p, hp, dx', rfl⟩ := dps_nth hd hx hd'
      obtain ⟨u, a, rfl, hu, _, ha⟩ := dp_part (dx'.up up)
      exact ⟨u, _, rfl, seqT_mono off_same hu, rfl, _, _, rfl, _, _, rfl, _, _, rfl, rfl, rfl, _, rfl, a, _, rfl, .inr (seqT_mono off_same ha), fun l hl => hG _ _ (same_new hl) (dI_mk (.of (off_upd hO hl)))⟩
    · exact q _ _ hs3 (.lst (.of (by rw [off_get (occ_new hM hD)]; exact hD3)) hds3)
abbrev sHits : Stmt := inClass cls0 3
theorem scHits : FnScope N4 ["self"] (defScope sHits) := ⟨rfl, rfl, rfl, by decide +kernel, rfl, by decide +kernel, by decide +kernel⟩
theorem ok_hits {f : Addr} {fd : FuncData} (B : Bi mg) (F : Fun K "hits" "Cache.hits" sHits f fd) : FnOk P w K mg base CX0 1 f fd ["self"] (spRead K oHits) := by
  refine F.ok scHits (fun vs H Q E h => ?_) (fun cdv A outer s0 H vs Q E hr h => ?_)
  · obtain ⟨M, s, C, rule, pres, past, kept, rfl, _⟩ := h
    rfl
  · obtain ⟨M, s, C, rule, pres, past, kept, rfl, hM, S, h64, q⟩ := h
    obtain ⟨sc, hm, dx, vr, vp, vq, vk, e, dr, dp, dq, dk⟩ := S
    obtain ⟨t, xs, rfl, ht, hd, hlx⟩ := dp_pres dp
    refine ⟨_, (pss_one (ps_ret (kz_sum (K := K) rfl B (pe_lc (own := [("row", 1), ("hits", 2), ("misses", 3)]) (g := gTup K 3 (gCons (gName 1) (gCons (gName 2) (gCons (gName 3) gNil)))) (tt := tYes) rfl scHits.nd (kpi_tup (K := K) (kpe_fld (K := K) (pv 0))) (blkOk_by (N := ["self", "row", "hits", "misses"]) (sc := defScope sHits) (by decide +kernel)) (fun _ _ _ _ _ => (pg_tup rfl (pgs_cons (pg_name (i := 1) scHits.nd rfl (Or.inl rfl)) (pgs_cons (pg_name (i := 2) scHits.nd rfl (Or.inl rfl)) (pgs_cons (pg_name (i := 3) scHits.nd rfl (Or.inl rfl)) pgs_nil))))) (fun _ _ _ _ _ => pts_nil) (fun _ _ _ _ _ => (pv 2)))))), ?_⟩
    refine ⟨_, rfl, s, C, dx, _, _, rfl, e, sc.cls, sc.pres, rfl, t, rfl, ⟨_, seqT_mono off_same ht⟩, fun D hD => ?_⟩
    refine lc_pT (K := K) (M := M) (ds := pres.map fun p => .int p.2.1) hD hM (by rw [List.length_map, hlx]) (by rw [hlx]; exact small64 h64) ht (fun i x d H3 G hx hd' hs3 hO up hG => ?_) (fun H3 vs3 hs3 hM3 hD3 hds3 => ?_)
    · obtain ⟨p, hp, dx', rfl⟩ := dps_nth hd hx hd'
      obtain ⟨u, a, rfl, hu, _, ha⟩ := dp_part (dx'.up up)
      exact ⟨u, _, rfl, seqT_mono off_same hu, rfl, _, _, rfl, _, _, rfl, _, _, rfl, rfl, rfl, _, rfl, hG _ _ (Same.refl _) (.int _)⟩
    · rw [map_ints] at hds3
      rw [ints_dps hds3] at hD3
      exact ⟨D, _, rfl, .of hD3, q _ _ hs3 (.int _)⟩
abbrev sMisses : Stmt := inClass cls0 4
theorem scMisses : FnScope N4 ["self"] (defScope sMisses) := ⟨rfl, rfl, rfl, by decide +kernel, rfl, by decide +kernel, by decide +kernel⟩
theorem ok_misses {f : Addr} {fd : FuncData} (B : Bi mg) (F : Fun K "misses" "Cache.misses" sMisses f fd) : FnOk P w K mg base CX0 1 f fd ["self"] (spRead K oMisses) := by
  refine F.ok scMisses (fun vs H Q E h => ?_) (fun cdv A outer s0 H vs Q E hr h => ?_)
  · obtain ⟨M, s, C, rule, pres, past, kept, rfl, _⟩ := h
    rfl
  · obtain ⟨M, s, C, rule, pres, past, kept, rfl, hM, S, h64, q⟩ := h
    obtain ⟨sc, hm, dx, vr, vp, vq, vk, e, dr, dp, dq, dk⟩ := S
    obtain ⟨t, xs, rfl, ht, hd, hlx⟩ := dp_pres dp
    refine ⟨_, (pss_one (ps_ret (kz_sum (K := K) rfl B (pe_lc (own := [("row", 1), ("hits", 2), ("misses", 3)]) (g := gTup K 3 (gCons (gName 1) (gCons (gName 2) (gCons (gName 3) gNil)))) (tt := tYes) rfl scMisses.nd (kpi_tup (K := K) (kpe_fld (K := K) (pv 0))) (blkOk_by (N := ["self", "row", "hits", "misses"]) (sc := defScope sMisses) (by decide +kernel)) (fun _ _ _ _ _ => (pg_tup rfl (pgs_cons (pg_name (i := 1) scMisses.nd rfl (Or.inl rfl)) (pgs_cons (pg_name (i := 2) scMisses.nd rfl (Or.inl rfl)) (pgs_cons (pg_name (i := 3) scMisses.nd rfl (Or.inl rfl)) pgs_nil))))) (fun _ _ _ _ _ => pts_nil) (fun _ _ _ _ _ => (pv 3)))))), ?_⟩
    refine ⟨_, rfl, s, C, dx, _, _, rfl, e, sc.cls, sc.pres, rfl, t, rfl, ⟨_, seqT_mono off_same ht⟩, fun D hD => ?_⟩
    refine lc_pT (K := K) (M := M) (ds := pres.map fun p => .int p.2.2) hD hM (by rw [List.length_map, hlx]) (by rw [hlx]; exact small64 h64) ht (fun i x d H3 G hx hd' hs3 hO up hG => ?_) (fun H3 vs3 hs3 hM3 hD3 hds3 => ?_)
    · obtain ⟨p, hp, dx', rfl⟩ := dps_nth hd hx hd'
      obtain ⟨u, a, rfl, hu, _, ha⟩ := dp_part (dx'.up up)
      exact ⟨u, _, rfl, seqT_mono off_same hu, rfl, _, _, rfl, _, _, rfl, _, _, rfl, rfl, rfl, _, rfl, hG _ _ (Same.refl _) (.int _)⟩
    · rw [map_ints] at hds3
      rw [ints_dps hds3] at hD3
      exact ⟨D, _, rfl, .of hD3, q _ _ hs3 (.int _)⟩
abbrev sBySet : Stmt := inClass (top 27) 2
theorem scBySet : FnScope N4 ["self"] (defScope sBySet) := ⟨rfl, rfl, rfl, by decide +kernel, rfl, by decide +kernel, by decide +kernel⟩
theorem ok_bySet {f : Addr} {fd : FuncData} (B : Bi mg) (F : Fun K "by_set" "CountingCache.by_set" sBySet f fd) : FnOk P w K mg base CX0 1 f fd ["self"] (spRead K oBySet) := by
  refine F.ok scBySet (fun vs H Q E h => ?_) (fun cdv A outer s0 H vs Q E hr h => ?_)
  · obtain ⟨M, s, C, rule, pres, past, kept, rfl, _⟩ := h
    rfl
  · obtain ⟨M, s, C, rule, pres, past, kept, rfl, hM, S, h64, q⟩ := h
    obtain ⟨sc, hm, dx, vr, vp, vq, vk, e, dr, dp, dq, dk⟩ := S
    obtain ⟨t, xs, rfl, ht, hd, hlx⟩ := dp_pres dp
    refine ⟨_, (pss_one (ps_ret (pe_lc (own := [("row", 1), ("hits", 2), ("misses", 3)]) (g := gTup K 3 (gCons (gName 1) (gCons (gName 2) (gCons (gName 3) gNil)))) (tt := tYes) rfl scBySet.nd (kpi_tup (K := K) (kpe_fld (K := K) (pv 0))) (blkOk_by (N := ["self", "row", "hits", "misses"]) (sc := defScope sBySet) (by decide +kernel)) (fun _ _ _ _ _ => (pg_tup rfl (pgs_cons (pg_name (i := 1) scBySet.nd rfl (Or.inl rfl)) (pgs_cons (pg_name (i := 2) scBySet.nd rfl (Or.inl rfl)) (pgs_cons (pg_name (i := 3) scBySet.nd rfl (Or.inl rfl)) pgs_nil))))) (fun _ _ _ _ _ => pts_nil) (fun _ _ _ _ _ => (pe_tup (pa_cons (pv 2) (pa_cons (pv 3) pa_nil))))))), ?_⟩
    refine ⟨_, rfl, s, C, dx, _, _, rfl, e, sc.cls, sc.pres, rfl, t, rfl, ⟨_, seqT_mono off_same ht⟩, fun D hD => ?_⟩
    refine lc_pT (K := K) (M := M) (ds := pres.map dCount) hD hM (by rw [List.length_map, hlx]) (by rw [hlx]; exact small64 h64) ht (fun i x d H3 G hx hd' hs3 hO up hG => ?_) (fun H3 vs3 hs3 hM3 hD3 hds3 => ?_)
    · obtain ⟨p, hp, dx', rfl⟩ := dps_nth hd hx hd'
      obtain ⟨u, a, rfl, hu, _, ha⟩ := dp_part (dx'.up up)
      exact ⟨u, _, rfl, seqT_mono off_same hu, rfl, _, _, rfl, _, _, rfl, _, _, rfl, rfl, rfl, _, rfl, _, rfl, by show 2 ≤ sizeLine; decide, fun l hl => hG _ _ (same_new hl) (dp_pair hO hl (.int _) (.int _))⟩
    · exact q _ _ hs3 (.lst (.of (by rw [off_get (occ_new hM hD)]; exact hD3)) hds3)
abbrev sKept : Stmt := inClass (top 28) 3
theorem scKept : FnScope ["self"] ["self"] (defScope sKept) := ⟨rfl, rfl, rfl, by decide +kernel, rfl, by decide +kernel, by decide +kernel⟩
theorem ok_kept {f : Addr} {fd : FuncData} (B : Bi mg) (F : Fun K "kept" "KeepingCache.kept" sKept f fd) : FnOk P w K mg base CX0 1 f fd ["self"] (spRead K oKept) := by
  refine F.ok scKept (fun vs H Q E h => ?_) (fun cdv A outer s0 H vs Q E hr h => ?_)
  · obtain ⟨M, s, C, rule, pres, past, kept, rfl, _⟩ := h
    rfl
  · obtain ⟨M, s, C, rule, pres, past, kept, rfl, hM, S, h64, q⟩ := h
    obtain ⟨sc, hm, dx, vr, vp, vq, vk, e, dr, dp, dq, dk⟩ := S
    obtain ⟨a, rfl, ha⟩ := dT_open dk
    refine ⟨_, (pss_one (ps_ret (kz_list (K := K) B (kpe_fld (K := K) (pv 0))))), ?_⟩
    exact ⟨_, rfl, s, C, dx, _, _, rfl, e, sc.cls, sc.kept, rfl, a, _, rfl, .inr (seqT_mono off_same ha), fun l hl => q _ _ (same_new hl) (dI_mk (.of (off_upd hM hl)))⟩
abbrev sLen : Stmt := inClass cls0 5
theorem scLen : FnScope ["self"] ["self"] (defScope sLen) := ⟨rfl, rfl, rfl, by decide +kernel, rfl, by decide +kernel, by decide +kernel⟩
theorem ok_len {f : Addr} {fd : FuncData} (B : Bi mg) (F : Fun K "__len__" "Cache.__len__" sLen f fd) : FnOk P w K mg base CX0 1 f fd ["self"] (spRead K oLen) := by
  refine F.ok scLen (fun vs H Q E h => ?_) (fun cdv A outer s0 H vs Q E hr h => ?_)
  · obtain ⟨M, s, C, rule, pres, past, kept, rfl, _⟩ := h
    rfl
  · obtain ⟨M, s, C, rule, pres, past, kept, rfl, hM, S, h64, q⟩ := h
    obtain ⟨sc, hm, dx, vr, vp, vq, vk, e, dr, dp, dq, dk⟩ := S
    obtain ⟨a, xs, rfl, ha, hd⟩ := dp_tup dq
    refine ⟨_, (pss_one (ps_ret (kz_len (K := K) B (kpe_fld (K := K) (pv 0))))), ?_⟩
    refine ⟨_, rfl, s, C, dx, _, _, rfl, e, sc.cls, sc.past, rfl, a, _, rfl, .inr (seqT_mono off_same ha), q _ _ (Same.refl _) ?_⟩
    rw [dps_len hd, List.length_map]
    exact .int _
end
end GN

/-! part D7 -/
set_option Elab.async false
set_option linter.all false
set_option maxRecDepth 100000
set_option maxHeartbeats 4000000
namespace GN
open PySem PySem.Spec L2
open PyProof.Rows hiding St

/-- a def that says super(), as it stands behind the top: it stands in the class at D -/
structure SupD (P : Program) (K : PySem.W.Frag) (name qual : Str) (st : Stmt) (D f : Addr) (fd : FuncData) : Prop where
  ex : ∃ (oc : Value) (od : Option Addr) (osl : Array (Option Value)) (cda cc : Addr) (kV doc pm : Value) (an : Option Addr) (ct : Value),
    fd = PySem.W.ksFn name qual (defArgs st) (defBody st) (defScope st) .none kV doc pm an (.ref cda) ct cc ∧ K.lookup f = some ⟨oc, od, .func fd, osl⟩ ∧ PySem.W.codeIn K (.ref cda) qual = true ∧ SupF P K f cda cc D "self"
section
variable {P : Program} {w : World} {K : PySem.W.Frag} {mg : Str → Option Value} {base : Heap}
/-! ### WouldGo.__init__ -/
abbrev sGo : Stmt := inClass (top 7) 0
structure GoC (K : PySem.W.Frag) (C : Addr) : Prop where
  o : OexC K C
  blk : PySem.W.findIn K (.ref C) "block" = some none
  sub : PySem.W.mroIn K C (.ref C) = some true
  sup : PySem.W.ks_superIn K C C "__init__" = some (some (.builtin "ValueError.__init__"))
  ve : PySem.W.subIn K (.ref C) (.type "ValueError") = some true
def spGo (K : PySem.W.Frag) (C : Addr) : Sp := fun vs H Q _ => ∃ (x : Addr) (b : Int), vs = [.ref x, .int b] ∧ H x = some (exo x C none) ∧
  ∀ d H2, H d = none → Kp [x] H H2 → H2 x = some (exo x C (some d)) → H2 d = some (exd d [("block", .int b)]) → Q .non H2
theorem scGo : SupScope ["self", "block"] ["self", "block"] (defScope sGo) := ⟨rfl, rfl, rfl, by decide +kernel, rfl, by decide +kernel, by decide +kernel, by decide +kernel⟩
theorem ok_go {C f : Addr} {fd : FuncData} (hms : mg "super" = none) (G : GoC K C) (F : SupD P K "__init__" "WouldGo.__init__" sGo C f fd) : FnOk P w K mg base CX0 1 f fd ["self", "block"] (spGo K C) := by
  obtain ⟨oc, od, osl, cda, cc, kV, doc, pm, an, ct, rfl, lk, hcd, T⟩ := F.ex
  obtain ⟨cl, cld, csl, lcc⟩ := T.cell
  refine fn_sup lk hcd lcc scGo (fun vs H Q E h => ?_) (fun A outer s H vs Q E hr h => ?_)
  · obtain ⟨x, b, rfl, _⟩ := h
    rfl
  · obtain ⟨x, b, rfl, hx, q⟩ := h
    refine ⟨_, pssA_cons (ps_supX (C := C) (self := "self") T ⟨rfl, rfl, rfl, rfl, hms⟩ G.o rfl rfl rfl G.sub G.sup G.ve (pa_cons pe_str pa_nil)) (pss_one (ps_ost (pv 0) (pv 1))), ?_⟩
    refine ⟨x, rfl, hx, fun q1 hq1 => ⟨upd_same, ?_, by show 1 ≤ 1000; decide, ?_⟩⟩
    · rw [upd_ne (ne_of_none hx hq1)]; exact hx
    have hx1 : upd H q1 (mwO q1 x) x = some (exo x C none) := by rw [upd_ne (ne_of_none hx hq1)]; exact hx
    have s1 : Same H (upd H q1 (mwO q1 x)) := same_new hq1
    generalize upd H q1 (mwO q1 x) = H1 at hx1 s1
    refine ⟨_, rfl, _, rfl, x, C, rfl, G.o, G.blk, .inl ⟨hx1, fun dx hdx hne => ?_⟩⟩
    refine q dx _ (s1.free hdx) (fun c o e n => ?_) upd_same (by rw [upd_ne hne, upd_same])
    have e1 := s1 _ _ e
    have n1 : c ≠ x := fun z => n (by rw [z]; exact List.mem_cons_self)
    rw [upd_ne n1, upd_ne (ne_of_none e1 hdx)]
    exact e1
/-! ### KeepingCache.__init__ -/
abbrev sKInit : Stmt := inClass (top 28) 1
def spKInit (K : PySem.W.Frag) (D : Addr) (f2 : Addr) : Sp := fun vs H Q _ => ∃ (M : List Addr) (s C dx : Addr) (v u z : V) (rule rows : List (List Int)) (ns : List Int) (k : Nat), vs = [.ref s, v, u, z] ∧ s ∈ M ∧ Occ M H ∧ H s = some (.ins C dx []) ∧ SC K C ∧
  PySem.W.mroIn K C (.ref D) = some true ∧ PySem.W.ks_superIn K C D "__init__" = some (some (.ref f2)) ∧
  Dp K (Off M H) v (dRule rule) ∧ Dp K (Off M H) u (dRows rows) ∧ InitOk k rule rows ∧ Dp K (Off M H) z (dI ns) ∧ BlkAll ns ∧ ns.length < 64 ∧ ∀ H', Kp [s] H H' → Occ M H' → Sto K M H' s C rule (pres0 rows) [] (kset ns) → Q .non H'
theorem scKInit : SupScope ["self", "rule", "rows", "kept"] ["self", "rule", "rows", "kept"] (defScope sKInit) := ⟨rfl, rfl, rfl, by decide +kernel, rfl, by decide +kernel, by decide +kernel, by decide +kernel⟩
theorem ok_kinit {D f f2 : Addr} {fd : FuncData} (B : Bi mg) (F2 : FnR P w K mg base CX0 5 f2 (spInit K)) (ht : PySem.W.typeIn K (.ref f2) = some (.type "function")) (hfi : PySem.W.fnIn K f2 = true)
    (F_check_stream : Fk P w K mg base CX0 3 "check_stream" (spChkStream K)) (F : SupD P K "__init__" "KeepingCache.__init__" sKInit D f fd) :
    FnOk P w K mg base CX0 6 f fd ["self", "rule", "rows", "kept"] (spKInit K D f2) := by
  obtain ⟨oc, od, osl, cda, cc, kV, doc, pm, an, ct, rfl, lk, hcd, T⟩ := F.ex
  obtain ⟨cl, cld, csl, lcc⟩ := T.cell
  refine fn_sup lk hcd lcc scKInit (fun vs H Q E h => ?_) (fun A outer s0 H vs Q E hr h => ?_)
  · obtain ⟨M, s, C, dx, v, u, z, rule, rows, ns, k, rfl, _⟩ := h
    rfl
  · obtain ⟨M, s, C, dx, v, u, z, rule, rows, ns, k, rfl, hm, hM, hs, sc, hsub, hsup, hv, hu, ok, hz, hb, h64, q⟩ := h
    refine ⟨_, pssA_cons (ps_sup (C := C) (self := "self") T ⟨rfl, rfl, rfl, rfl, B.super⟩ rfl rfl rfl hsub hsup ht hfi F2 hr p0 (pa_cons (pv 1) (pa_cons (pv 2) pa_nil)))
      (pss_cons (ps_expr (pe_fn (F_check_stream.mono (by decide)) hr rfl p0 (pa_cons (pv 3) pa_nil)))
      (pss_one (ps_fld (pv 0) (pz_tuple B (pe_sortedSet rfl rfl B.sorted rfl B.set (pv 3))) rfl))), ?_⟩
    refine ⟨s, dx, [], rfl, hs, fun q1 hq1 => ⟨_, rfl, _, rfl, upd_same, ?_⟩⟩
    have s1 : Same H (upd H q1 (.met f2 s)) := same_new hq1
    have hM1 : Occ M (upd H q1 (.met f2 s)) := occ_upd hM
    generalize upd H q1 (.met f2 s) = H1 at s1 hM1
    have o1 := same_off (S := M) s1
    refine ⟨M, s, C, dx, v, u, rule, rows, k, rfl, hm, hM1, s1 _ _ hs, sc, hv.up o1, hu.up o1, ok, fun H2 k2 hM2 S2 => ?_⟩
    have sub : ∀ c ∈ [s], c ∈ M := fun c hc => by rw [List.mem_singleton.mp hc]; exact hm
    have k02 : Kp [s] H H2 := kp_trans (kp_same s1) k2
    have hz2 := hz.up (kp_off k02 sub)
    refine ⟨_, rfl, z, ns, rfl, dp_here hz2, hb, fun H3 s3 => ?_⟩
    obtain ⟨c, rfl, hc⟩ := dI_open (dp_here (hz2.up (same_off s3)))
    refine ⟨_, rfl, c, ns, rfl, hc, h64, fun p hp => ⟨p, _, rfl, .inl ⟨.of upd_same, fun l hl => ?_⟩⟩⟩
    have S3 := S2.same s3
    have s5 := (same_new (o := .lst ((kset ns).map V.int)) hp).trans (same_new (o := .tup ((kset ns).map V.int)) hl)
    have hM5 : Occ M (upd (upd H3 p (.lst ((kset ns).map V.int))) l (.tup ((kset ns).map V.int))) := occ_upd (occ_upd (occ_kp hM2 s3))
    have dk5 : Dp K (Off M (upd (upd H3 p (.lst ((kset ns).map V.int))) l (.tup ((kset ns).map V.int)))) (.ref l) (dT (kset ns)) := dT_mk (.of (off_upd (occ_upd (occ_kp hM2 s3)) hl))
    generalize upd (upd H3 p (.lst ((kset ns).map V.int))) l (.tup ((kset ns).map V.int)) = H5 at s5 hM5 dk5
    obtain ⟨_, _, dx', vr, vp, vq, vk, e, d1, d2, d3, d4⟩ := S3.same s5
    refine ⟨_, rfl, s, C, dx', _, rfl, e, sc.cls, sc.kept, (show (4 : Nat) < 1000 by decide), ?_⟩
    have k6 : Kp [s] H5 (upd H5 s (.ins C dx' (putF "kept_here" (.ref l) (fsOf vr vp vq vk)))) := kp_in List.mem_cons_self
    have o6 := kp_off (S := M) k6 sub
    exact q _ (kp_trans (kp_trans k02 (kp_same (s3.trans s5))) k6) (occ_upd hM5) ⟨sc, hm, dx', vr, vp, vq, .ref l, upd_same, d1.up o6, d2.up o6, d3.up o6, dk5.up o6⟩
end
end GN

/-! part D8 -/
set_option Elab.async false
set_option linter.all false
set_option maxRecDepth 100000
set_option maxHeartbeats 4000000
namespace GN
open PySem PySem.Spec L2
open PyProof.Rows hiding St

structure StOk (n k : Nat) (rule : List (List Int)) (pres : Pres) : Prop where
  rule : RuleOk k rule
  pres : PresOk n k pres
  n0 : 0 < n
  n64 : n < 64
  k1 : 1 ≤ k
  k64 : k < 64
theorem set_cut {α : Type} (l : List α) {i : Nat} (h : i < l.length) (a : α) : l.set i a = l.take i ++ a :: l.drop (i + 1) := by
  rw [List.set_eq_take_append_cons_drop, if_pos h]
theorem dps_set {α : Type} {K : PySem.W.Frag} {H : Hp} {f : α → PyData} {xs : List α} {vs : List V} {i : Nat} {v : V} {x : α} (h : DpAll K H vs (xs.map f)) (hi : i < xs.length) (hv : Dp K H v (f x)) : DpAll K H (vs.take i ++ v :: vs.drop (i + 1)) ((xs.set i x).map f) := by
  rw [List.map_set, set_cut _ (by rw [List.length_map]; exact hi)]
  exact dps_app (dps_take i h) (.cons hv (dps_drop (i + 1) h))
theorem acc_eq (rule : List (List Int)) (kept : List Int) (pres : Pres) (b : Int) (r : Option (Bool × Pres)) (h : acc rule kept pres b = r) :
    (b ∉ (pt pres b).1 ∧ (pt pres b).1.headD 0 ∈ kept ∧ r = none) ∨ (¬ (b ∉ (pt pres b).1 ∧ (pt pres b).1.headD 0 ∈ kept) ∧ r = some ((stp rule (pt pres b).1 b).1, nxt rule pres b)) := by
  unfold acc at h
  split at h
  · rename_i hh; exact .inl ⟨hh.1, hh.2, h.symm⟩
  · rename_i hh; exact .inr ⟨hh, h.symm⟩
theorem hd_at {r : List Int} (h : 1 ≤ r.length) : r[0]? = some (r.headD 0) := by
  cases r with
  | nil => simp at h
  | cons a r => rfl
theorem nw_to {xs : List V} {j : Nat} (h : j < xs.length) : ¬ (HT.sIx xs.length 0 none = 0 ∧ HT.sIx xs.length xs.length (some (j : Int)) = xs.length) := fun ⟨_, e⟩ => by
  rw [HT.sIx_nat] at e
  omega
theorem nw_from {xs : List V} {j : Nat} {z : Int} (h : z = ((j + 1 : Nat) : Int)) (h0 : 0 < xs.length) : ¬ (HT.sIx xs.length 0 (some z) = 0 ∧ HT.sIx xs.length xs.length none = xs.length) := fun ⟨e, _⟩ => by
  rw [h, HT.sIx_nat] at e
  omega
section
variable {P : Program} {w : World} {K : PySem.W.Frag} {mg : Str → Option Value} {base : Heap}
structure GoMk (P : Program) (w : World) (K : PySem.W.Frag) (mg : Str → Option Value) (base : Heap) (cw : Addr) : Prop where
  c : GoC K cw
  g : mg "WouldGo" = some (.ref cw)
  ex : ∃ fI fd, PySem.W.findIn K (.ref cw) "__init__" = some (some (.ref fI)) ∧ PySem.W.typeIn K (.ref fI) = some (.type "function") ∧ FnOk P w K mg base CX0 1 fI fd ["self", "block"] (spGo K cw) ∧ Binds K fd ["self", "block"] []
abbrev sAccess : Stmt := inClass cls0 7
def spAccess (K : PySem.W.Frag) (cw : Addr) : Sp := fun vs H Q E => ∃ (M : List Addr) (s C : Addr) (rule : List (List Int)) (pres : Pres) (past : List Pres) (kept : List Int) (b : Int) (n k : Nat), vs = [.ref s, .int b] ∧ Occ M H ∧ Sto K M H s C rule pres past kept ∧ StOk n k rule pres ∧ past.length < 1000 ∧
  0 ≤ b ∧ b ≤ 1000000000 ∧ (acc rule kept pres b = none → ∀ d H', Same H H' → E (.ref cw) d H') ∧
  (∀ o pres', acc rule kept pres b = some (o, pres') → ∀ H', Kp [s] H H' → Occ M H' → Sto K M H' s C rule pres' (past ++ [pres]) kept → Q (.bl o) H')
abbrev NAcc : List Str := ["self", "block", "index", "row", "hits", "misses", "outcome", "later", "part"]
theorem scAccess : FnScope NAcc ["self", "block"] (defScope sAccess) := ⟨rfl, rfl, rfl, by decide +kernel, rfl, by decide +kernel, by decide +kernel⟩
theorem ok_access {cw f : Addr} {fd : FuncData} (B : Bi mg) (GO : GoMk P w K mg base cw) (F_check_block : Fk P w K mg base CX0 3 "check_block" spChkBlock) (F_stepped : Fk P w K mg base CX0 3 "stepped" (spStepped K)) (F : Fun K "access" "Cache.access" sAccess f fd) :
    FnOk P w K mg base (L2.CX P w) 4 f fd ["self", "block"] (spAccess K cw) := by
  obtain ⟨fI, fdI, iC, tI, FI, bI⟩ := GO.ex
  refine F.okX scAccess (fun vs H Q E h => ?_) (fun cdv A outer s0 H vs Q E hr h => ?_)
  · obtain ⟨M, s, C, rule, pres, past, kept, b, n, k, rfl, _⟩ := h
    rfl
  · obtain ⟨M, s, C, rule, pres, past, kept, b, n, k, rfl, hM, S, ok, hpl, hb0, hb1, hE, hQ⟩ := h
    have hA := acc_eq rule kept pres b _ rfl
    obtain ⟨sc, hm, dx, vr, vp, vq, vk, e, dr, dp, dq, dk⟩ := S
    obtain ⟨t, xs, rfl, ht, hd, hlx⟩ := dp_pres dp
    obtain ⟨tk, ks, rfl, htk, hdk⟩ := dp_tup dk
    obtain ⟨tq, qs, rfl, htq, hdq⟩ := dp_tup dq
    have hlq : qs.length = past.length := by rw [dps_len hdq, List.length_map]
    have hkk := ints_dps hdk
    subst hkk
    have hn : pres.length = n := ok.pres.len
    have hl0 : 0 < pres.length := by rw [hn]; exact ok.n0
    have hix := ix_lt (b := b) hl0
    have hpt := pt_at (b := b) hl0
    have hrow := ok.pres.row _ _ hpt
    have ht' : SqT K H t xs := seqT_mono off_same ht
    obtain ⟨v, hv, dv⟩ := dps_get (i := ix pres b) (d := dPart (pt pres b)) hd (by rw [List.getElem?_map, hpt]; rfl)
    obtain ⟨u, a, rfl, hu, da, ha⟩ := dp_part dv
    have eix : b % ((xs.length : Nat) : Int) = ((ix pres b : Nat) : Int) := by rw [hlx]; exact ix_mod hl0
    refine ⟨_, (pss_cons (ps_expr (pe_fn (F_check_block.mono (by decide)) hr rfl p0 (pa_cons (pv 1) pa_nil)))
      (pss_cons (ps_set (i := 2) scAccess.nd rfl (Or.inl rfl) (pe_op op_mod (pv 1) (kz_len (K := K) B (kpe_fld (K := K) (pv 0)))))
      (pss_cons (ps_asg (pe_ix (kix_tup (K := K)) (kpe_fld (K := K) (pv 0)) (pv 2) (fun _ _ => rfl)) (pg_tup rfl (pgs_cons (pg_name (i := 3) scAccess.nd rfl (Or.inl rfl)) (pgs_cons (pg_name (i := 4) scAccess.nd rfl (Or.inl rfl)) (pgs_cons (pg_name (i := 5) scAccess.nd rfl (Or.inl rfl)) pgs_nil)))))
      (pss_cons (ps_if (PW.pt (pw_and (pt_cmpR (kop_notIn (K := K)) (pv 1) (pv 3) rfl) (pw_and1 (pt_cmpR (kop_in (K := K)) (pe_ix (kix_tup (K := K)) (pv 3) pe_int (fun _ _ => rfl)) (kpe_fld (K := K) (pv 0)) rfl)))) (pss_one (ps_raise rfl (takes_of rfl rfl rfl rfl) (pmk_oex GO.c.o iC tI FI (hr.mono (by decide)) bI .nil pass0 rfl GO.g (pa_cons (pe_ix (kix_tup (K := K)) (pv 3) pe_int (fun _ _ => rfl)) pa_nil)))) pss_nil)
      (pss_cons (ps_asg (pe_fn (F_stepped.mono (by decide)) hr rfl p0 (pa_cons (kpe_fld (K := K) (pv 0)) (pa_cons (kz_list (K := K) B (pv 3)) (pa_cons (pv 1) pa_nil)))) (pg_tup rfl (pgs_cons (pg_name (i := 6) scAccess.nd rfl (Or.inl rfl)) (pgs_cons (pg_name (i := 7) scAccess.nd rfl (Or.inl rfl)) pgs_nil))))
      (pss_cons (ps_set (i := 8) scAccess.nd rfl (Or.inl rfl) (pe_tup (pa_cons (kz_tuple (K := K) B (pv 7)) (pa_cons (pe_op op_add (pv 4) (kz_int B (pv 6))) (pa_cons (pe_op op_add (pv 5) (kz_int B (pe_not (pv 6)))) pa_nil)))))
      (pss_cons (ps_fld (pv 0) (pe_tup (StX.pa_star (kpe_fld (K := K) (pv 0)) (pa_cons (kpe_fld (K := K) (pv 0)) pa_nil))) rfl)
      (pss_cons (ps_fld (pv 0) (pe_tup (StX.pa_star (pe_slice sl_tup (kpe_fld (K := K) (pv 0)) po_none (po_some (pv 2))) (pa_cons (pv 8) (StX.pa_star (pe_slice sl_tup (kpe_fld (K := K) (pv 0)) (po_some (pe_op op_add (pv 2) pe_int)) po_none) pa_nil)))) rfl)
      (pss_one (ps_ret (pv 6))))))))))), ?_⟩
    refine ⟨_, rfl, b, rfl, hb0, hb1, ?_⟩
    refine ⟨_, rfl, _, rfl, s, C, dx, _, _, rfl, e, sc.cls, sc.pres, rfl, t, _, rfl, .inr ht', _, _, rfl, rfl, (by show (0 : Int) < (xs.length : Int); omega), ?_⟩
    dsimp only
    rw [eix]
    refine ⟨_, rfl, s, C, dx, _, _, rfl, e, sc.cls, sc.pres, rfl, _, rfl, t, _, _, _, rfl, rfl, ht', atI_nat hv, ?_⟩
    refine ⟨u, _, rfl, seqT_mono off_same hu, rfl, _, _, rfl, _, _, rfl, _, _, rfl, rfl, ?_⟩
    have haT : SqT K H a ((pt pres b).1.map V.int) := seqT_mono off_same ha
    have hr1 : 1 ≤ (pt pres b).1.length := by rw [hrow.len]; exact ok.k1
    have h00 := ints_at (j := 0) (hd_at hr1)
    rcases hA with ⟨hb, hk, hnone⟩ | ⟨hno, hsome⟩
    · refine ⟨_, rfl, _, rfl, a, _, rfl, .inr haT, rfl, flat_ints _, _, rfl, ?_⟩
      rw [if_pos rfl, inV_ints, decide_eq_false hb]
      refine iteT ⟨_, rfl, a, _, _, _, rfl, rfl, haT, h00, _, rfl, s, C, dx, _, _, rfl, e, sc.cls, sc.kept, rfl, tk, _, rfl, .inr (seqT_mono off_same htk), rfl, flat_ints _, _, rfl, ?_⟩
      rw [if_neg Bool.false_ne_true, inV_ints, decide_eq_true hk]
      refine iteT ⟨_, rfl, a, _, _, _, rfl, rfl, haT, h00, by show 1 ≤ 1000; decide, fun ex hex => ⟨ex, _, rfl, upd_same, fun d H2 hd2 k2 e1 e2 => ⟨rfl, d, _, e1, e2, (same_new hex).free hd2, hE hnone d _ fun c o ec => ?_⟩⟩⟩
      have n1 : c ≠ d := ne_of_none ec ((same_new hex).free hd2)
      have n2 : c ≠ ex := ne_of_none ec hex
      rw [upd_ne n1, del_ne n2]
      exact k2 c o (by rw [upd_ne n2]; exact ec) (by simp [n2])
    · have mk : ∀ {G : Prop} (R : Prop), (R → G) → R → G := fun _ f r => f r
      apply mk
      · intro rest
        refine ⟨_, rfl, _, rfl, a, _, rfl, .inr haT, rfl, flat_ints _, _, rfl, ?_⟩
        rw [if_pos rfl, inV_ints]
        by_cases hb : b ∈ (pt pres b).1
        · exact iteNS hb (iteF rest)
        · rw [decide_eq_false hb]
          refine iteT ⟨_, rfl, a, _, _, _, rfl, rfl, haT, h00, _, rfl, s, C, dx, _, _, rfl, e, sc.cls, sc.kept, rfl, tk, _, rfl, .inr (seqT_mono off_same htk), rfl, flat_ints _, _, rfl, ?_⟩
          rw [if_neg Bool.false_ne_true, inV_ints, decide_eq_false fun hk => hno ⟨hb, hk⟩]
          exact iteF rest
      · refine ⟨_, rfl, s, C, dx, _, _, rfl, e, sc.cls, sc.rule, rfl, _, rfl, a, _, rfl, .inr haT, fun l hl => ⟨_, rfl, M, vr, .ref l, rule, (pt pres b).1, b, rfl, occ_upd hM, dp_here (dr.up (same_offN hl)), dI_mk (.of upd_same), by rw [hrow.len]; exact ok.rule, hr1, by rw [hrow.len]; exact ok.k64, fun x H1 s1 dx1 => ?_⟩⟩
        have s01 : Same H H1 := (same_new hl).trans s1
        have hM1 := occ_kp hM s01
        obtain ⟨y, ys, rfl, hy, hyd⟩ := dp_tup dx1
        cases hyd with
        | cons d1 r =>
        cases r with
        | cons d2 r =>
        cases r
        obtain rfl := dp_bl d1
        obtain ⟨c, rfl, hc⟩ := dI_open d2
        refine ⟨y, _, rfl, seqT_mono off_same hy, rfl, _, _, rfl, _, _, rfl, rfl, ?_⟩
        refine ⟨_, rfl, c, _, rfl, .inl ⟨seqL_mono off_same hc, fun l2 hl2 => ?_⟩⟩
        refine ⟨_, rfl, _, rfl, .inr ⟨_, rfl, _, _, rfl, rfl, _, rfl, _, rfl, _, rfl, .inr ⟨_, rfl, _, _, rfl, rfl, by show 3 ≤ sizeLine; decide, fun p hp => ?_⟩⟩⟩
        have hM2 := occ_upd (p := l2) (o := .tup ((stp rule (pt pres b).1 b).2.map V.int)) hM1
        have hpart := dp_tup_new (K := K) hM2 hp (.cons (dT_mk (ns := (stp rule (pt pres b).1 b).2) (.of (off_upd hM1 hl2))) (.cons (.int ((pt pres b).2.1 + if (stp rule (pt pres b).1 b).1 = true then 1 else 0)) (.cons (.int ((pt pres b).2.2 + if (!(stp rule (pt pres b).1 b).1) = true then 1 else 0)) .nil)))
        have s3 := (s01.trans (same_new (o := .tup ((stp rule (pt pres b).1 b).2.map V.int)) hl2)).trans (same_new (o := .tup [.ref l2, .int ((pt pres b).2.1 + if (stp rule (pt pres b).1 b).1 = true then 1 else 0), .int ((pt pres b).2.2 + if (!(stp rule (pt pres b).1 b).1) = true then 1 else 0)]) hp)
        have hM3 := occ_kp hM s3
        generalize hH3 : upd (upd H1 l2 (.tup ((stp rule (pt pres b).1 b).2.map V.int))) p (.tup [.ref l2, .int ((pt pres b).2.1 + if (stp rule (pt pres b).1 b).1 = true then 1 else 0), .int ((pt pres b).2.2 + if (!(stp rule (pt pres b).1 b).1) = true then 1 else 0)]) = H3 at hpart s3 hM3
        have hq : Dp K (Off M H3) (.ref p) (dPart ((stp rule (pt pres b).1 b).2, (pt pres b).2.1 + (if (stp rule (pt pres b).1 b).1 then 1 else 0), (pt pres b).2.2 + (if (stp rule (pt pres b).1 b).1 then 0 else 1))) := by
          have eneg : (if (!(stp rule (pt pres b).1 b).1) = true then (1 : Int) else 0) = (if (stp rule (pt pres b).1 b).1 = true then 0 else 1) := by cases (stp rule (pt pres b).1 b).1 <;> rfl
          rw [eneg] at hpart
          exact hpart
        have e3 := s3 _ _ e
        have o3 := same_off (S := M) s3
        -- self.past
        refine ⟨_, rfl, s, C, dx, _, _, rfl, e3, sc.cls, sc.past, rfl, tq, qs, rfl, .inl (seqT_mono (off_same.trans s3) htq), _, rfl, s, C, dx, _, _, rfl, e3, sc.cls, sc.pres, rfl, ?_, fun z hz => ?_⟩
        · show (qs ++ [V.ref t]).length ≤ sizeLine
          rw [List.length_append, hlq]
          exact Nat.le_trans (show past.length + 1 ≤ 1000 from hpl) (by decide)
        have e4 := same_new (o := .tup (qs ++ [V.ref t])) hz _ _ e3
        have dq4 : Dp K (Off M (upd H3 z (.tup (qs ++ [V.ref t])))) (.ref z) (dPast (past ++ [pres])) := by
          have := dp_tup_new hM3 hz (dps_app (hdq.up o3) (dps_one (dp.up o3)))
          unfold dPast
          rw [List.map_append]
          exact this
        have s4 := s3.trans (same_new (o := .tup (qs ++ [V.ref t])) hz)
        have hM4 := occ_kp hM s4
        have hq4 := hq.up (same_offN (o := .tup (qs ++ [V.ref t])) hz)
        generalize upd H3 z (.tup (qs ++ [V.ref t])) = H4 at e4 dq4 s4 hM4 hq4
        refine ⟨_, rfl, s, C, dx, _, rfl, e4, sc.cls, sc.past, (show (4 : Nat) < 1000 by decide), ?_⟩
        have sub : ∀ c ∈ [s], c ∈ M := fun c hc => by rw [List.mem_singleton.mp hc]; exact hm
        have k5 : Kp [s] H4 (upd H4 s (.ins C dx (putF "past" (.ref z) (fsOf vr (.ref t) (.ref tq) (.ref tk))))) := kp_in List.mem_cons_self
        generalize h5 : upd H4 s (.ins C dx (putF "past" (.ref z) (fsOf vr (.ref t) (.ref tq) (.ref tk)))) = H5 at k5
        have e5 : H5 s = some (.ins C dx (fsOf vr (.ref t) (.ref z) (.ref tk))) := by rw [← h5, upd_same]; rfl
        have hM5 : Occ M H5 := by rw [← h5]; exact occ_upd hM4
        have o5 : Same (Off M H) (Off M H5) := (same_off s4).trans (kp_off k5 sub)
        have ht5 := seqT_mono o5 ht
        have hd5 := hd.up o5
        have hq5 := hq4.up (kp_off k5 sub)
        have dq5 := dq4.up (kp_off k5 sub)
        -- self.present
        have hi : ix pres b < xs.length := by rw [hlx]; exact hix
        refine ⟨_, rfl, s, C, dx, _, _, rfl, e5, sc.cls, sc.pres, rfl, _, rfl, _, rfl, t, xs, rfl, seqT_mono off_same ht5, nw_to hi, fun p1 hp1 => ⟨p1, _, rfl, .inl (.of upd_same), _, rfl, ?_⟩⟩
        have e6 := same_new (o := .tup (cutV xs none (some ((ix pres b : Nat) : Int)))) hp1 _ _ e5
        have s6 := same_new (o := .tup (cutV xs none (some ((ix pres b : Nat) : Int)))) hp1
        have hM6 := occ_kp hM5 s6
        have hp1' : upd H5 p1 (.tup (cutV xs none (some ((ix pres b : Nat) : Int)))) p1 = some (.tup (cutV xs none (some ((ix pres b : Nat) : Int)))) := upd_same
        generalize upd H5 p1 (.tup (cutV xs none (some ((ix pres b : Nat) : Int)))) = H6 at e6 s6 hM6 hp1'
        refine ⟨_, rfl, s, C, dx, _, _, rfl, e6, sc.cls, sc.pres, rfl, _, rfl, _, _, rfl, rfl, _, rfl, t, xs, rfl, s6.trans (Same.refl _) |> fun k => seqT_mono k (seqT_mono off_same ht5), nw_from rfl (by omega), fun p2 hp2 => ⟨p2, _, rfl, .inl (.of upd_same), ?_⟩⟩
        dsimp only
        rw [cut_to xs (Nat.le_of_lt hi), show ((ix pres b : Nat) : Int) + 1 = ((ix pres b + 1 : Nat) : Int) from rfl, cut_from xs hi]
        have s7 := s6.trans (same_new (o := .tup (xs.drop (ix pres b + 1))) hp2)
        have hM7 := occ_kp hM5 s7
        generalize upd H6 p2 (.tup (xs.drop (ix pres b + 1))) = H7 at s7 hM7
        refine ⟨?_, fun y2 hy2 => ?_⟩
        · refine Nat.le_of_lt (small64 ?_)
          have := ok.n64
          simp
          omega
        have s8 := s7.trans (same_new (o := .tup (xs.take (ix pres b) ++ V.ref p :: (xs.drop (ix pres b + 1) ++ []))) hy2)
        have dp8 : Dp K (Off M (upd H7 y2 (.tup (xs.take (ix pres b) ++ V.ref p :: (xs.drop (ix pres b + 1) ++ []))))) (.ref y2) (dPres (nxt rule pres b)) := by
          rw [List.append_nil]
          exact dp_tup_new hM7 hy2 ((dps_set hd5 hix hq5).up (same_off s7))
        have hM8 := occ_kp hM5 s8
        have e8 := s8 _ _ e5
        refine ⟨_, rfl, s, C, dx, _, rfl, e8, sc.cls, sc.pres, (show (4 : Nat) < 1000 by decide), ?_⟩
        generalize upd H7 y2 (.tup (xs.take (ix pres b) ++ V.ref p :: (xs.drop (ix pres b + 1) ++ []))) = H8 at s8 dp8 hM8 e8
        have k9 : Kp [s] H8 (upd H8 s (.ins C dx (putF "present" (.ref y2) (fsOf vr (.ref t) (.ref z) (.ref tk))))) := kp_in List.mem_cons_self
        have o9 := kp_off (S := M) k9 sub
        have o8 := same_off (S := M) s8
        exact ⟨_, rfl, hQ _ _ hsome _ (kp_trans (kp_trans (kp_same s4) k5) (kp_trans (kp_same s8) k9)) (occ_upd hM8)
          ⟨sc, hm, dx, _, _, _, _, upd_same, (dr.up (o5.trans o8)).up o9, dp8.up o9, (dq5.up o8).up o9, (dk.up (o5.trans o8)).up o9⟩⟩
end
end GN

/-! part D9 -/
set_option Elab.async false
set_option linter.all false
set_option maxRecDepth 100000
set_option maxHeartbeats 4000000
namespace GN
open PySem PySem.Spec L2
open PyProof.Rows hiding St

theorem dps_snoc {K : PySem.W.Frag} {H : Hp} : ∀ {ds : List PyData} {vs : List V} {d : PyData}, DpAll K H vs (ds ++ [d]) → ∃ ws v, vs = ws ++ [v] ∧ DpAll K H ws ds ∧ Dp K H v d
  | [], _, _, .cons a .nil => ⟨[], _, rfl, .nil, a⟩
  | e :: ds, _, d, .cons a r => by
    obtain ⟨ws, v, e1, h1, h2⟩ := dps_snoc (ds := ds) r
    exact ⟨_ :: ws, v, by rw [e1]; rfl, .cons a h1, h2⟩
theorem nw_last {xs : List V} (h0 : 0 < xs.length) : ¬ (HT.sIx xs.length 0 none = 0 ∧ HT.sIx xs.length xs.length (some (-1)) = xs.length) := fun ⟨_, e⟩ => by
  have e2 : HT.sIx xs.length xs.length (some (-1)) = xs.length - 1 := by
    show (if (-1 : Int) < 0 then ((-1 : Int) + (xs.length : Int)).toNat else min (-1 : Int).toNat xs.length) = _
    rw [if_pos (by decide)]
    omega
  rw [e2] at e
  omega
section
variable {P : Program} {w : World} {K : PySem.W.Frag} {mg : Str → Option Value} {base : Heap}
/-! ### undo -/
structure NuC (K : PySem.W.Frag) (mg : Str → Option Value) (cn : Addr) : Prop where
  q : PySem.W.excIn K cn [.type "ValueError", .type "Exception", .type "BaseException", .type "object"] "ValueError.__new__" = true
  g : mg "NothingToUndo" = some (.ref cn)
  k : PySem.W.keepIn K (.ref cn) = true
  b : PySem.W.subIn K (.ref cn) (.type "BaseException") = some true
  t : PySem.W.typeIn K (.ref cn) = some (.type "type")
abbrev sUndo : Stmt := inClass cls0 8
def spUndo (K : PySem.W.Frag) (cn : Addr) : Sp := fun vs H Q E => ∃ (M : List Addr) (s C : Addr) (rule : List (List Int)) (pres : Pres) (past : List Pres) (kept : List Int), vs = [.ref s] ∧ Occ M H ∧ Sto K M H s C rule pres past kept ∧
  (past = [] → ∀ H', Same H H' → E (.ref cn) none H') ∧ (∀ pa p, past = pa ++ [p] → ∀ H', Kp [s] H H' → Occ M H' → Sto K M H' s C rule p pa kept → Q .non H')
theorem scUndo : FnScope ["self"] ["self"] (defScope sUndo) := ⟨rfl, rfl, rfl, by decide +kernel, rfl, by decide +kernel, by decide +kernel⟩
theorem ok_undo {cn f : Addr} {fd : FuncData} (NU : NuC K mg cn) (F : Fun K "undo" "Cache.undo" sUndo f fd) : FnOk P w K mg base (L2.CX P w) 1 f fd ["self"] (spUndo K cn) := by
  have nq := NU.q
  refine F.okX scUndo (fun vs H Q E h => ?_) (fun cdv A outer s0 H vs Q E hr h => ?_)
  · obtain ⟨M, s, C, rule, pres, past, kept, rfl, _⟩ := h
    rfl
  · obtain ⟨M, s, C, rule, pres, past, kept, rfl, hM, S, hE, hQ⟩ := h
    obtain ⟨sc, hm, dx, vr, vp, vq, vk, e, dr, dp, dq, dk⟩ := S
    refine ⟨_, (pss_cons (ps_if (pt_cmpR (op_eqD (by exact hr.units)) (kpe_fld (K := K) (pv 0)) (pe_tup pa_nil) (nomark _)) (pss_one (ps_raise rfl (takes_of rfl rfl rfl rfl) (pmk_own PySem.F.excBase_ValueError nq NU.g NU.k (raises_own NU.b NU.t) rfl))) pss_nil)
      (pss_cons (ps_fld (pv 0) (pe_ix (kix_tup (K := K)) (kpe_fld (K := K) (pv 0)) (pe_un un_neg pe_int) (fun _ _ => rfl)) rfl)
      (pss_one (ps_fld (pv 0) (pe_slice sl_tup (kpe_fld (K := K) (pv 0)) po_none (po_some (pe_un un_neg pe_int))) rfl)))), ?_⟩
    refine ⟨_, rfl, s, C, dx, _, _, rfl, e, sc.cls, sc.past, rfl, by show 0 ≤ sizeLine; decide, fun em hem => ?_⟩
    have s1 := same_new (o := .tup []) hem
    refine ⟨dPast past, .tuple [], dp_here (dq.up (same_off s1)), .tup (.of upd_same) .nil, sh_ok (sh_past past), by decide, ?_⟩
    rcases List.eq_nil_or_concat past with hp | ⟨pa, p, hp⟩
    · subst hp
      exact ⟨true, rfl, iteT (hE rfl _ s1)⟩
    · rw [List.concat_eq_append] at hp
      subst hp
      refine ⟨false, ?_, iteF ?_⟩
      · cases pa <;> simp [dPast, PyData.eqv, PyData.eqvAll]
      obtain ⟨tq, qs, rfl, htq, hdq⟩ := dp_tup dq
      rw [List.map_append] at hdq
      obtain ⟨ws, v, rfl, hws, dv⟩ := dps_snoc hdq
      have e1 := s1 _ _ e
      have hM1 := occ_kp hM s1
      have o1 := same_off (S := M) s1
      generalize upd H em (.tup []) = H1 at s1 e1 hM1 o1
      refine ⟨_, rfl, s, C, dx, _, _, rfl, e1, sc.cls, sc.past, rfl, _, rfl, tq, _, _, _, rfl, rfl, seqT_mono (off_same.trans s1) htq, atI_last ws v, ?_⟩
      refine ⟨_, rfl, s, C, dx, _, rfl, e1, sc.cls, sc.pres, (show (4 : Nat) < 1000 by decide), ?_⟩
      have sub : ∀ c ∈ [s], c ∈ M := fun c hc => by rw [List.mem_singleton.mp hc]; exact hm
      have k2 : Kp [s] H1 (upd H1 s (.ins C dx (putF "present" v (fsOf vr vp (.ref tq) vk)))) := kp_in List.mem_cons_self
      generalize h2 : upd H1 s (.ins C dx (putF "present" v (fsOf vr vp (.ref tq) vk))) = H2 at k2
      have e2 : H2 s = some (.ins C dx (fsOf vr v (.ref tq) vk)) := by rw [← h2, upd_same]; rfl
      have hM2 : Occ M H2 := by rw [← h2]; exact occ_upd hM1
      have o2 := o1.trans (kp_off k2 sub)
      refine ⟨_, rfl, s, C, dx, _, _, rfl, e2, sc.cls, sc.past, rfl, _, rfl, _, rfl, tq, _, rfl, seqT_mono off_same (seqT_mono o2 htq), nw_last (by simp), fun p1 hp1 => ?_⟩
      have hc : cutV (ws ++ [v]) none (some (-1)) = ws := by rw [cut_last]; simp
      have s3 := same_new (o := .tup ws) hp1
      have dq3 : Dp K (Off M (upd H2 p1 (.tup ws))) (.ref p1) (dPast pa) := dp_tup_new hM2 hp1 (hws.up o2)
      have hM3 := occ_kp hM2 s3
      have e3 := s3 _ _ e2
      refine ⟨_, rfl, s, C, dx, fsOf vr v (.ref tq) vk, rfl, ?_, sc.cls, sc.past, (show (4 : Nat) < 1000 by decide), ?_⟩
      · show upd H2 p1 (.tup (cutV (ws ++ [v]) none (some (-1)))) s = _
        rw [hc]
        exact e3
      show Q .non (upd (upd H2 p1 (.tup (cutV (ws ++ [v]) none (some (-1))))) s (.ins C dx (putF "past" (.ref p1) (fsOf vr v (.ref tq) vk))))
      rw [hc]
      generalize upd H2 p1 (.tup ws) = H3 at s3 dq3 hM3 e3
      have k4 : Kp [s] H3 (upd H3 s (.ins C dx (putF "past" (.ref p1) (fsOf vr v (.ref tq) vk)))) := kp_in List.mem_cons_self
      have o4 := kp_off (S := M) k4 sub
      have o3 := o2.trans (same_off (S := M) s3)
      exact hQ _ _ rfl _ (kp_trans (kp_trans (kp_same s1) k2) (kp_trans (kp_same s3) k4)) (occ_upd hM3)
        ⟨sc, hm, dx, vr, v, .ref p1, vk, upd_same, (dr.up o3).up o4, (dv.up o3).up o4, dq3.up o4, (dk.up o3).up o4⟩
end
end GN

/-! part D10 -/
set_option Elab.async false
set_option linter.all false
set_option maxRecDepth 100000
set_option maxHeartbeats 4000000
namespace GN
open PySem PySem.Spec L2
open PyProof.Rows hiding St

def lcScope : Expr → Scope
  | .ListComp _ _ sc _ => sc
  | _ => { kind := .function, names := [], isGenerator := false, isCoroutine := false }
def lcElt : Expr → Expr
  | .ListComp e _ _ _ => e
  | e => e
def arg0 : Expr → Expr
  | .Call _ (a :: _) _ _ => a
  | e => e
def asgVal : Stmt → Expr
  | .Assign _ v _ => v
  | _ => .Name "" ⟨0, 0, 0, 0⟩
def dFirst (ps : Pres) : PyData := .list (ps.map fun p => dT p.1)
theorem sh_first (ps : Pres) : Sh 2 (dFirst ps) := sh_list (sh_map fun p => sh_dT 0 _)
/-- == of two stores of one class with one rule -/
def eqB (p1 : Pres) (k1 : List Int) (p2 : Pres) (k2 : List Int) : Bool :=
  PyData.eqv (dFirst p1) (dFirst p2) && (PyData.eqv (dI [hitsOf p1, missOf p1]) (dI [hitsOf p2, missOf p2]) && PyData.eqv (dT k1) (dT k2))
theorem eqB_refl (p : Pres) (k : List Int) : eqB p k p k = true := by
  unfold eqB
  rw [SeqAt.eqv_refl _ (sh_first p).1, SeqAt.eqv_refl _ (sh_dI 0 _).1, SeqAt.eqv_refl _ (sh_dT 0 _).1]
  rfl
theorem eqB_tot {p1 p2 : Pres} {k1 k2 : List Int} (h : tot p1 ≠ tot p2) : eqB p1 k1 p2 k2 = false := by
  have e : PyData.eqv (dI [hitsOf p1, missOf p1]) (dI [hitsOf p2, missOf p2]) = false := by
    unfold tot at h
    have : ¬ (hitsOf p1 = hitsOf p2 ∧ missOf p1 = missOf p2) := fun ⟨a, b⟩ => h (by rw [a, b])
    by_cases a : hitsOf p1 = hitsOf p2
    · have b : ¬ missOf p1 = missOf p2 := fun b => this ⟨a, b⟩
      simp [dI, PyData.eqv, PyData.eqvAll, a, b]
    · simp [dI, PyData.eqv, PyData.eqvAll, a]
  unfold eqB
  rw [e]
  simp
section
variable {P : Program} {w : World} {K : PySem.W.Frag} {mg : Str → Option Value} {base : Heap}
structure EqC (K : PySem.W.Frag) (C cc : Addr) : Prop where
  kind : ∃ κ u, Con K C "KIND" (.int κ) u
  ty : ∀ {H : Hp} {a dx : Addr} {fs : List (Str × V)}, H a = some (.ins C dx fs) → TyX K H (.ref a) (.ref C)
  kit : PySem.W.kitOne K (.ref C) (.ref cc) = some true
abbrev sEq : Stmt := inClass cls0 6
abbrev cE : Expr := asgVal ((defBody sEq).getD 2 (.Pass ⟨0, 0, 0, 0⟩))
def spEq (K : PySem.W.Frag) (cc : Addr) : Sp := fun vs H Q _ => ∃ (M : List Addr) (s s2 C : Addr) (rule : List (List Int)) (p1 p2 : Pres) (q1 q2 : List Pres) (k1 k2 : List Int), vs = [.ref s, .ref s2] ∧ Occ M H ∧ EqC K C cc ∧
  Sto K M H s C rule p1 q1 k1 ∧ Sto K M H s2 C rule p2 q2 k2 ∧ p1.length < 64 ∧ p2.length < 64 ∧ ∀ H', Same H H' → Q (.bl (eqB p1 k1 p2 k2)) H'
abbrev NEq : List Str := ["self", "other", "rows", "counts", "part", "one", "place"]
theorem scEq : FnScope NEq ["self", "other"] (defScope sEq) := ⟨rfl, rfl, rfl, by decide +kernel, rfl, by decide +kernel, by decide +kernel⟩
theorem ok_eq {cc f : Addr} {fd : FuncData} (B : Bi mg) (hcc : mg "Cache" = some (.ref cc)) (F : Fun K "__eq__" "Cache.__eq__" sEq f fd) : FnOk P w K mg base CX0 1 f fd ["self", "other"] (spEq K cc) := by
  refine F.ok scEq (fun vs H Q E h => ?_) (fun cdv A outer s0 H vs Q E hr h => ?_)
  · obtain ⟨M, s, s2, C, rule, p1, p2, q1, q2, k1, k2, rfl, _⟩ := h
    rfl
  · obtain ⟨M, s, s2, C, rule, p1, p2, q1, q2, k1, k2, rfl, hM, EC, S1, S2, h1, h2, q⟩ := h
    obtain ⟨sc, hm1, dx1, vr1, vp1, vq1, vk1, e1, dr1, dp1, dq1, dk1⟩ := S1
    obtain ⟨_, hm2, dx2, vr2, vp2, vq2, vk2, e2, dr2, dp2, dq2, dk2⟩ := S2
    obtain ⟨t1, xs1, rfl, ht1, hd1, hl1⟩ := dp_pres dp1
    obtain ⟨t2, xs2, rfl, ht2, hd2, hl2⟩ := dp_pres dp2
    obtain ⟨κ, u, con⟩ := EC.kind
    refine ⟨_, (pss_cons (ps_if (PW.pt (pw_or (pt_not (pt_val (pe_callB call_isi (by rfl) B.isi boot_isinstance (pa_cons (pv 1) (pa_cons (pe_glob (v := .ref cc) rfl hcc rfl) pa_nil)) (by decide) (by decide)))) (pw_or (pt_cmpR op_ne (kpe_con (K := K) (pv 0)) (kpe_con (K := K) (pv 1)) (nomark _)) (pw_or1 (pt_cmpR (op_neD (by exact hr.units)) (kpe_fld (K := K) (pv 0)) (kpe_fld (K := K) (pv 1)) (nomark _)))))) (pss_one (ps_ret pe_bl)) pss_nil)
      (pss_cons (ps_set (i := 2) scEq.nd rfl (Or.inl rfl) (pe_cmpR (op_eqD (by exact hr.units)) (pe_lc (own := [("part", 4)]) (g := gName 4) (tt := tYes) rfl scEq.nd (kpi_tup (K := K) (kpe_fld (K := K) (pv 0))) (blkOk_by (N := ["self", "other", "rows", "counts", "part", "one", "place"]) (sc := defScope sEq) (by decide +kernel)) (fun _ _ _ _ _ => (pg_name (i := 4) scEq.nd rfl (Or.inl rfl))) (fun _ _ _ _ _ => pts_nil) (fun _ _ _ _ _ => (pe_ix (kix_tup (K := K)) (pv 4) pe_int (fun _ _ => rfl)))) (pe_lc (own := [("part", 4)]) (g := gName 4) (tt := tYes) rfl scEq.nd (kpi_tup (K := K) (kpe_fld (K := K) (pv 1))) (blkOk_by (N := ["self", "other", "rows", "counts", "part", "one", "place"]) (sc := defScope sEq) (by decide +kernel)) (fun _ _ _ _ _ => (pg_name (i := 4) scEq.nd rfl (Or.inl rfl))) (fun _ _ _ _ _ => pts_nil) (fun _ _ _ _ _ => (pe_ix (kix_tup (K := K)) (pv 4) pe_int (fun _ _ => rfl)))) (nomark _)))
      (pss_cons (ps_setLc (i := 3) (own := [("one", 5)]) (g := gName 5) (tt := tYes) rfl scEq.nd rfl rfl (sw_true rfl rfl rfl (by decide +kernel)) (kpi_tup (K := K) (pe_tup (pa_cons (pv 0) (pa_cons (pv 1) pa_nil)))) (blkOk_by (N := ["self", "other", "rows", "counts", "part", "one", "place"]) (sc := defScope sEq) (by decide +kernel)) (fun _ _ _ _ _ => (pg_name (i := 5) scEq.nd rfl (Or.inr rfl))) (fun _ _ _ _ _ => pts_nil) (fun _ _ _ _ _ => (pe_lc (own := [("place", 6)]) (g := gName 6) (tt := tYes) rfl scEq.nd (kpi_tup (K := K) (pe_tup (pa_cons pe_int (pa_cons pe_int pa_nil)))) (blkOk_by (N := ["self", "other", "rows", "counts", "part", "one", "place"]) (sc := lcScope cE) (by decide +kernel)) (fun _ _ _ _ _ => (pg_name (i := 6) scEq.nd rfl (Or.inr rfl))) (fun _ _ _ _ _ => pts_nil) (fun _ _ _ _ _ => (kz_sum (K := K) rfl B (pe_lc (own := [("part", 4)]) (g := gName 4) (tt := tYes) rfl scEq.nd (kpi_tup (K := K) (kpe_fld (K := K) (pv 5))) (blkOk_by (N := ["self", "other", "rows", "counts", "part", "one", "place"]) (sc := { kind := .function, names := [(".0", .local), ("place", .cell), ("sum", .globalImplicit), ("one", .cell)], isGenerator := false, isCoroutine := false }) (by decide +kernel)) (fun _ _ _ _ _ => (pg_name (i := 4) scEq.nd rfl (Or.inl rfl))) (fun _ _ _ _ _ => pts_nil) (fun _ _ _ _ _ => (pe_ix (kix_tup (K := K)) (pv 4) (pv 6) (fun _ _ => rfl)))))))))
      (pss_one (ps_ret (pe_and (pv 2) (pe_and (pe_cmpR (op_eqD (by exact hr.units)) (pe_ix (kix_list (K := K)) (pv 3) pe_int (fun _ _ => rfl)) (pe_ix (kix_list (K := K)) (pv 3) pe_int (fun _ _ => rfl)) (nomark _)) (pe_one (pe_cmpR (op_eqD (by exact hr.units)) (kpe_fld (K := K) (pv 0)) (kpe_fld (K := K) (pv 1)) (nomark _)))))))))), ?_⟩
    refine ⟨_, rfl, _, _, _, _, true, rfl, .own cc, EC.ty e2, EC.kit, true, rfl, iteF ?_⟩
    refine ⟨_, rfl, s, C, dx1, _, .int κ, u, rfl, e1, sc.cls, con, rfl, _, rfl, s2, C, dx2, _, .int κ, u, rfl, e2, sc.cls, con, rfl, rfl, _, rfl, iteNS rfl ?_⟩
    refine ⟨_, rfl, s, C, dx1, _, _, rfl, e1, sc.cls, sc.rule, rfl, _, rfl, s2, C, dx2, _, _, rfl, e2, sc.cls, sc.rule, rfl, dRule rule, dRule rule, dp_here dr1, dp_here dr2, sh_ok (sh_rule _), sh_ok (sh_rule _), false, ?_, iteF ?_⟩
    · rw [SeqAt.eqv_refl _ (sh_rule _).1]; rfl
    -- rows
    refine ⟨_, rfl, s, C, dx1, _, _, rfl, e1, sc.cls, sc.pres, rfl, t1, rfl, ⟨_, seqT_mono off_same ht1⟩, fun D1 hD1 => ?_⟩
    refine lc_pT (K := K) (M := M) (ds := p1.map fun p => dT p.1) hD1 hM (by rw [List.length_map, hl1]) (by rw [hl1]; exact small64 h1) ht1 (fun i x d H3 G hx hd' hs3 hO up hG => ?_) (fun H3 vs3 hs3 hM3 hD3 hds3 => ?_)
    · obtain ⟨p, hp, dx', rfl⟩ := dps_nth hd1 hx hd'
      obtain ⟨y, a, rfl, hy, da, ha⟩ := dp_part (dx'.up up)
      exact ⟨rfl, _, rfl, y, _, _, _, rfl, rfl, seqT_mono off_same hy, (show atI [V.ref a, V.int p.2.1, V.int p.2.2] 0 = some (V.ref a) from rfl), hG _ _ (Same.refl _) da⟩
    have dA : Dp K (Off M H3) (.ref D1) (dFirst p1) := .lst (.of (by rw [off_get (occ_new hM hD1)]; exact hD3)) hds3
    have o3 := same_off (S := M) hs3
    refine ⟨_, rfl, s2, C, dx2, _, _, rfl, hs3 _ _ e2, sc.cls, sc.pres, rfl, t2, rfl, ⟨_, seqT_mono off_same (seqT_mono o3 ht2)⟩, fun D2 hD2 => ?_⟩
    refine lc_pT (K := K) (M := M) (ds := p2.map fun p => dT p.1) hD2 hM3 (by rw [List.length_map, hl2]) (by rw [hl2]; exact small64 h2) (seqT_mono o3 ht2) (fun i x d H4 G hx hd' hs4 hO up hG => ?_) (fun H4 vs4 hs4 hM4 hD4 hds4 => ?_)
    · obtain ⟨p, hp, dx', rfl⟩ := dps_nth (hd2.up o3) hx hd'
      obtain ⟨y, a, rfl, hy, da, ha⟩ := dp_part (dx'.up up)
      exact ⟨rfl, _, rfl, y, _, _, _, rfl, rfl, seqT_mono off_same hy, (show atI [V.ref a, V.int p.2.1, V.int p.2.2] 0 = some (V.ref a) from rfl), hG _ _ (Same.refl _) da⟩
    have dB : Dp K (Off M H4) (.ref D2) (dFirst p2) := .lst (.of (by rw [off_get (occ_new hM3 hD2)]; exact hD4)) hds4
    refine ⟨_, _, dp_here (dA.up (same_off hs4)), dp_here dB, sh_ok (sh_first _), sh_ok (sh_first _), ?_⟩
    have s4 := hs3.trans hs4
    have o4 := same_off (S := M) s4
    -- counts
    refine ⟨_, rfl, _, rfl, by show 2 ≤ sizeLine; decide, fun t5 ht5 => ?_⟩
    have s5 := s4.trans (same_new (o := .tup [.ref s, .ref s2]) ht5)
    have hM5 := occ_kp hM s5
    have e5 : Off M (upd H4 t5 (.tup [.ref s, .ref s2])) t5 = some (.tup [.ref s, .ref s2]) := off_upd hM4 ht5
    generalize upd H4 t5 (.tup [.ref s, .ref s2]) = H5 at s5 hM5 e5
    have o5 := same_off (S := M) s5
    refine ⟨t5, rfl, ⟨_, .of ((off_some e5).1)⟩, fun D6 hD6 => ?_⟩
    refine lc_pT (K := K) (M := M) (ds := [dI [hitsOf p1, missOf p1], dI [hitsOf p2, missOf p2]]) hD6 hM5 rfl (by show 2 < sizeLine; decide) (.of e5) (fun i x d H6 G hx hd' hs6 hO up hG => ?_) (fun H6 vs6 hs6 hM6 hD6' hds6 => ?_)
    · have pick : ∃ (sI dxI tI : Addr) (fsI : List (Str × V)) (xsI : List V) (pI : Pres), x = .ref sI ∧ H6 sI = some (.ins C dxI fsI) ∧ fsI.lookup ("present" : Str) = some (V.ref tI) ∧ SqT K (Off (D6 :: M) H6) tI xsI ∧ DpAll K (Off (D6 :: M) H6) xsI (pI.map dPart) ∧ xsI.length = pI.length ∧ pI.length < 64 ∧ d = dI [hitsOf pI, missOf pI] := by
        have u6 : Same (Off M H) (Off (D6 :: M) H6) := o5.trans up
        have e61 := hs6 _ _ (s5 _ _ e1)
        have e62 := hs6 _ _ (s5 _ _ e2)
        match i, hx, hd' with
        | 0, hx, hd' =>
          cases hx
          cases hd'
          exact ⟨s, dx1, t1, _, xs1, p1, rfl, e61, rfl, seqT_mono u6 ht1, hd1.up u6, hl1, h1, rfl⟩
        | 1, hx, hd' =>
          cases hx
          cases hd'
          exact ⟨s2, dx2, t2, _, xs2, p2, rfl, e62, rfl, seqT_mono u6 ht2, hd2.up u6, hl2, h2, rfl⟩
        | i + 2, hx, hd' => simp at hx
      obtain ⟨sI, dxI, tI, fsI, xsI, pI, rfl, eI, lkI, htI, hdI, hlI, hI64, rfl⟩ := pick
      refine ⟨rfl, by show 2 ≤ sizeLine; decide, fun t7 ht7 => ?_⟩
      have s7 := same_new (o := .tup [V.int 1, V.int 2]) ht7
      have hM7 := occ_kp hO s7
      have e7 : Off (D6 :: M) (upd H6 t7 (.tup [V.int 1, V.int 2])) t7 = some (.tup [V.int 1, V.int 2]) := off_upd hO ht7
      generalize upd H6 t7 (.tup [V.int 1, V.int 2]) = H7 at s7 hM7 e7
      have o7 := same_off (S := D6 :: M) s7
      refine ⟨t7, rfl, ⟨_, .of ((off_some e7).1)⟩, fun D8 hD8 => ?_⟩
      refine lc_pT (K := K) (M := D6 :: M) (ds := [.int (hitsOf pI), .int (missOf pI)]) hD8 hM7 rfl (by show 2 < sizeLine; decide) (.of e7) (fun j z d8 H8 G8 hz hd8 hs8 hO8 up8 hG8 => ?_) (fun H8 vs8 hs8 hM8 hD8' hds8 => ?_)
      · have pick2 : ∃ (n : Int) (fn : Part → Int), z = .int n ∧ d8 = .int (pI.map fn).sum ∧ ∀ (p : Part) (a : Addr), atI [V.ref a, V.int p.2.1, V.int p.2.2] n = some (.int (fn p)) := by
          match j, hz, hd8 with
          | 0, hz, hd8 =>
            cases hz
            cases hd8
            exact ⟨1, fun p => p.2.1, rfl, rfl, fun p a => rfl⟩
          | 1, hz, hd8 =>
            cases hz
            cases hd8
            exact ⟨2, fun p => p.2.2, rfl, rfl, fun p a => rfl⟩
          | j + 2, hz, hd8 => simp at hz
        obtain ⟨n, fn, rfl, rfl, hat⟩ := pick2
        have u8 := o7.trans up8
        refine ⟨rfl, _, rfl, sI, C, dxI, _, _, rfl, hs8 _ _ (s7 _ _ eI), sc.cls, sc.pres, lkI, tI, rfl, ⟨_, seqT_mono off_same (seqT_mono u8 htI)⟩, fun D9 hD9 => ?_⟩
        refine lc_pT (K := K) (M := D8 :: D6 :: M) (ds := pI.map fun p => .int (fn p)) hD9 hO8 (by rw [List.length_map, hlI]) (by rw [hlI]; exact small64 hI64) (seqT_mono u8 htI) (fun i x d H9 G9 hx hd' hs9 hO9 up9 hG9 => ?_) (fun H9 vs9 hs9 hM9 hD9' hds9 => ?_)
        · obtain ⟨p, hp, dx', rfl⟩ := dps_nth (hdI.up u8) hx hd'
          obtain ⟨y, a, rfl, hy, da, ha⟩ := dp_part (dx'.up up9)
          exact ⟨rfl, _, rfl, _, rfl, y, _, _, _, rfl, rfl, seqT_mono off_same hy, hat p a, hG9 _ _ (Same.refl _) (.int _)⟩
        · rw [map_ints] at hds9
          rw [ints_dps hds9] at hD9'
          exact ⟨D9, _, rfl, .of hD9', hG8 _ _ hs9 (.int _)⟩
      · exact hG _ _ (s7.trans hs8) (.lst (.of (by rw [off_get (occ_new hM7 hD8)]; exact hD8')) hds8)
    have s6 := s5.trans hs6
    have o6 := same_off (S := M) s6
    cases hds6 with
    | @cons v1 _ c1 _ dc1 r =>
    cases r with
    | @cons v2 _ c2 _ dc2 r =>
    cases r
    refine ⟨_, rfl, _, rfl, ?_⟩
    by_cases hA : PyData.eqv (dFirst p1) (dFirst p2) = true
    · rw [hA]
      refine iteT ?_
      refine ⟨_, rfl, D6, _, _, _, rfl, rfl, .of hD6', (show atI [v1, v2] 0 = some v1 from rfl), _, rfl, D6, _, _, _, rfl, rfl, .of hD6', (show atI [v1, v2] 1 = some v2 from rfl), _, _, dp_here dc1, dp_here dc2, sh_ok (sh_dI 0 _), sh_ok (sh_dI 0 _), _, rfl, ?_⟩
      by_cases hB : PyData.eqv (dI [hitsOf p1, missOf p1]) (dI [hitsOf p2, missOf p2]) = true
      · rw [hB]
        refine iteT ?_
        refine ⟨_, rfl, s, C, dx1, _, _, rfl, s6 _ _ e1, sc.cls, sc.kept, rfl, _, rfl, s2, C, dx2, _, _, rfl, s6 _ _ e2, sc.cls, sc.kept, rfl, dT k1, dT k2, dp_here (dk1.up o6), dp_here (dk2.up o6), sh_ok (sh_dT 0 _), sh_ok (sh_dT 0 _), ?_⟩
        have := q H6 s6
        unfold eqB at this
        rw [hA, hB] at this
        exact this
      · rw [Bool.not_eq_true] at hB
        rw [hB]
        refine iteF ?_
        have := q H6 s6
        unfold eqB at this
        rw [hA, hB] at this
        exact this
    · rw [Bool.not_eq_true] at hA
      rw [hA]
      refine iteF ?_
      have := q H6 s6
      unfold eqB at this
      rw [hA] at this
      exact this
end
end GN

/-! part D11 -/
set_option Elab.async false
set_option linter.all false
set_option maxRecDepth 100000
set_option maxHeartbeats 4000000
namespace GN
open PySem PySem.Spec L2
open PyProof.Rows hiding St

theorem initOk_of {n k : Nat} {rule : List (List Int)} {pres : Pres} (ok : StOk n k rule pres) (h2 : 2 ≤ k) (h12 : k ≤ 12) : InitOk k rule (pres.map (·.1)) := by
  have hl := ok.pres.len
  refine ⟨ok.rule, h2, h12, ⟨by rw [List.length_map, hl]; exact ok.n0, by rw [List.length_map, hl]; exact ok.n64, fun i r hr => ?_⟩⟩
  rw [List.getElem?_map] at hr
  cases e : pres[i]? with
  | none => rw [e] at hr; cases hr
  | some p =>
    rw [e] at hr
    rw [← Option.some.inj hr, List.length_map, hl]
    exact ok.pres.row i p e
theorem dLines_rows (pres : Pres) : dLines pres = dRows (pres.map (·.1)) := by
  unfold dLines dRows
  rw [List.map_map]
  rfl
section
variable {M : List Addr} {H H1 H2 H' : Hp} {x dx C : Addr} {K : PySem.W.Frag}
theorem same_kp1 (a : Same H H2) (hn : H x = none) (k : Kp [x] H2 H') : Same H H' := fun b o e => k b o (a b o e) (by simp [ne_of_none e hn])
theorem made_same (h1 : H1 x = none) (h2 : H1 dx = none) (hne : dx ≠ x) : Same H1 (upd (upd H1 dx (.own x)) x (.ins C dx [])) :=
  (same_new h2).trans (same_new (by rw [upd_ne (Ne.symm hne)]; exact h1))
end
/-- a fresh store of one's class: pl: without kept blocks -/
def KeptOk (pl : Bool) (kept : List Int) : Prop := (pl = true → kept = []) ∧ (pl = false → kset kept = kept ∧ BlkAll kept ∧ kept.length < 64)
def spFresh (K : PySem.W.Frag) (C : Addr) (pl : Bool) : Sp := fun vs H Q _ => ∃ (M : List Addr) (s : Addr) (rule : List (List Int)) (pres : Pres) (past : List Pres) (kept : List Int) (n k : Nat), vs = [.ref s] ∧ Occ M H ∧ Sto K M H s C rule pres past kept ∧ StOk n k rule pres ∧ 2 ≤ k ∧ k ≤ 12 ∧ KeptOk pl kept ∧
  ∀ t H', H t = none → Same H H' → Occ (t :: M) H' → Sto K (t :: M) H' t C rule (pres0 (pres.map (·.1))) [] kept → Q (.ref t) H'
section
variable {P : Program} {w : World} {K : PySem.W.Frag} {mg : Str → Option Value} {base : Heap}
/-- what makes a plain store: the class at C, its __init__ the one of Cache -/
structure MkP0 (P : Program) (w : World) (K : PySem.W.Frag) (mg : Str → Option Value) (base : Heap) (x : Str) (C : Addr) : Prop where
  g : mg x = some (.ref C)
  ex : ∃ f fd, Mk K C f ∧ FnOk P w K mg base CX0 5 f fd ["self", "rule", "rows"] (spInit K) ∧ Binds K fd ["self", "rule", "rows"] []
  rows : Pr2 P w K mg base 1 C "rows" (spRead K oRows)
abbrev sFresh0 : Stmt := inClass cls0 9
theorem scFresh0 : FnScope ["self"] ["self"] (defScope sFresh0) := ⟨rfl, rfl, rfl, by decide +kernel, rfl, by decide +kernel, by decide +kernel⟩
theorem ok_fresh0 {C f : Addr} {fd : FuncData} (MP : MkP0 P w K mg base "Cache" C) (sc : SC K C) (F : Fun K "fresh_twin" "Cache.fresh_twin" sFresh0 f fd) : FnOk P w K mg base CX0 7 f fd ["self"] (spFresh K C true) := by
  obtain ⟨fI, fdI, MK, FI, bI⟩ := MP.ex
  refine F.ok scFresh0 (fun vs H Q E h => ?_) (fun cdv A outer s0 H vs Q E hr h => ?_)
  · obtain ⟨M, s, rule, pres, past, kept, n, k, rfl, _⟩ := h
    rfl
  · obtain ⟨M, s, rule, pres, past, kept, n, k, rfl, hM, S, ok, h2, h12, hk, q⟩ := h
    have S' := S
    obtain ⟨sc, hm, dx, vr, vp, vq, vk, e, dr, dp, dq, dk⟩ := S'
    refine ⟨_, (pss_one (ps_ret (pe_make MK FI hr rfl MP.g bI .nil pass0 (pa_cons (kpe_fld (K := K) (pv 0)) (pa_cons (pe_pr (pv 0) sc.cls MP.rows (hr.mono (by decide))) pa_nil))))), ?_⟩
    refine ⟨_, rfl, s, C, dx, _, _, rfl, e, sc.cls, sc.rule, rfl, _, rfl, s, dx, _, rfl, e, M, s, C, rule, pres, past, kept, rfl, hM, S, by rw [ok.pres.len]; exact ok.n64, fun v H1 s1 dv => ?_⟩
    intro t dt ht hdt hne
    have sm := made_same (C := C) ht hdt hne
    have o2 : Same (Off M H1) (Off (t :: M) (upd (upd H1 dt (.own t)) t (.ins C dt []))) := same_offD sm ht
    refine ⟨t :: M, t, C, dt, vr, v, rule, pres.map (·.1), k, rfl, List.mem_cons_self, occ_cons (occ_kp hM (s1.trans sm)) upd_same, upd_same, sc, dr.up ((same_off s1).trans o2), (by rw [← dLines_rows]; exact dv.up o2), initOk_of ok h2 h12, fun H' k' hM' S' => ⟨rfl, ?_⟩⟩
    have hkn := hk.1 rfl
    subst hkn
    exact q t H' (s1.free ht) (same_kp1 (s1.trans sm) (s1.free ht) k') hM' S'
abbrev sFresh1 : Stmt := inClass (top 27) 1
theorem scFresh1 : FnScope ["self"] ["self"] (defScope sFresh1) := ⟨rfl, rfl, rfl, by decide +kernel, rfl, by decide +kernel, by decide +kernel⟩
theorem ok_fresh1 {C f : Addr} {fd : FuncData} (MP : MkP0 P w K mg base "CountingCache" C) (sc : SC K C) (F : Fun K "fresh_twin" "CountingCache.fresh_twin" sFresh1 f fd) : FnOk P w K mg base CX0 7 f fd ["self"] (spFresh K C true) := by
  obtain ⟨fI, fdI, MK, FI, bI⟩ := MP.ex
  refine F.ok scFresh1 (fun vs H Q E h => ?_) (fun cdv A outer s0 H vs Q E hr h => ?_)
  · obtain ⟨M, s, rule, pres, past, kept, n, k, rfl, _⟩ := h
    rfl
  · obtain ⟨M, s, rule, pres, past, kept, n, k, rfl, hM, S, ok, h2, h12, hk, q⟩ := h
    have S' := S
    obtain ⟨sc, hm, dx, vr, vp, vq, vk, e, dr, dp, dq, dk⟩ := S'
    refine ⟨_, (pss_one (ps_ret (pe_make MK FI hr rfl MP.g bI .nil pass0 (pa_cons (kpe_fld (K := K) (pv 0)) (pa_cons (pe_pr (pv 0) sc.cls MP.rows (hr.mono (by decide))) pa_nil))))), ?_⟩
    refine ⟨_, rfl, s, C, dx, _, _, rfl, e, sc.cls, sc.rule, rfl, _, rfl, s, dx, _, rfl, e, M, s, C, rule, pres, past, kept, rfl, hM, S, by rw [ok.pres.len]; exact ok.n64, fun v H1 s1 dv => ?_⟩
    intro t dt ht hdt hne
    have sm := made_same (C := C) ht hdt hne
    have o2 : Same (Off M H1) (Off (t :: M) (upd (upd H1 dt (.own t)) t (.ins C dt []))) := same_offD sm ht
    refine ⟨t :: M, t, C, dt, vr, v, rule, pres.map (·.1), k, rfl, List.mem_cons_self, occ_cons (occ_kp hM (s1.trans sm)) upd_same, upd_same, sc, dr.up ((same_off s1).trans o2), (by rw [← dLines_rows]; exact dv.up o2), initOk_of ok h2 h12, fun H' k' hM' S' => ⟨rfl, ?_⟩⟩
    have hkn := hk.1 rfl
    subst hkn
    exact q t H' (s1.free ht) (same_kp1 (s1.trans sm) (s1.free ht) k') hM' S'
/-- what makes a keeping store -/
structure MkK0 (P : Program) (w : World) (K : PySem.W.Frag) (mg : Str → Option Value) (base : Heap) (x : Str) (C : Addr) : Prop where
  g : mg x = some (.ref C)
  ex : ∃ D f2 f fd, PySem.W.mroIn K C (.ref D) = some true ∧ PySem.W.ks_superIn K C D "__init__" = some (some (.ref f2)) ∧ Mk K C f ∧ FnOk P w K mg base CX0 6 f fd ["self", "rule", "rows", "kept"] (spKInit K D f2) ∧ KBn K fd ["self", "rule", "rows", "kept"] 3 ["kept"] (fun us ws => us ++ ws) (fun vs zs => vs ++ zs)
  rows : Pr2 P w K mg base 1 C "rows" (spRead K oRows)
abbrev sFresh2 : Stmt := inClass (top 28) 2
theorem scFresh2 : FnScope ["self"] ["self"] (defScope sFresh2) := ⟨rfl, rfl, rfl, by decide +kernel, rfl, by decide +kernel, by decide +kernel⟩
theorem ok_fresh2 {C f : Addr} {fd : FuncData} (B : Bi mg) (MP : MkK0 P w K mg base "KeepingCache" C) (sc : SC K C) (F : Fun K "fresh_twin" "KeepingCache.fresh_twin" sFresh2 f fd) : FnOk P w K mg base CX0 8 f fd ["self"] (spFresh K C false) := by
  obtain ⟨D, f2, fI, fdI, hmro, hsup, MK, FI, bI⟩ := MP.ex
  refine F.ok scFresh2 (fun vs H Q E h => ?_) (fun cdv A outer s0 H vs Q E hr h => ?_)
  · obtain ⟨M, s, rule, pres, past, kept, n, k, rfl, _⟩ := h
    rfl
  · obtain ⟨M, s, rule, pres, past, kept, n, k, rfl, hM, S, ok, h2, h12, hk, q⟩ := h
    have S' := S
    obtain ⟨sc, hm, dx, vr, vp, vq, vk, e, dr, dp, dq, dk⟩ := S'
    obtain ⟨c, rfl, hc⟩ := dT_open dk
    obtain ⟨hks, hkb, hk64⟩ := hk.2 rfl
    refine ⟨_, (pss_one (ps_ret (pe_makeK (n := 2) MK FI hr rfl MP.g bI pass0 (pa_cons (kpe_fld (K := K) (pv 0)) (pa_cons (pe_pr (pv 0) sc.cls MP.rows (hr.mono (by decide))) pa_nil)) (pk_cons (kz_list (K := K) B (kpe_fld (K := K) (pv 0))) pk_nil)))), ?_⟩
    refine ⟨_, rfl, s, C, dx, _, _, rfl, e, sc.cls, sc.rule, rfl, _, rfl, s, dx, _, rfl, e, M, s, C, rule, pres, past, kept, rfl, hM, S, by rw [ok.pres.len]; exact ok.n64, fun v H1 s1 dv => ?_⟩
    refine ⟨_, rfl, s, C, dx, _, _, rfl, s1 _ _ e, sc.cls, sc.kept, rfl, c, _, rfl, .inr (seqT_mono (off_same.trans s1) hc), fun l hl => ⟨rfl, rfl, ?_⟩⟩
    intro t dt ht hdt hne
    have s2 := same_new (o := .lst (kept.map V.int)) hl
    have hM1 := occ_kp hM s1
    have dk2 : Dp K (Off M (upd H1 l (.lst (kept.map V.int)))) (.ref l) (dI kept) := dI_mk (.of (off_upd hM1 hl))
    generalize upd H1 l (.lst (kept.map V.int)) = H2 at s2 dk2 ht hdt
    have sm := made_same (C := C) ht hdt hne
    have o2 : Same (Off M H2) (Off (t :: M) (upd (upd H2 dt (.own t)) t (.ins C dt []))) := same_offD sm ht
    have s3 := (s1.trans s2).trans sm
    refine ⟨t :: M, t, C, dt, vr, v, .ref l, rule, pres.map (·.1), kept, k, rfl, List.mem_cons_self, occ_cons (occ_kp hM s3) upd_same, upd_same, sc, hmro, hsup, dr.up ((same_off (s1.trans s2)).trans o2), (by rw [← dLines_rows]; exact dv.up ((same_off s2).trans o2)), initOk_of ok h2 h12, dk2.up o2, hkb, hk64, fun H' k' hM' S' => ⟨rfl, ?_⟩⟩
    rw [hks] at S'
    exact q t H' ((s1.trans s2).free ht) (same_kp1 s3 ((s1.trans s2).free ht) k') hM' S'
abbrev sFresh3 : Stmt := inClass (top 29) 1
theorem scFresh3 : FnScope ["self"] ["self"] (defScope sFresh3) := ⟨rfl, rfl, rfl, by decide +kernel, rfl, by decide +kernel, by decide +kernel⟩
theorem ok_fresh3 {C f : Addr} {fd : FuncData} (B : Bi mg) (MP : MkK0 P w K mg base "CountingKeepingCache" C) (sc : SC K C) (F : Fun K "fresh_twin" "CountingKeepingCache.fresh_twin" sFresh3 f fd) : FnOk P w K mg base CX0 8 f fd ["self"] (spFresh K C false) := by
  obtain ⟨D, f2, fI, fdI, hmro, hsup, MK, FI, bI⟩ := MP.ex
  refine F.ok scFresh3 (fun vs H Q E h => ?_) (fun cdv A outer s0 H vs Q E hr h => ?_)
  · obtain ⟨M, s, rule, pres, past, kept, n, k, rfl, _⟩ := h
    rfl
  · obtain ⟨M, s, rule, pres, past, kept, n, k, rfl, hM, S, ok, h2, h12, hk, q⟩ := h
    have S' := S
    obtain ⟨sc, hm, dx, vr, vp, vq, vk, e, dr, dp, dq, dk⟩ := S'
    obtain ⟨c, rfl, hc⟩ := dT_open dk
    obtain ⟨hks, hkb, hk64⟩ := hk.2 rfl
    refine ⟨_, (pss_one (ps_ret (pe_makeK (n := 2) MK FI hr rfl MP.g bI pass0 (pa_cons (kpe_fld (K := K) (pv 0)) (pa_cons (pe_pr (pv 0) sc.cls MP.rows (hr.mono (by decide))) pa_nil)) (pk_cons (kz_list (K := K) B (kpe_fld (K := K) (pv 0))) pk_nil)))), ?_⟩
    refine ⟨_, rfl, s, C, dx, _, _, rfl, e, sc.cls, sc.rule, rfl, _, rfl, s, dx, _, rfl, e, M, s, C, rule, pres, past, kept, rfl, hM, S, by rw [ok.pres.len]; exact ok.n64, fun v H1 s1 dv => ?_⟩
    refine ⟨_, rfl, s, C, dx, _, _, rfl, s1 _ _ e, sc.cls, sc.kept, rfl, c, _, rfl, .inr (seqT_mono (off_same.trans s1) hc), fun l hl => ⟨rfl, rfl, ?_⟩⟩
    intro t dt ht hdt hne
    have s2 := same_new (o := .lst (kept.map V.int)) hl
    have hM1 := occ_kp hM s1
    have dk2 : Dp K (Off M (upd H1 l (.lst (kept.map V.int)))) (.ref l) (dI kept) := dI_mk (.of (off_upd hM1 hl))
    generalize upd H1 l (.lst (kept.map V.int)) = H2 at s2 dk2 ht hdt
    have sm := made_same (C := C) ht hdt hne
    have o2 : Same (Off M H2) (Off (t :: M) (upd (upd H2 dt (.own t)) t (.ins C dt []))) := same_offD sm ht
    have s3 := (s1.trans s2).trans sm
    refine ⟨t :: M, t, C, dt, vr, v, .ref l, rule, pres.map (·.1), kept, k, rfl, List.mem_cons_self, occ_cons (occ_kp hM s3) upd_same, upd_same, sc, hmro, hsup, dr.up ((same_off (s1.trans s2)).trans o2), (by rw [← dLines_rows]; exact dv.up ((same_off s2).trans o2)), initOk_of ok h2 h12, dk2.up o2, hkb, hk64, fun H' k' hM' S' => ⟨rfl, ?_⟩⟩
    rw [hks] at S'
    exact q t H' ((s1.trans s2).free ht) (same_kp1 s3 ((s1.trans s2).free ht) k') hM' S'
/-! ### twin -/
abbrev sTwin : Stmt := inClass cls0 10
def spTwin (P : Program) (w : World) (K : PySem.W.Frag) (mg : Str → Option Value) (base : Heap) : Sp := fun vs H Q _ => ∃ (M : List Addr) (s C : Addr) (pl : Bool) (rule : List (List Int)) (pres : Pres) (past : List Pres) (kept : List Int) (n k : Nat), vs = [.ref s] ∧ Occ M H ∧ Mk2 P w K mg base CX0 8 C "fresh_twin" (spFresh K C pl) ∧
  Sto K M H s C rule pres past kept ∧ StOk n k rule pres ∧ 2 ≤ k ∧ k ≤ 12 ∧ KeptOk pl kept ∧
  ∀ t H', H t = none → Same H H' → Occ (t :: M) H' → Sto K (t :: M) H' t C rule pres past kept → Q (.ref t) H'
theorem scTwin : FnScope ["self", "found"] ["self"] (defScope sTwin) := ⟨rfl, rfl, rfl, by decide +kernel, rfl, by decide +kernel, by decide +kernel⟩
theorem ok_twin {f : Addr} {fd : FuncData} (F : Fun K "twin" "Cache.twin" sTwin f fd) : FnOk P w K mg base CX0 9 f fd ["self"] (spTwin P w K mg base) := by
  refine F.ok scTwin (fun vs H Q E h => ?_) (fun cdv A outer s0 H vs Q E hr h => ?_)
  · obtain ⟨M, s, C, pl, rule, pres, past, kept, n, k, rfl, _⟩ := h
    rfl
  · obtain ⟨M, s, C, pl, rule, pres, past, kept, n, k, rfl, hM, MF, S, ok, h2, h12, hk, q⟩ := h
    have S' := S
    obtain ⟨sc, hm, dx, vr, vp, vq, vk, e, dr, dp, dq, dk⟩ := S'
    refine ⟨_, (pss_cons (ps_set (i := 1) scTwin.nd rfl (Or.inl rfl) (pe_mt0 (pv 0) sc.cls MF hr p0))
      (pss_cons (ps_fld (pv 1) (kpe_fld (K := K) (pv 0)) rfl)
      (pss_cons (ps_fld (pv 1) (kpe_fld (K := K) (pv 0)) rfl)
      (pss_one (ps_ret (pv 1)))))), ?_⟩
    refine ⟨_, rfl, s, dx, _, rfl, e, rfl, M, s, rule, pres, past, kept, n, k, rfl, hM, S, ok, h2, h12, hk, fun t H1 ht s1 hM1 T1 => ?_⟩
    obtain ⟨_, tm, dt, ur, up_, uq, uk, et, er, ep, eq, ek⟩ := T1
    have e1 := s1 _ _ e
    have o1 : Same (Off M H) (Off (t :: M) H1) := same_offD s1 ht
    have sub : ∀ c ∈ [t], c ∈ t :: M := fun c hc => by rw [List.mem_singleton.mp hc]; exact List.mem_cons_self
    have nst : s ≠ t := ne_of_none e ht
    refine ⟨_, rfl, s, C, dx, _, _, rfl, e1, sc.cls, sc.pres, rfl, _, rfl, t, C, dt, _, rfl, et, sc.cls, sc.pres, (show (4 : Nat) < 1000 by decide), ?_⟩
    have k2 : Kp [t] H1 (upd H1 t (.ins C dt (putF "present" vp (fsOf ur up_ uq uk)))) := kp_in List.mem_cons_self
    have et2 : upd H1 t (.ins C dt (putF "present" vp (fsOf ur up_ uq uk))) t = some (.ins C dt (fsOf ur vp uq uk)) := by rw [upd_same]; rfl
    have hM2 : Occ (t :: M) (upd H1 t (.ins C dt (putF "present" vp (fsOf ur up_ uq uk)))) := occ_upd hM1
    generalize upd H1 t (.ins C dt (putF "present" vp (fsOf ur up_ uq uk))) = H2 at k2 et2 hM2
    have o2 := kp_off (S := t :: M) k2 sub
    refine ⟨_, rfl, s, C, dx, _, _, rfl, k2 _ _ e1 (by simp [nst]), sc.cls, sc.past, rfl, _, rfl, t, C, dt, _, rfl, et2, sc.cls, sc.past, (show (4 : Nat) < 1000 by decide), ?_⟩
    have k3 : Kp [t] H2 (upd H2 t (.ins C dt (putF "past" vq (fsOf ur vp uq uk)))) := kp_in List.mem_cons_self
    have o3 := kp_off (S := t :: M) k3 sub
    exact ⟨_, rfl, q t _ ht (same_kp1 s1 ht (kp_trans k2 k3)) (occ_upd hM2) ⟨sc, tm, dt, ur, vp, vq, uk, upd_same, (er.up o2).up o3, (dp.up (o1.trans o2)).up o3, (dq.up (o1.trans o2)).up o3, (ek.up o2).up o3⟩⟩
end
end GN

/-! part D12 -/
set_option Elab.async false
set_option linter.all false
set_option maxRecDepth 100000
set_option maxHeartbeats 4000000
namespace GN
open PySem PySem.Spec L2
open PyProof.Rows hiding St

/-! ### several accesses one after another -/
def nxts (rule : List (List Int)) (pres : Pres) (bs : List Int) : Pres := bs.foldl (nxt rule) pres
theorem nxts_succ {rule : List (List Int)} {pres : Pres} {bs : List Int} {j : Nat} {b : Int} (h : bs[j]? = some b) : nxts rule pres (bs.take (j + 1)) = nxt rule (nxts rule pres (bs.take j)) b := by
  unfold nxts
  rw [List.take_add_one, h, List.foldl_append]
  rfl
def preAt (rule : List (List Int)) (pres : Pres) (bs : List Int) (j : Nat) : Pres := nxts rule pres (bs.take j)
def outAt (rule : List (List Int)) (pres : Pres) (bs : List Int) (j : Nat) : Bool := (stp rule (pt (preAt rule pres bs j) (bs.getD j 0)).1 (bs.getD j 0)).1
/-- the j-th access is refused -/
def badAt (rule : List (List Int)) (kept : List Int) (pres : Pres) (bs : List Int) (j : Nat) : Prop := ∃ b, bs[j]? = some b ∧ acc rule kept (preAt rule pres bs j) b = none
def outs (rule : List (List Int)) (pres : Pres) (bs : List Int) : List Bool := (List.range bs.length).map (outAt rule pres bs)
theorem preAt_ok {n k : Nat} {rule : List (List Int)} {pres : Pres} {bs : List Int} (ok : StOk n k rule pres) (hb : BlkAll bs) : ∀ j, StOk n k rule (preAt rule pres bs j)
  | 0 => ok
  | j + 1 => by
    have ih := preAt_ok ok hb j
    unfold preAt at ih ⊢
    cases e : bs[j]? with
    | none =>
      have : bs.take (j + 1) = bs.take j := by
        have hl : bs.length ≤ j := by simpa using e
        rw [List.take_of_length_le hl, List.take_of_length_le (by omega)]
      rw [this]
      exact ih
    | some b =>
      rw [nxts_succ e]
      exact ⟨ih.rule, nxt_ok ih.rule ih.pres ih.n0 ih.k1 (hb b (List.mem_of_getElem? e)), ih.n0, ih.n64, ih.k1, ih.k64⟩
theorem acc_some {rule : List (List Int)} {kept : List Int} {pres : Pres} {b : Int} {o : Bool} {p : Pres} (h : acc rule kept pres b = some (o, p)) : o = (stp rule (pt pres b).1 b).1 ∧ p = nxt rule pres b := by
  rcases acc_eq rule kept pres b _ h with ⟨_, _, e⟩ | ⟨_, e⟩
  · cases e
  · cases e; exact ⟨rfl, rfl⟩
section
variable {P : Program} {w : World} {K : PySem.W.Frag} {mg : Str → Option Value} {base : Heap}
abbrev sTried : Stmt := inClass cls0 11
/-- a store's state, the class's methods -/
structure StAll (n k : Nat) (pl : Bool) (rule : List (List Int)) (pres : Pres) (kept : List Int) : Prop where
  ok : StOk n k rule pres
  lo : 2 ≤ k
  hi : k ≤ 12
  kept : KeptOk pl kept
structure TrC (P : Program) (w : World) (K : PySem.W.Frag) (mg : Str → Option Value) (base : Heap) (C cw : Addr) (pl : Bool) : Prop where
  fresh : Mk2 P w K mg base CX0 8 C "fresh_twin" (spFresh K C pl)
  twin : Mk2 P w K mg base CX0 9 C "twin" (spTwin P w K mg base)
  access : Mk2 P w K mg base (L2.CX P w) 4 C "access" (spAccess K cw)
def spTried (P : Program) (w : World) (K : PySem.W.Frag) (mg : Str → Option Value) (base : Heap) (cw : Addr) : Sp := fun vs H Q E => ∃ (M : List Addr) (s C : Addr) (pl : Bool) (rule : List (List Int)) (pres : Pres) (past : List Pres) (kept : List Int) (n k : Nat) (bs : List Int), vs = .ref s :: bs.map V.int ∧ Occ M H ∧ TrC P w K mg base C cw pl ∧
  Sto K M H s C rule pres past kept ∧ StAll n k pl rule pres kept ∧ past.length < 900 ∧ bs.length < 64 ∧ BlkAll bs ∧
  (∀ j, badAt rule kept pres bs j → ∀ d H', Same H H' → E (.ref cw) d H') ∧ ((∀ j, ¬ badAt rule kept pres bs j) → ResD K M H (.list ((outs rule pres bs).map PyData.bool)) Q)
abbrev NTr : List Str := ["self", "blocks", "other", "block"]
theorem scTried : FnScope NTr (([("self" : Str)] : List Str) ++ ([("blocks" : Str)] : List Str)) (defScope sTried) := ⟨rfl, rfl, rfl, by decide +kernel, rfl, by decide +kernel, by decide +kernel⟩
theorem ok_tried {cw f : Addr} {fd : FuncData} (F : Fun K "tried" "Cache.tried" sTried f fd) : FnR P w K mg base (L2.CX P w) 10 f (spTried P w K mg base cw) := by
  obtain ⟨oc, od, kV, doc, pm, an, cdv, ct, osl, rfl, lk, hcd⟩ := F.ex
  have R := StX.fn_star (CX := L2.CX P w) (P := P) (w := w) (mg := mg) (base := base) (k := 9) (ps := ["self"]) (pv := "blocks") (N := NTr) (sp := fun vs H Q E => ∃ (M : List Addr) (s p C : Addr) (pl : Bool) (rule : List (List Int)) (pres : Pres) (past : List Pres) (kept : List Int) (n k : Nat) (bs : List Int), vs = [.ref s, .ref p] ∧ H p = some (.tup (bs.map V.int)) ∧ Occ M H ∧ TrC P w K mg base C cw pl ∧
    Sto K M H s C rule pres past kept ∧ StAll n k pl rule pres kept ∧ past.length < 900 ∧ bs.length < 64 ∧ BlkAll bs ∧ SqT K (Off M H) p (bs.map V.int) ∧
    (∀ j, badAt rule kept pres bs j → ∀ d H', Same H H' → E (.ref cw) d H') ∧ ((∀ j, ¬ badAt rule kept pres bs j) → ResD K M H (.list ((outs rule pres bs).map PyData.bool)) Q)) lk hcd scTried (StX.cxUp (P := P) (w := w)) (fun us rest hl => StX.bind_star1 (B := fun us => bindArgs (PySem.W.fnOf "tried" "Cache.tried" (defArgs sTried) (defBody sTried) (defScope sTried) .none kV doc pm an cdv ct) ⟨us, []⟩) (fun a => rfl) (fun a r rs => rfl) us rest hl) (fun A outer s0 H vs Q E hr h => ?_)
  · refine R.imp fun vs H Q E h => ?_
    obtain ⟨M, s, C, pl, rule, pres, past, kept, n, k, bs, rfl, hM, TC, S, sa, hpl, hbl, hb, hE, hQ⟩ := h
    refine ⟨[.ref s], bs.map V.int, rfl, rfl, by rw [List.length_map]; exact Nat.le_of_lt (small64 hbl), fun p hp => ?_⟩
    have s1 := same_new (o := .tup (bs.map V.int)) hp
    exact ⟨M, s, p, C, pl, rule, pres, past, kept, n, k, bs, rfl, upd_same, occ_upd hM, TC, S.same s1, sa, hpl, hbl, hb, .of (off_upd hM hp), fun j hj d H' s2 => hE j hj d H' (s1.trans s2), fun hn v H' s2 dv => hQ hn v H' (s1.trans s2) dv⟩
  · obtain ⟨M, s, p, C, pl, rule, pres, past, kept, n, k, bs, rfl, hp, hM, TC, S, sa, hpl, hbl, hb, hpt, hE, hQ⟩ := h
    have S' := S
    obtain ⟨sc, hm, dx, vr, vp, vq, vk, e, dr, dp, dq, dk⟩ := S'
    have MT := TC.twin
    have MA := TC.access
    refine ⟨_, (pss_cons (ps_set (i := 2) scTried.nd rfl (Or.inr rfl) (pe_mt0 (pv 0) sc.cls MT hr p0))
      (pss_one (ps_ret (pe_lcX (E := E) (own := [("block", 3)]) (g := gName 3) (tt := tYes) rfl scTried.nd rfl rfl (takes_of rfl rfl rfl rfl) (kpi_tup (K := K) (pv 1)) (blkOk_by (N := ["self", "blocks", "other", "block"]) (sc := defScope sTried) (by decide +kernel)) (fun _ _ _ _ _ => (pg_name (i := 3) scTried.nd rfl (Or.inl rfl))) (fun _ _ _ _ _ => pts_nil) (fun _ _ _ _ _ xe hps => (pe_mt (E := fun _ => E) (pv 2) sc.cls MA (hr.mono (by decide)) hps (pa_cons (pv 3) pa_nil))))))), ?_⟩
    refine ⟨_, rfl, s, dx, _, rfl, e, rfl, M, s, C, pl, rule, pres, past, kept, n, k, rfl, hM, TC.fresh, S, sa.ok, sa.lo, sa.hi, sa.kept, fun t H1 ht s1 hM1 T1 => ?_⟩
    refine ⟨_, rfl, p, rfl, ⟨_, .of (s1 _ _ hp)⟩, fun D hD => ?_⟩
    have T1' := T1
    obtain ⟨_, tm, dt, ur, up_, uq, uk, et, _⟩ := T1'
    have nDt : D ≠ t := fun z => by rw [z, et] at hD; cases hD
    have sD := same_new (o := .lst []) hD
    refine lc_dpT (K := K) (S := t :: M) (ds := (outs rule pres bs).map PyData.bool) (J := fun i H2 => Same H H2 ∧ Occ (D :: t :: M) H2 ∧ (∀ j, j < i → ¬ badAt rule kept pres bs j) ∧ ∃ pa, pa.length = past.length + i ∧ Sto K (D :: t :: M) H2 t C rule (preAt rule pres bs i) pa kept)
      (by rw [List.length_map, List.length_map, outs, List.length_map, List.length_range]) (by rw [List.length_map]; exact small64 hbl) (seqT_mono (same_offD sD hD) (seqT_mono (same_offD s1 ht) hpt)) upd_same ⟨s1.trans sD, occ_new' hM1, fun j hj => absurd hj (Nat.not_lt_zero _), past, rfl, T1.more sD hD⟩ (fun i x d H2 vs G hx hd hDD kk hJ hG => ?_) (fun H2 vs hDD hds kk hJ => ?_)
    · obtain ⟨s2, hM2, hnb, pa, hpa, T2⟩ := hJ
      obtain ⟨b, hbi, rfl⟩ := ints_get hx
      have hbb := hb b (List.mem_of_getElem? hbi)
      have hib : i < bs.length := (List.getElem?_eq_some_iff.mp hbi).1
      have T2' := T2
      obtain ⟨_, tm2, dt2, ur2, up2, uq2, uk2, et2, _⟩ := T2'
      refine ⟨rfl, _, rfl, t, dt2, _, rfl, et2, rfl, _, rfl, D :: t :: M, t, C, rule, preAt rule pres bs i, pa, kept, b, n, k, rfl, hM2, T2, preAt_ok sa.ok hb i, by omega, hbb.1, hbb.2, fun hn d' H' s' => hE i ⟨b, hbi, hn⟩ d' H' (s2.trans s'), fun o pr hs H' k' hM' T' => ?_⟩
      obtain ⟨ho, hpr⟩ := acc_some hs
      have hD' : H' D = some (.lst vs) := k' _ _ hDD (by simp [nDt])
      have sub : ∀ c ∈ [D], c ∈ D :: t :: M := fun c hc => by rw [List.mem_singleton.mp hc]; exact List.mem_cons_self
      have nHD : H D = none := s1.free hD
      have hdi : d = .bool o := by
        rw [List.getElem?_map, outs, List.getElem?_map, List.getElem?_range hib] at hd
        have h3 : outAt rule pres bs i = o := by unfold outAt; rw [getD_of hbi, ← ho]
        have h4 : d = .bool (outAt rule pres bs i) := (Option.some.inj hd).symm
        rw [h4, h3]
      subst hdi
      refine hG _ _ hD' (kp_mono k' fun c hc => by rw [List.mem_singleton.mp hc]; simp) (.bl o) ⟨same_upd (same_kp1 s2 ht k') nHD, occ_upd hM', fun j hj => ?_, pa ++ [preAt rule pres bs i], by rw [List.length_append, hpa]; rfl, ?_⟩
      · rcases Nat.lt_succ_iff_lt_or_eq.mp hj with h | h
        · exact hnb j h
        · subst h
          rintro ⟨b2, hb2, hnone⟩
          rw [hbi] at hb2
          rw [← Option.some.inj hb2, hs] at hnone
          cases hnone
      · have : preAt rule pres bs (i + 1) = pr := by
          show nxts rule pres (bs.take (i + 1)) = pr
          rw [nxts_succ hbi, hpr]
          rfl
        rw [this]
        exact T'.kp (S := [D]) (kp_in List.mem_cons_self) sub (by simp [Ne.symm nDt])
    · obtain ⟨s2, hM2, hnb, pa, hpa, T2⟩ := hJ
      rw [List.length_map] at hnb
      refine hQ (fun j hj => ?_) _ _ s2 (.lst (.of (by rw [off_get (occ_new hM (s1.free hD))]; exact hDD)) (hds.up (off_off fun c hc => List.mem_cons_of_mem _ (List.mem_cons_of_mem _ hc))))
      have hj' := hj
      obtain ⟨b, hbj, _⟩ := hj'
      exact hnb j (List.getElem?_eq_some_iff.mp hbj).1 hj
end
end GN

/-! part D13 -/
set_option Elab.async false
set_option linter.all false
set_option maxRecDepth 100000
set_option maxHeartbeats 4000000
namespace GN
open PySem PySem.Spec L2
open PyProof.Rows hiding St

/-! ### the law's bag of drawn numbers -/
def BagAt (H : Hp) (ba : Addr) : Prop := ∃ x c : Int, H ba = some (.lst [.int x, .int c])
section
variable {H H' : Hp} {ba : Addr} {M S : List Addr}
theorem BagAt.kp (h : BagAt H ba) (k : Kp S H H') (n : ba ∉ S) : BagAt H' ba := by
  obtain ⟨x, c, e⟩ := h
  exact ⟨x, c, k _ _ e n⟩
theorem BagAt.same (h : BagAt H ba) (k : Same H H') : BagAt H' ba := h.kp (S := []) (kp_same k) (by simp)
theorem occ_bag (h : Occ M H) (k : Kp [ba] H H') (b : BagAt H' ba) : Occ M H' := occ_mono h k fun c hc e => by
  obtain ⟨x, y, z⟩ := b
  rw [List.mem_singleton.mp hc, z] at e
  cases e
end
section
variable {P : Program} {w : World} {K : PySem.W.Frag} {mg : Str → Option Value} {base : Heap}
abbrev sBag : Stmt := top 31
def spBag : Sp := fun vs H Q _ => ∃ c k : Int, vs = [.int c, .int k] ∧ ∀ p H', H p = none → Same H H' → BagAt H' p → Q (.ref p) H'
theorem scBag : FnScope ["_law_cell", "_law_k"] ["_law_cell", "_law_k"] (defScope sBag) := ⟨rfl, rfl, rfl, by decide +kernel, rfl, by decide +kernel, by decide +kernel⟩
theorem ok_bag {f : Addr} {fd : FuncData} (F : Fun K "_law_bag" "_law_bag" sBag f fd) : FnOk P w K mg base CX0 1 f fd ["_law_cell", "_law_k"] spBag := by
  refine F.ok scBag (fun vs H Q E h => ?_) (fun cdv A outer s0 H vs Q E hr h => ?_)
  · obtain ⟨c, k, rfl, _⟩ := h
    rfl
  · obtain ⟨c, k, rfl, q⟩ := h
    refine ⟨_, (pss_cons (ps_if (pt_cmpR op_lt (pv 0) pe_int (nomark _)) (pss_one (ps_ret (pe_lst (pa_cons (pe_un un_neg (pv 0)) (pa_cons (pe_op op_add (pe_op op_mul pe_int (pv 1)) pe_int) pa_nil))))) pss_nil)
      (pss_one (ps_ret (pe_lst (pa_cons (pv 0) (pa_cons (pe_op op_mul pe_int (pv 1)) pa_nil)))))), ?_⟩
    refine ⟨_, rfl, _, _, rfl, rfl, _, rfl, ite2 (fun _ => ?_) (fun _ => ?_)⟩
    · refine ⟨_, rfl, _, rfl, _, rfl, _, _, rfl, rfl, .inl ⟨by decide, by decide⟩, _, _, rfl, rfl, by show 2 ≤ sizeLine; decide, fun p hp => q p _ hp (same_new hp) ⟨_, _, upd_same⟩⟩
    · refine ⟨_, rfl, _, rfl, _, _, rfl, rfl, .inl ⟨by decide, by decide⟩, by show 2 ≤ sizeLine; decide, fun p hp => q p _ hp (same_new hp) ⟨_, _, upd_same⟩⟩
abbrev sDraw : Stmt := top 32
def spDraw : Sp := fun vs H Q _ => ∃ (ba : Addr) (m : Int), vs = [.ref ba, .int m] ∧ BagAt H ba ∧ 0 < m ∧ m < 1073741824 ∧ ∀ z H', 0 ≤ z → z < m → Kp [ba] H H' → BagAt H' ba → Q (.int z) H'
abbrev NDraw : List Str := ["_law_bag_here", "_law_many", "_law_digit", "_law_one"]
theorem scDraw : FnScope NDraw ["_law_bag_here", "_law_many"] (defScope sDraw) := ⟨rfl, rfl, rfl, by decide +kernel, rfl, by decide +kernel, by decide +kernel⟩
theorem ok_draw {f : Addr} {fd : FuncData} (B : Bi mg) (F : Fun K "_law_draw" "_law_draw" sDraw f fd) : FnOk P w K mg base CX0 1 f fd ["_law_bag_here", "_law_many"] spDraw := by
  refine F.ok scDraw (fun vs H Q E h => ?_) (fun cdv A outer s0 H vs Q E hr h => ?_)
  · obtain ⟨ba, m, rfl, _⟩ := h
    rfl
  · obtain ⟨ba, m, rfl, ⟨x, c, hb⟩, hm, hm2, q⟩ := h
    refine ⟨_, (pss_cons ((ps_augS (pv 0) pe_int pg_list pe_int ip_add L2.set_list))
      (pss_cons (ps_if (pt_cmpR op_ge (pe_ix (kix_list (K := K)) (pv 0) pe_int (fun _ _ => rfl)) (pe_op op_pow pe_int pe_int) (nomark _)) (pss_cons (ps_set (i := 2) scDraw.nd rfl (Or.inl rfl) (pe_op op_mod (kz_int B (pe_ix (kix_list (K := K)) (pv 0) pe_int (fun _ _ => rfl))) (pv 1)))
      (pss_cons (ps_asg (pe_op op_fdiv (pe_ix (kix_list (K := K)) (pv 0) pe_int (fun _ _ => rfl)) (pv 1)) (pg_sub (pv 0) pe_int L2.set_list))
      (pss_one (ps_ret (pv 2))))) pss_nil)
      (pss_cons (ps_set (i := 3) scDraw.nd rfl (Or.inl rfl) (pe_op op_mod (kz_int B (pe_op op_add (pe_op op_add (pe_op op_mod (kz_int B (pe_ix (kix_list (K := K)) (pv 0) pe_int (fun _ _ => rfl))) pe_int) (pe_op op_mul pe_int (pe_ix (kix_list (K := K)) (pv 0) pe_int (fun _ _ => rfl)))) pe_int)) pe_int))
      (pss_cons (ps_set (i := 3) scDraw.nd rfl (Or.inl rfl) (pe_op op_mod (kz_int B (pe_op op_mul (pv 3) (pv 3))) pe_int))
      (pss_cons (ps_set (i := 3) scDraw.nd rfl (Or.inl rfl) (pe_op op_mod (kz_int B (pe_op op_add (pv 3) (pe_op op_mul pe_int (pe_ix (kix_list (K := K)) (pv 0) pe_int (fun _ _ => rfl))))) pe_int))
      (pss_cons (ps_set (i := 3) scDraw.nd rfl (Or.inl rfl) (pe_op op_mod (kz_int B (pe_op op_mul (pv 3) (pv 3))) pe_int))
      (pss_one (ps_ret (pe_op op_mod (kz_int B (pe_op op_fdiv (pv 3) pe_int)) (pv 1)))))))))), ?_⟩
    refine ⟨_, rfl, ba, _, _, _, rfl, rfl, .of hb, (show atI [V.int x, V.int c] 1 = some (V.int c) from rfl), _, _, rfl, rfl, ba, _, _, 1, rfl, rfl, hb, rfl, ?_⟩
    have k1 : Kp [ba] H (upd H ba (.lst ([V.int x, V.int c].set 1 (.int (c + 1))))) := kp_in List.mem_cons_self
    have b1 : upd H ba (.lst ([V.int x, V.int c].set 1 (.int (c + 1)))) ba = some (.lst [.int x, .int (c + 1)]) := upd_same
    generalize upd H ba (.lst ([V.int x, V.int c].set 1 (.int (c + 1)))) = H1 at k1 b1
    have a0 : atI [V.int x, V.int (c + 1)] 0 = some (V.int x) := rfl
    have a1 : atI [V.int x, V.int (c + 1)] 1 = some (V.int (c + 1)) := rfl
    refine ⟨_, rfl, ba, _, _, _, rfl, rfl, .of b1, a0, _, _, rfl, rfl, ⟨by decide, by decide, by decide⟩, _, _, rfl, rfl, _, rfl, ite2 (fun _ => ?_) (fun _ => ?_)⟩
    · refine ⟨_, rfl, ba, _, _, _, rfl, rfl, .of b1, a0, .inl ⟨_, rfl, _, rfl, _, _, rfl, rfl, hm, ?_⟩⟩
      refine ⟨_, rfl, ba, _, _, _, rfl, rfl, .of b1, a0, _, rfl, _, _, rfl, rfl, ⟨hm, hm2⟩, _, rfl, ba, _, _, 0, rfl, rfl, b1, rfl, ?_⟩
      refine ⟨_, rfl, q _ _ (Int.emod_nonneg _ (by omega)) (Int.emod_lt_of_pos _ hm) (kp_trans k1 (kp_in List.mem_cons_self)) ⟨_, _, upd_same⟩⟩
    · refine ⟨_, rfl, ba, _, _, _, rfl, rfl, .of b1, a0, .inl ⟨_, rfl, _, _, rfl, rfl, (by show (0 : Int) < 2147483629; decide), _, rfl, ba, _, _, _, rfl, rfl, .of b1, a1, _, _, rfl, rfl, .inl ⟨by decide, by decide⟩, _, _, rfl, rfl, _, _, rfl, rfl, .inl ⟨_, rfl, _, _, rfl, rfl, (by show (0 : Int) < 2147483587; decide), ?_⟩⟩⟩
      dsimp only
      generalize hy : (x % 2147483629 + 104729 * (c + 1) + 1) % 2147483587 = y
      have y0 : 0 ≤ y := by rw [← hy]; exact Int.emod_nonneg _ (by decide)
      have y1 : y < 2147483587 := by rw [← hy]; exact Int.emod_lt_of_pos _ (by decide)
      refine ⟨_, rfl, _, rfl, _, _, rfl, rfl, .inl ⟨by omega, by omega⟩, .inl ⟨_, rfl, _, _, rfl, rfl, (by show (0 : Int) < 2147483587; decide), ?_⟩⟩
      dsimp only
      generalize y * y % 2147483587 = y2
      refine ⟨_, rfl, _, rfl, ba, _, _, _, rfl, rfl, .of b1, a1, _, _, rfl, rfl, .inl ⟨by decide, by decide⟩, _, _, rfl, rfl, .inl ⟨_, rfl, _, _, rfl, rfl, (by show (0 : Int) < 2147483563; decide), ?_⟩⟩
      dsimp only
      generalize hz : (y2 + 40692 * (c + 1)) % 2147483563 = z
      have z0 : 0 ≤ z := by rw [← hz]; exact Int.emod_nonneg _ (by decide)
      have z1 : z < 2147483563 := by rw [← hz]; exact Int.emod_lt_of_pos _ (by decide)
      refine ⟨_, rfl, _, rfl, _, _, rfl, rfl, .inl ⟨by omega, by omega⟩, .inl ⟨_, rfl, _, _, rfl, rfl, (by show (0 : Int) < 2147483563; decide), ?_⟩⟩
      exact ⟨_, rfl, _, _, rfl, rfl, ⟨by decide, by decide⟩, .inl ⟨_, rfl, _, rfl, _, _, rfl, rfl, hm, q _ _ (Int.emod_nonneg _ (by omega)) (Int.emod_lt_of_pos _ hm) k1 ⟨_, _, b1⟩⟩⟩
end
end GN

/-! part D14 -/
set_option Elab.async false
set_option linter.all false
set_option maxRecDepth 100000
set_option maxHeartbeats 4000000
namespace GN
open PySem PySem.Spec L2
open PyProof.Rows hiding St

theorem isP_of {f : List Int} {k : Nat} (h : f.Perm (iota k)) : IsP f k := by
  refine ⟨by rw [h.length_eq, iota_len], h.nodup_iff.mpr ?_, fun x hx => mem_iota.mp (h.mem_iff.mp hx)⟩
  unfold iota
  refine List.pairwise_map.mpr (List.pairwise_lt_range.imp fun {a b} hab e => ?_)
  omega
theorem pick_perm : ∀ {l : List Int} {j : Nat} {y : Int}, l[j]? = some y → (y :: l.eraseIdx j).Perm l
  | [], j, y, h => by simp at h
  | a :: r, 0, y, h => by
    simp at h
    subst h
    exact List.Perm.refl _
  | a :: r, j + 1, y, h => by
    have ih := pick_perm (l := r) (j := j) (y := y) (by simpa using h)
    rw [List.eraseIdx_cons_succ]
    exact (List.Perm.swap a y _).trans (ih.cons a)
theorem perm_pick {f l : List Int} {j : Nat} {y : Int} (h : l[j]? = some y) : ((f ++ [y]) ++ l.eraseIdx j).Perm (f ++ l) := by
  rw [List.append_assoc]
  exact (pick_perm h).append_left f
theorem map_erase {α β : Type} (g : α → β) : ∀ (l : List α) (j : Nat), (l.map g).eraseIdx j = (l.eraseIdx j).map g
  | [], _ => rfl
  | _ :: _, 0 => rfl
  | a :: r, j + 1 => by
    rw [List.map_cons, List.eraseIdx_cons_succ, List.eraseIdx_cons_succ, List.map_cons, map_erase g r j]
section
variable {P : Program} {w : World} {K : PySem.W.Frag} {mg : Str → Option Value} {base : Heap}
abbrev sShuffle : Stmt := top 33
def spShuffle (K : PySem.W.Frag) : Sp := fun vs H Q _ => ∃ (M : List Addr) (ba : Addr) (k : Nat), vs = [.ref ba, .int k] ∧ Occ M H ∧ BagAt H ba ∧ k < 64 ∧ ∀ p v H', IsP p k → Kp [ba] H H' → BagAt H' ba → Dp K (Off M H') v (dI p) → Q v H'
abbrev NShuffle : List Str := ["_law_bag_here", "_law_many", "_law_left", "_law_found"]
theorem scShuffle : FnScope NShuffle ["_law_bag_here", "_law_many"] (defScope sShuffle) := ⟨rfl, rfl, rfl, by decide +kernel, rfl, by decide +kernel, by decide +kernel⟩
theorem ok_shuffle {f : Addr} {fd : FuncData} (B : Bi mg) (F__law_draw : Fk P w K mg base CX0 1 "_law_draw" spDraw) (F : Fun K "_law_shuffle" "_law_shuffle" sShuffle f fd) : FnOk P w K mg base CX0 2 f fd ["_law_bag_here", "_law_many"] (spShuffle K) := by
  refine F.ok scShuffle (fun vs H Q E h => ?_) (fun cdv A outer s0 H vs Q E hr h => ?_)
  · obtain ⟨M, ba, k, rfl, _⟩ := h
    rfl
  · obtain ⟨M, ba, k, rfl, hM, hb, hk, q⟩ := h
    refine ⟨_, (pss_cons (ps_set (i := 2) scShuffle.nd rfl (Or.inl rfl) (pe_listRg rfl rfl B.list (prg_1 rfl B.range (pv 1))))
      (pss_cons (ps_set (i := 3) scShuffle.nd rfl (Or.inl rfl) (pe_lst pa_nil))
      (pss_cons (ps_while PassesOwn.never (pt_cmpR (op_neD (by exact hr.units)) (pv 2) (pe_lst pa_nil) (nomark _)) (pss_one (ps_expr (pe_bm PySem.F.plainAttrs_list PySem.F.slot_list_append PySem.F.type_list_append mt_append (pv 3) (pa_cons (pe_bm PySem.F.plainAttrs_list PySem.F.slot_list_pop PySem.F.type_list_pop mt_popAt (pv 2) (pa_cons (pe_fn (F__law_draw.mono (by decide)) hr rfl p0 (pa_cons (pv 0) (pa_cons (kz_len (K := K) B (pv 2)) pa_nil))) pa_nil)) pa_nil)))))
      (pss_one (ps_ret (pv 3)))))), ?_⟩
    refine ⟨_, rfl, k, rfl, ⟨by decide, by decide, by omega, by omega, by omega⟩, fun L hL => ?_⟩
    rw [rgV_iota]
    refine ⟨by show 0 ≤ sizeLine; decide, fun D hD => ?_⟩
    have hL1 : upd (upd H L (.lst ((iota k).map V.int))) D (.lst []) L = some (.lst ((iota k).map V.int)) := by rw [upd_ne (ne_of_none upd_same hD), upd_same]
    have hDL : D ≠ L := fun z => by rw [z, upd_same] at hD; cases hD
    have s2 := (same_new (o := .lst ((iota k).map V.int)) hL).trans (same_new (o := .lst []) hD)
    have hD0 : H D = none := (same_new hL).free hD
    have nbL : ba ≠ L := by obtain ⟨x, c, e⟩ := hb; exact ne_of_none e hL
    have nbD : ba ≠ D := by obtain ⟨x, c, e⟩ := hb; exact ne_of_none e hD0
    refine while_by (fun σ H' => ∃ l g : List Int, σ = [some (.ref ba), some (.int k), some (.ref L), some (.ref D)] ∧ H' L = some (.lst (l.map V.int)) ∧ H' D = some (.lst (g.map V.int)) ∧ (g ++ l).Perm (iota k) ∧ Kp [ba] H H' ∧ BagAt H' ba)
      (fun _ H' => match H' L with | some (.lst xs) => xs.length | _ => 0) ⟨iota k, [], rfl, hL1, upd_same, List.Perm.refl _, kp_same s2, hb.same s2⟩ (fun σ H' hP => ?_) (fun σ H' Q1 Q2 hq hc => ?_)
    · obtain ⟨l, g, rfl, hl, hg, hp, kk, bb⟩ := hP
      have hlen : g.length + l.length = k := by
        have := hp.length_eq
        rw [List.length_append, iota_len] at this
        exact this
      refine ⟨_, rfl, by show 0 ≤ sizeLine; decide, fun e he => ⟨dI l, .list [], dI_mk (.of (same_new he _ _ hl)), .lst (.of upd_same) .nil, sh_ok (sh_dI 0 _), by decide, !l.isEmpty, ?_, ?_⟩⟩
      · cases l <;> simp [dI, PyData.eqv, PyData.eqvAll]
      · cases l with
        | nil =>
          rw [List.append_nil] at hp
          refine iteF ⟨_, rfl, q g _ _ (isP_of hp) (kp_trans kk (kp_same (same_new he))) (bb.same (same_new he)) (dI_mk (.of ?_))⟩
          rw [off_get (occ_new hM hD0)]
          exact same_new he _ _ hg
        | cons a r =>
          refine iteT ?_
          have s3 := same_new (o := .lst []) he
          have hl3 := s3 _ _ hl
          have hg3 := s3 _ _ hg
          have b3 := bb.same s3
          have k3 := kp_trans kk (kp_same s3)
          have hmu : (match H' L with | some (.lst xs) => xs.length | _ => 0) = (a :: r).length := by rw [hl]; simp
          generalize upd H' e (.lst []) = H3 at hl3 hg3 b3 k3
          refine ⟨_, rfl, .inl ⟨rfl, _, .of hg3⟩, _, rfl, .inl ⟨rfl, _, .of hl3⟩, _, rfl, _, rfl, L, _, rfl, .inl (.of hl3), ba, _, rfl, b3, ?_, ?_, fun z H4 z0 z1 k4 b4 => ?_⟩
          · rw [List.length_map]; simp
          · rw [List.length_map]; simp at hlen ⊢; omega
          rw [List.length_map] at z1
          have hl4 := k4 _ _ hl3 (by simp [Ne.symm nbL])
          have hg4 := k4 _ _ hg3 (by simp [Ne.symm nbD])
          have hzl : z.toNat < (a :: r).length := by omega
          have ey : (a :: r)[z.toNat]? = some ((a :: r)[z.toNat]) := List.getElem?_eq_getElem hzl
          have hzz : (2 : Int) ^ 63 = 9223372036854775808 := by decide
          simp only [List.length_cons] at hlen z1 hzl
          refine ⟨L, _, z, z.toNat, .int ((a :: r)[z.toNat]), rfl, rfl, hl4, by omega, by omega, ?_, by rw [List.getElem?_map, ey]; rfl, ?_⟩
          · exact (ixN_seq (ixN_int z0 (by rw [List.length_map, List.length_cons]; omega))).1
          refine ⟨D, _, _, rfl, rfl, by rw [upd_ne hDL]; exact hg4, ?_, ?_⟩
          · rw [List.length_map]; exact small64 (by omega)
          refine ⟨⟨(a :: r).eraseIdx z.toNat, g ++ [(a :: r)[z.toNat]], rfl, ?_, ?_, (perm_pick ey).trans hp, ?_, ?_⟩, ?_⟩
          · rw [upd_ne (Ne.symm hDL), upd_same, map_erase]
          · rw [upd_same, List.map_append]; rfl
          · intro c o ec nc
            rw [upd_ne (ne_of_none ec hD0), upd_ne (ne_of_none ec hL)]
            exact k4 _ _ (k3 _ _ ec nc) nc
          · obtain ⟨x, c, eb⟩ := b4
            exact ⟨x, c, by rw [upd_ne nbD, upd_ne nbL]; exact eb⟩
          · have e5 : (upd (upd H4 L (.lst (((a :: r).map V.int).eraseIdx z.toNat))) D (.lst (g.map V.int ++ [V.int ((a :: r)[z.toNat])]))) L = some (.lst (((a :: r).map V.int).eraseIdx z.toNat)) := by rw [upd_ne (Ne.symm hDL), upd_same]
            show (match (upd (upd H4 L (.lst (((a :: r).map V.int).eraseIdx z.toNat))) D (.lst (g.map V.int ++ [V.int ((a :: r)[z.toNat])]))) L with | some (.lst xs) => xs.length | _ => 0) < (match H' L with | some (.lst xs) => xs.length | _ => 0)
            rw [hmu, e5]
            show (((a :: r).map V.int).eraseIdx z.toNat).length < (a :: r).length
            rw [List.length_eraseIdx, if_pos (by rw [List.length_map, List.length_cons]; exact hzl), List.length_map, List.length_cons]
            omega
    · obtain ⟨v, e, z, g⟩ := hc
      exact ⟨v, e, z, fun p hp => by
        obtain ⟨d1, d2, h1, h2, h3, h4, kk, hk2, hq2⟩ := g p hp
        exact ⟨d1, d2, h1, h2, h3, h4, kk, hk2, hq _ _ hq2⟩⟩
end
end GN

/-! part D15 -/
set_option Elab.async false
set_option linter.all false
set_option maxRecDepth 100000
set_option maxHeartbeats 4000000
namespace GN
open PySem PySem.Spec L2
open PyProof.Rows hiding St

/-! ### the rows of a lifted rule -/
def lr (a : Int) (i j : Nat) : Int := if (j : Int) = i then a else if (i : Int) < j ∧ (j : Int) ≤ a then (j : Int) - 1 else j
theorem lr_lt {a : Int} {i j : Nat} (h1 : ¬ (j : Int) = i) (h2 : (i : Int) < j) : (j : Int) - (if decide ((j : Int) ≤ a) = true then 1 else 0) = lr a i j := by
  unfold lr
  by_cases hle : (j : Int) ≤ a
  · simp [h1, h2, hle]
  · simp [h1, h2, hle]
theorem lr_ge {a : Int} {i j : Nat} (h1 : ¬ (j : Int) = i) (h2 : ¬ (i : Int) < j) : (j : Int) - (if false = true then 1 else 0) = lr a i j := by
  unfold lr
  simp [h1, h2]
def lrow (a : Int) (i k : Nat) : List Int := (List.range k).map (lr a i)
def lift (as : List Int) : List (List Int) := (List.range as.length).map fun i => lrow (as.getD i 0) i as.length
theorem lrow_ok {a : Int} {i k : Nat} (h1 : (i : Int) ≤ a) (h2 : a < k) : IsP (lrow a i k) k := by
  refine ⟨by unfold lrow; rw [List.length_map, List.length_range], ?_, fun x hx => ?_⟩
  · unfold lrow
    refine List.pairwise_map.mpr (List.pairwise_lt_range.imp fun {p q} hpq e => ?_)
    unfold lr at e
    repeat' split at e
    all_goals omega
  · unfold lrow at hx
    obtain ⟨j, hj, rfl⟩ := List.mem_map.mp hx
    have := List.mem_range.mp hj
    unfold lr
    repeat' split
    all_goals omega
theorem lift_ok {as : List Int} {k : Nat} (hk : as.length = k) (h : ∀ (i : Nat) a, as[i]? = some a → (i : Int) ≤ a ∧ a < k) : RuleOk k (lift as) := by
  refine ⟨by unfold lift; rw [List.length_map, List.length_range, hk], fun p hp => ?_⟩
  unfold lift at hp
  obtain ⟨i, hi, rfl⟩ := List.mem_map.mp hp
  have hi := List.mem_range.mp hi
  have e := getD_int hi
  obtain ⟨q1, q2⟩ := h i _ e
  rw [hk]
  exact lrow_ok q1 q2
section
variable {P : Program} {w : World} {K : PySem.W.Frag} {mg : Str → Option Value} {base : Heap}
/-! ### _law_moved, _law_step -/
abbrev sLMoved : Stmt := top 36
def spLMoved (K : PySem.W.Frag) : Sp := fun vs H Q _ => ∃ (M : List Addr) (v u : V) (p r : List Int), vs = [v, u] ∧ Occ M H ∧ Dp K H v (dI p) ∧ Dp K H u (dI r) ∧ IsP p r.length ∧ r.length < 64 ∧ ResD K M H (dI (mv p r)) Q
abbrev NLM : List Str := ["_law_ways", "_law_line", "_law_found", "_law_j"]
theorem scLMoved : FnScope NLM ["_law_ways", "_law_line"] (defScope sLMoved) := ⟨rfl, rfl, rfl, by decide +kernel, rfl, by decide +kernel, by decide +kernel⟩
theorem ok_lmoved {f : Addr} {fd : FuncData} (B : Bi mg) (F : Fun K "_law_moved" "_law_moved" sLMoved f fd) : FnOk P w K mg base CX0 1 f fd ["_law_ways", "_law_line"] (spLMoved K) := by
  refine F.ok scLMoved (fun vs H Q E h => ?_) (fun cdv A outer s H vs Q E hr h => ?_)
  · obtain ⟨M, v, u, p, r, rfl, _⟩ := h
    rfl
  · obtain ⟨M, v, u, p, r, rfl, hM, hv, hu, hp, h64, q⟩ := h
    obtain ⟨a, rfl, ha⟩ := dI_open hv
    obtain ⟨b, rfl, hb⟩ := dI_open hu
    refine ⟨_, (pss_cons (ps_set (i := 2) scLMoved.nd rfl (Or.inl rfl) (kz_list (K := K) B (pv 1)))
      (pss_cons (ps_for PassesOwn.never rfl (pi_range1 rfl B.range (pa_cons (kz_len (K := K) B (pv 1)) pa_nil)) (pg_name (i := 3) scLMoved.nd rfl (Or.inl rfl)) (pss_one (ps_asg (pe_ix (kix_list (K := K)) (pv 1) (pv 3) (fun _ _ => rfl)) (pg_sub (pv 2) (pe_ix (kix_list (K := K)) (pv 0) (pv 3) (fun _ _ => rfl)) L2.set_list))))
      (pss_one (ps_ret (pv 2))))), ?_⟩
    refine ⟨_, rfl, b, _, rfl, .inl hb, fun l hl => ?_⟩
    have hs0 := same_new (o := .lst (r.map V.int)) hl
    refine ⟨_, rfl, b, _, rfl, .inl (hs0.seq hb), _, rfl, by omega, by rw [List.length_map]; omega, ?_⟩
    rw [List.length_map, Int.toNat_natCast]
    refine for_range (lo := 0) (n := r.length) (fun i σ H' => (∃ x, σ = [some (.ref a), some (.ref b), some (.ref l), x]) ∧ H' l = some (.lst ((mvTo p r i).map V.int)) ∧ Same H H') ⟨⟨_, rfl⟩, upd_same, hs0⟩ (fun i σ H' hi hP => ?_) (fun σ H' hP => ?_)
    · obtain ⟨⟨x1, rfl⟩, hl', hs⟩ := hP
      have hip : i < p.length := by rw [hp.len]; exact hi
      have ep := getD_int hip
      have er := getD_int hi
      have hrg := hp.rg _ (List.mem_of_getElem? ep)
      rw [Int.zero_add]
      refine ⟨_, rfl, _, rfl, b, _, _, _, rfl, rfl, hs.seq hb, ints_at er, _, rfl, _, rfl, _, rfl, a, _, _, _, rfl, rfl, hs.seq ha, ints_at ep, ?_⟩
      refine ⟨l, _, _, _, rfl, rfl, hl', ixN_int hrg.1 (by rw [List.length_map, mvTo_len]; exact hrg.2), ⟨_, rfl⟩, ?_, ?_⟩
      · rw [upd_same, map_set_int, mvTo_succ]
      · intro c o e
        rw [upd_ne (ne_of_none e hl)]
        exact hs c o e
    · obtain ⟨⟨x1, rfl⟩, hl', hs⟩ := hP
      refine ⟨_, rfl, q _ _ hs (dI_mk (.of ?_))⟩
      rw [off_get (occ_new hM hl)]
      exact hl'
abbrev sLStep : Stmt := top 37
def spLStep (K : PySem.W.Frag) : Sp := fun vs H Q _ => ∃ (M : List Addr) (v u : V) (rule : List (List Int)) (r : List Int) (b : Int), vs = [v, u, .int b] ∧ Occ M H ∧ Dp K H v (dRule rule) ∧ Dp K H u (dI r) ∧ RuleOk r.length rule ∧ 1 ≤ r.length ∧ r.length < 64 ∧ ResD K M H (dStp rule r b) Q
abbrev NLS : List Str := ["_law_plan", "_law_line", "_law_item"]
theorem scLStep : FnScope NLS NLS (defScope sLStep) := ⟨rfl, rfl, rfl, by decide +kernel, rfl, by decide +kernel, by decide +kernel⟩
theorem ok_lstep {f : Addr} {fd : FuncData} (F__law_moved : Fk P w K mg base CX0 1 "_law_moved" (spLMoved K)) (F : Fun K "_law_step" "_law_step" sLStep f fd) : FnOk P w K mg base CX0 2 f fd NLS (spLStep K) := by
  refine F.ok scLStep (fun vs H Q E h => ?_) (fun cdv A outer s H vs Q E hr h => ?_)
  · obtain ⟨M, v, u, rule, r, b, rfl, _⟩ := h
    rfl
  · obtain ⟨M, v, u, rule, r, b, rfl, hM, hv, hu, hR, h1, h64, q⟩ := h
    obtain ⟨a, rfl, ha⟩ := dI_open hu
    obtain ⟨c, xs, rfl, hc, hd⟩ := dp_list hv
    refine ⟨_, (pss_cons (ps_if (pt_cmpR (kop_in (K := K)) (pv 2) (pv 1) rfl) (pss_one (ps_ret (pe_tup (pa_cons pe_bl (pa_cons (pe_fn (F__law_moved.mono (by decide)) hr rfl p0 (pa_cons (pe_ix (kix_list (K := K)) (pv 0) (pe_bm PySem.F.plainAttrs_list PySem.F.slot_list_index PySem.F.type_list_index mt_index (pv 1) (pa_cons (pv 2) pa_nil)) (fun _ _ => rfl)) (pa_cons (pv 1) pa_nil))) pa_nil))))) pss_nil)
      (pss_one (ps_ret (pe_tup (pa_cons pe_bl (pa_cons (pe_op op_cat (pe_slice sl_list (pv 1) (po_some pe_int) po_none) (pe_lst (pa_cons (pv 2) pa_nil))) pa_nil)))))), ?_⟩
    refine ⟨_, rfl, _, rfl, a, _, rfl, .inl ha, rfl, flat_ints r, _, rfl, ?_⟩
    rw [if_neg Bool.false_ne_true, inV_ints]
    by_cases hm : b ∈ r
    · rw [decide_eq_true hm]
      refine iteT ?_
      have hj : r.idxOf b < r.length := List.idxOf_lt_length_of_mem hm
      have hj' : r.idxOf b < rule.length := by rw [hR.len]; exact hj
      have e : rule[r.idxOf b]? = some (rule.getD (r.idxOf b) []) := by rw [List.getD_eq_getElem?_getD, List.getElem?_eq_getElem hj']; rfl
      obtain ⟨x, hx, dx⟩ := dps_get (d := dI (rule.getD (r.idxOf b) [])) (i := r.idxOf b) hd (by rw [List.getElem?_map, e]; rfl)
      refine ⟨_, rfl, _, rfl, .inl ⟨rfl, _, ha⟩, _, rfl, a, _, _, _, _, rfl, rfl, ha, rfl, flat_ints r, (idx_first hm).1, eqV_int b, (idx_first hm).2, ?_⟩
      refine ⟨c, _, _, _, rfl, rfl, hc, atI_nat hx, _, rfl, M, x, _, _, r, rfl, hM, dx, hu, hR.all _ (List.mem_of_getElem? e), h64, fun y H' hs dy => ?_⟩
      refine ⟨by show 2 ≤ sizeLine; decide, fun p hp => ?_⟩
      refine q _ _ (hs.trans (same_new hp)) ?_
      have := dp_pair (occ_kp hM hs) hp (.bl true) dy
      unfold dStp stp
      rw [if_pos hm]
      exact this
    · rw [decide_eq_false hm]
      refine iteF ?_
      refine ⟨_, rfl, _, rfl, a, _, rfl, ha, fun p1 hp1 => ?_⟩
      have hcut : cutV (r.map V.int) (some 1) none = (r.drop 1).map V.int := by
        rw [show (1 : Int) = ((1 : Nat) : Int) from rfl, cut_from _ (by rw [List.length_map]; exact h1), List.map_drop]
      rw [hcut]
      refine ⟨_, rfl, by show 1 ≤ sizeLine; decide, fun p2 hp2 => ⟨p1, p2, _, _, rfl, rfl, by rw [upd_ne (ne_of_none upd_same hp2), upd_same], upd_same, ?_, fun p3 hp3 => ?_⟩⟩
      · exact Nat.le_of_lt (small64 (by simp; omega))
      refine ⟨by show 2 ≤ sizeLine; decide, fun p4 hp4 => ?_⟩
      have s12 := (same_new (o := .lst ((r.drop 1).map V.int)) hp1).trans (same_new (o := .lst [V.int b]) hp2)
      have hM2 := occ_kp hM s12
      generalize upd (upd H p1 (.lst ((r.drop 1).map V.int))) p2 (.lst [V.int b]) = H2 at s12 hM2 hp3 hp4
      have d3 : Dp K (Off M (upd H2 p3 (.lst ((r.drop 1).map V.int ++ [V.int b])))) (.ref p3) (dI (r.drop 1 ++ [b])) := dI_mk (.of (by rw [off_upd hM2 hp3, List.map_append]; rfl))
      refine q _ _ ((s12.trans (same_new hp3)).trans (same_new hp4)) ?_
      have := dp_pair (occ_upd hM2) hp4 (.bl false) d3
      unfold dStp stp
      rw [if_neg hm]
      exact this
/-! ### _law_lifted -/
abbrev sLift : Stmt := top 34
def spLift (K : PySem.W.Frag) : Sp := fun vs H Q _ => ∃ (M : List Addr) (v : V) (as : List Int), vs = [v] ∧ Occ M H ∧ Dp K H v (dI as) ∧ as.length < 64 ∧ ResD K M H (dRule (lift as)) Q
abbrev NLift : List Str := ["_law_aims", "_law_found", "_law_i", "_law_ways", "_law_j"]
theorem scLift : FnScope NLift ["_law_aims"] (defScope sLift) := ⟨rfl, rfl, rfl, by decide +kernel, rfl, by decide +kernel, by decide +kernel⟩
theorem ok_lift {f : Addr} {fd : FuncData} (B : Bi mg) (F : Fun K "_law_lifted" "_law_lifted" sLift f fd) : FnOk P w K mg base CX0 1 f fd ["_law_aims"] (spLift K) := by
  refine F.ok scLift (fun vs H Q E h => ?_) (fun cdv A outer s0 H vs Q E hr h => ?_)
  · obtain ⟨M, v, as, rfl, _⟩ := h
    rfl
  · obtain ⟨M, v, as, rfl, hM, hv, h64, q⟩ := h
    obtain ⟨a, rfl, ha⟩ := dI_open hv
    refine ⟨_, (pss_cons (ps_set (i := 1) scLift.nd rfl (Or.inl rfl) (pe_lst pa_nil))
      (pss_cons (ps_for PassesOwn.never rfl (pi_range1 rfl B.range (pa_cons (kz_len (K := K) B (pv 0)) pa_nil)) (pg_name (i := 2) scLift.nd rfl (Or.inl rfl)) (pss_cons (ps_set (i := 3) scLift.nd rfl (Or.inl rfl) (pe_lst pa_nil))
      (pss_cons (ps_for PassesOwn.never rfl (pi_range1 rfl B.range (pa_cons (kz_len (K := K) B (pv 0)) pa_nil)) (pg_name (i := 4) scLift.nd rfl (Or.inl rfl)) (pss_one (ps_expr (pe_bm PySem.F.plainAttrs_list PySem.F.slot_list_append PySem.F.type_list_append mt_append (pv 3) (pa_cons (pe_ifExp (pt_cmpR op_eq (pv 4) (pv 2) (nomark _)) (pe_ix (kix_list (K := K)) (pv 0) (pv 2) (fun _ _ => rfl)) (pe_op op_sub (pv 4) (kz_int B (pe_chain op_lt op_le (pv 2) (pv 4) (pe_ix (kix_list (K := K)) (pv 0) (pv 2) (fun _ _ => rfl)))))) pa_nil)))))
      (pss_one (ps_expr (pe_bm PySem.F.plainAttrs_list PySem.F.slot_list_append PySem.F.type_list_append mt_append (pv 1) (pa_cons (pv 3) pa_nil)))))))
      (pss_one (ps_ret (pv 1))))), ?_⟩
    refine ⟨by show 0 ≤ sizeLine; decide, fun D hD => ?_⟩
    have s1 := same_new (o := .lst []) hD
    refine ⟨_, rfl, a, _, rfl, .inl (s1.seq ha), _, rfl, by omega, by rw [List.length_map]; omega, ?_⟩
    rw [List.length_map, Int.toNat_natCast]
    refine for_range (lo := 0) (n := as.length) (fun i σ H' => (∃ x y z, σ = [some (.ref a), some (.ref D), x, y, z]) ∧ ∃ vs, H' D = some (.lst vs) ∧ DpAll K (Off (D :: M) H') vs ((lift as).take i |>.map dI) ∧ Same H H') ⟨⟨_, _, _, rfl⟩, [], upd_same, .nil, s1⟩ (fun i σ H1 hi hP => ?_) (fun σ H1 hP => ?_)
    · obtain ⟨⟨x1, x2, x3, rfl⟩, vs, hD1, hds, hs1⟩ := hP
      rw [Int.zero_add]
      refine ⟨by show 0 ≤ sizeLine; decide, fun W hW => ?_⟩
      have s2 := same_new (o := .lst []) hW
      have hnD : D ≠ W := ne_of_none hD1 hW
      have hWH : H W = none := hs1.free hW
      refine ⟨_, rfl, a, _, rfl, .inl ((hs1.trans s2).seq ha), _, rfl, by omega, by rw [List.length_map]; omega, ?_⟩
      rw [List.length_map, Int.toNat_natCast]
      have eai := getD_int hi
      refine for_range (lo := 0) (n := as.length) (fun j σ H' => (∃ z, σ = [some (.ref a), some (.ref D), some (.int (i : Nat)), some (.ref W), z]) ∧ H' W = some (.lst ((((List.range j).map (lr (as.getD i 0) i)).map V.int))) ∧ Same H1 H') ⟨⟨_, rfl⟩, upd_same, s2⟩ (fun j σ H2 hj hP => ?_) (fun σ H2 hP => ?_)
      · obtain ⟨⟨z1, rfl⟩, hW2, hs2⟩ := hP
        rw [Int.zero_add]
        have hs12 := hs1.trans hs2
        have fin : ∀ y : Int, y = lr (as.getD i 0) i j → (∃ z, [some (V.ref a), some (V.ref D), some (V.int (i : Nat)), some (V.ref W), some (V.int (j : Nat))] = [some (V.ref a), some (V.ref D), some (V.int (i : Nat)), some (V.ref W), z]) ∧ upd H2 W (.lst (((List.range j).map (lr (as.getD i 0) i)).map V.int ++ [V.int y])) W = some (.lst ((((List.range (j + 1)).map (lr (as.getD i 0) i)).map V.int))) ∧ Same H1 (upd H2 W (.lst (((List.range j).map (lr (as.getD i 0) i)).map V.int ++ [V.int y]))) := fun y hy => by
          subst hy
          exact ⟨⟨_, rfl⟩, by rw [upd_same, List.range_succ, List.map_append, List.map_append]; rfl, same_upd hs2 hW⟩
        refine ⟨_, rfl, .inl ⟨rfl, _, .of hW2⟩, _, rfl, _, rfl, rfl, _, rfl, ite2 (fun hji => ?_) (fun hji => ?_)⟩
        · have hji' : (j : Int) = i := by simpa using hji
          refine ⟨_, rfl, _, rfl, a, _, _, _, rfl, rfl, hs12.seq ha, ints_at eai, W, _, _, rfl, rfl, hW2, ?_, fin _ ?_⟩
          · rw [List.length_map, List.length_map, List.length_range]; exact small64 (by omega)
          · unfold lr; rw [if_pos hji']
        · have hji' : ¬ (j : Int) = i := by simpa using hji
          refine ⟨_, rfl, _, rfl, _, rfl, _, _, rfl, rfl, _, rfl, ite2 (fun hlt => ?_) (fun hlt => ?_)⟩
          · have hlt' : (i : Int) < j := by simpa using hlt
            refine ⟨_, rfl, _, rfl, a, _, _, _, rfl, rfl, hs12.seq ha, ints_at eai, _, _, rfl, rfl, .inr ⟨_, rfl, _, _, rfl, rfl, W, _, _, rfl, rfl, hW2, ?_, fin _ ?_⟩⟩
            · rw [List.length_map, List.length_map, List.length_range]; exact small64 (by omega)
            · exact lr_lt hji' hlt'
          · have hlt' : ¬ (i : Int) < j := by simpa using hlt
            refine .inr ⟨_, rfl, _, _, rfl, rfl, W, _, _, rfl, rfl, hW2, ?_, fin _ ?_⟩
            · rw [List.length_map, List.length_map, List.length_range]; exact small64 (by omega)
            · exact lr_ge hji' hlt'
      · obtain ⟨⟨z1, rfl⟩, hW2, hs2⟩ := hP
        have hD2 := hs2 _ _ hD1
        have hs12 := hs1.trans hs2
        have o12 := same_off (S := D :: M) hs2
        have hnW : W ∉ D :: M := by
          intro hc
          rcases List.mem_cons.mp hc with e | hc
          · exact hnD e.symm
          · exact occ_new hM hWH hc
        have hrow : Dp K (Off (D :: M) H2) (.ref W) (dI (lrow (as.getD i 0) i as.length)) := dI_mk (.of (by rw [off_get hnW]; exact hW2))
        refine ⟨_, rfl, .inl ⟨rfl, _, .of hD2⟩, _, rfl, D, _, _, rfl, rfl, hD2, ?_, ⟨_, _, _, rfl⟩, vs ++ [.ref W], upd_same, ?_, same_upd hs12 hD⟩
        · rw [dps_len hds, List.length_map, List.length_take]; exact small64 (by omega)
        · have oU : Same (Off (D :: M) H2) (Off (D :: M) (upd H2 D (.lst (vs ++ [.ref W])))) := kp_off (kp_in List.mem_cons_self) fun c hc => hc
          have e1 : ((lift as).take (i + 1)).map dI = ((lift as).take i).map dI ++ [dI (lrow (as.getD i 0) i as.length)] := by
            rw [List.take_add_one, List.map_append]
            congr 1
            unfold lift
            rw [List.getElem?_map, List.getElem?_range hi]
            rfl
          rw [e1]
          exact dps_app ((hds.up o12).up oU) (dps_one (hrow.up oU))
    · obtain ⟨⟨x1, x2, x3, rfl⟩, vs, hD1, hds, hs1⟩ := hP
      rw [List.take_of_length_le (by unfold lift; rw [List.length_map, List.length_range]; exact Nat.le_refl _)] at hds
      exact ⟨_, rfl, q _ _ hs1 (.lst (.of (by rw [off_get (occ_new hM hD)]; exact hD1)) (hds.up (off_off fun c hc => List.mem_cons_of_mem _ hc)))⟩
end
end GN

/-! part D16 -/
set_option Elab.async false
set_option linter.all false
set_option maxRecDepth 100000
set_option maxHeartbeats 4000000
namespace GN
open PySem PySem.Spec L2
open PyProof.Rows hiding St

theorem acc_kset (rule : List (List Int)) (l : List Int) (pres : Pres) (b : Int) : acc rule (kset l) pres b = acc rule l pres b := by
  unfold acc
  simp only [mem_kset]
def dAcc : Option (Bool × Pres) → PyData
  | none => .none
  | some (o, p) => .tuple [.bool o, dWorld p]
theorem dp_two {K : PySem.W.Frag} {H : Hp} {x : V} {d e : PyData} (h : Dp K H x (.tuple [d, e])) : ∃ t a b, x = .ref t ∧ SqT K H t [a, b] ∧ Dp K H a d ∧ Dp K H b e := by
  obtain ⟨t, xs, rfl, hs, hd⟩ := dp_tup h
  cases hd with
  | cons h1 r =>
  cases r with
  | cons h2 r =>
  cases r
  exact ⟨t, _, _, rfl, hs, h1, h2⟩
section
variable {P : Program} {w : World} {K : PySem.W.Frag} {mg : Str → Option Value} {base : Heap}
abbrev sAcc : Stmt := top 39
def spAcc (K : PySem.W.Frag) : Sp := fun vs H Q _ => ∃ (M : List Addr) (v u z : V) (rule : List (List Int)) (pres : Pres) (held : List Int) (b : Int) (n k : Nat), vs = [v, u, .int b, z] ∧ Occ M H ∧ Dp K H v (dRule rule) ∧ Dp K (Off M H) u (dWorld pres) ∧ Dp K H z (dI held) ∧ StOk n k rule pres ∧ ResD K M H (dAcc (acc rule held pres b)) Q
abbrev NAc : List Str := ["_law_plan", "_law_world", "_law_block", "_law_held", "_law_lines", "_law_counts", "_law_side", "_law_line", "_law_hit", "_law_later", "_law_hits", "_law_misses", "_law_pair"]
theorem scAcc : FnScope NAc ["_law_plan", "_law_world", "_law_block", "_law_held"] (defScope sAcc) := ⟨rfl, rfl, rfl, by decide +kernel, rfl, by decide +kernel, by decide +kernel⟩
theorem ok_acc {f : Addr} {fd : FuncData} (B : Bi mg) (F__law_step : Fk P w K mg base CX0 2 "_law_step" (spLStep K)) (F : Fun K "_law_accessed" "_law_accessed" sAcc f fd) : FnOk P w K mg base CX0 3 f fd ["_law_plan", "_law_world", "_law_block", "_law_held"] (spAcc K) := by
  refine F.ok scAcc (fun vs H Q E h => ?_) (fun cdv A outer s0 H vs Q E hr h => ?_)
  · obtain ⟨M, v, u, z, rule, pres, held, b, n, k, rfl, _⟩ := h
    rfl
  · obtain ⟨M, v, u, z, rule, pres, held, b, n, k, rfl, hM, hv, hu, hz, ok, q⟩ := h
    have hA := acc_eq rule held pres b _ rfl
    obtain ⟨tw, yl, yc, rfl, htw, dl, dc⟩ := dp_two hu
    obtain ⟨al, xs, rfl, hal, hxs⟩ := dp_list dl
    obtain ⟨ac, cs, rfl, hac, hcs⟩ := dp_list dc
    obtain ⟨ah, rfl, hah⟩ := dI_open hz
    have hlx : xs.length = pres.length := by rw [dps_len hxs, List.length_map]
    have hlc : cs.length = pres.length := by rw [dps_len hcs, List.length_map]
    have hn : pres.length = n := ok.pres.len
    have hl0 : 0 < pres.length := by rw [hn]; exact ok.n0
    have hl64 : pres.length < 64 := by rw [hn]; exact ok.n64
    have hix := ix_lt (b := b) hl0
    have hpt := pt_at (b := b) hl0
    have hrow := ok.pres.row _ _ hpt
    obtain ⟨x, hx, dx⟩ := dps_get (i := ix pres b) (d := dI (pt pres b).1) hxs (by rw [List.getElem?_map, hpt]; rfl)
    obtain ⟨y, hy, dy⟩ := dps_get (i := ix pres b) (d := dCount (pt pres b)) hcs (by rw [List.getElem?_map, hpt]; rfl)
    obtain ⟨a, rfl, ha⟩ := dI_open dx
    obtain ⟨ty, y1, y2, rfl, hty, dy1, dy2⟩ := dp_two dy
    obtain rfl := dp_int dy1
    obtain rfl := dp_int dy2
    have haL : SqL K H a ((pt pres b).1.map V.int) := seqL_mono off_same ha
    have hr1 : 1 ≤ (pt pres b).1.length := by rw [hrow.len]; exact ok.k1
    have h00 := ints_at (j := 0) (hd_at hr1)
    have eix : b % ((xs.length : Nat) : Int) = ((ix pres b : Nat) : Int) := by rw [hlx]; exact ix_mod hl0
    refine ⟨_, (pss_cons (ps_asg (pv 1) (pg_tup rfl (pgs_cons (pg_name (i := 4) scAcc.nd rfl (Or.inl rfl)) (pgs_cons (pg_name (i := 5) scAcc.nd rfl (Or.inl rfl)) pgs_nil))))
      (pss_cons (ps_set (i := 6) scAcc.nd rfl (Or.inl rfl) (pe_op op_mod (kz_int B (pv 2)) (kz_len (K := K) B (pv 4))))
      (pss_cons (ps_set (i := 7) scAcc.nd rfl (Or.inl rfl) (pe_ix (kix_list (K := K)) (pv 4) (pv 6) (fun _ _ => rfl)))
      (pss_cons (ps_if (PW.pt (pw_and (pt_cmpR (kop_notIn (K := K)) (pv 2) (pv 7) rfl) (pw_and1 (pt_cmpR (kop_in (K := K)) (pe_ix (kix_list (K := K)) (pv 7) pe_int (fun _ _ => rfl)) (pv 3) rfl)))) (pss_one (ps_ret pe_non)) pss_nil)
      (pss_cons (ps_asg (pe_fn (F__law_step.mono (by decide)) hr rfl p0 (pa_cons (pv 0) (pa_cons (pv 7) (pa_cons (pv 2) pa_nil)))) (pg_tup rfl (pgs_cons (pg_name (i := 8) scAcc.nd rfl (Or.inl rfl)) (pgs_cons (pg_name (i := 9) scAcc.nd rfl (Or.inl rfl)) pgs_nil))))
      (pss_cons (ps_asg (pe_ix (kix_list (K := K)) (pv 5) (pv 6) (fun _ _ => rfl)) (pg_tup rfl (pgs_cons (pg_name (i := 10) scAcc.nd rfl (Or.inl rfl)) (pgs_cons (pg_name (i := 11) scAcc.nd rfl (Or.inl rfl)) pgs_nil))))
      (pss_cons (ps_set (i := 12) scAcc.nd rfl (Or.inl rfl) (pe_ifExp (pt_val (pv 8)) (pe_tup (pa_cons (pe_op op_add (pv 10) pe_int) (pa_cons (pv 11) pa_nil))) (pe_tup (pa_cons (pv 10) (pa_cons (pe_op op_add (pv 11) pe_int) pa_nil)))))
      (pss_one (ps_ret (pe_tup (pa_cons (pv 8) (pa_cons (pe_tup (pa_cons (pe_op op_cat (pe_op op_cat (pe_slice sl_list (pv 4) po_none (po_some (pv 6))) (pe_lst (pa_cons (pv 9) pa_nil))) (pe_slice sl_list (pv 4) (po_some (pe_op op_add (pv 6) pe_int)) po_none)) (pa_cons (pe_op op_cat (pe_op op_cat (pe_slice sl_list (pv 5) po_none (po_some (pv 6))) (pe_lst (pa_cons (pv 12) pa_nil))) (pe_slice sl_list (pv 5) (po_some (pe_op op_add (pv 6) pe_int)) po_none)) pa_nil))) pa_nil)))))))))))), ?_⟩
    refine ⟨_, rfl, tw, _, rfl, seqT_mono off_same htw, rfl, _, _, rfl, _, _, rfl, rfl, ?_⟩
    refine ⟨_, rfl, .inl ⟨_, rfl, _, rfl, al, _, rfl, .inl (seqL_mono off_same hal), _, _, rfl, rfl, (by show (0 : Int) < (xs.length : Int); omega), ?_⟩⟩
    dsimp only
    rw [eix]
    refine ⟨_, rfl, _, rfl, al, _, _, _, rfl, rfl, seqL_mono off_same hal, atI_nat hx, ?_⟩
    have mk : ∀ {G : Prop} (R : Prop), (R → G) → R → G := fun _ f r => f r
    have main : ∀ r, acc rule held pres b = r → r = some ((stp rule (pt pres b).1 b).1, nxt rule pres b) ∨ r = none := fun r hr => by
      rcases acc_eq rule held pres b r hr with ⟨_, _, e⟩ | ⟨_, e⟩
      · exact .inr e
      · exact .inl e
    rcases hA with ⟨hb, hk, hnone⟩ | ⟨hno, hsome⟩
    · refine ⟨_, rfl, _, rfl, a, _, rfl, .inl haL, rfl, flat_ints _, _, rfl, ?_⟩
      rw [if_pos rfl, inV_ints, decide_eq_false hb]
      refine iteT ⟨_, rfl, a, _, _, _, rfl, rfl, haL, h00, _, rfl, ah, _, rfl, .inl hah, rfl, flat_ints _, _, rfl, ?_⟩
      rw [if_neg Bool.false_ne_true, inV_ints, decide_eq_true hk]
      rw [hnone] at q
      exact iteT (q _ _ (Same.refl _) .non)
    · apply mk
      · intro rest
        refine ⟨_, rfl, _, rfl, a, _, rfl, .inl haL, rfl, flat_ints _, _, rfl, ?_⟩
        rw [if_pos rfl, inV_ints]
        by_cases hb : b ∈ (pt pres b).1
        · exact iteNS hb (iteF rest)
        · rw [decide_eq_false hb]
          refine iteT ⟨_, rfl, a, _, _, _, rfl, rfl, haL, h00, _, rfl, ah, _, rfl, .inl hah, rfl, flat_ints _, _, rfl, ?_⟩
          rw [if_neg Bool.false_ne_true, inV_ints, decide_eq_false fun hk => hno ⟨hb, hk⟩]
          exact iteF rest
      · refine ⟨_, rfl, _, rfl, _, rfl, M, v, .ref a, rule, (pt pres b).1, b, rfl, hM, hv, dp_here dx, by rw [hrow.len]; exact ok.rule, hr1, by rw [hrow.len]; exact ok.k64, fun x1 H1 s1 d1 => ?_⟩
        have hM1 := occ_kp hM s1
        obtain ⟨ts, o1, l1, rfl, hts, do1, dl1⟩ := dp_two d1
        obtain rfl := dp_bl do1
        refine ⟨ts, _, rfl, seqT_mono off_same hts, rfl, _, _, rfl, _, _, rfl, rfl, ?_⟩
        have o1' := same_off (S := M) s1
        refine ⟨_, rfl, _, rfl, ac, _, _, _, rfl, rfl, seqL_mono (off_same.trans s1) hac, atI_nat hy, ty, _, rfl, seqT_mono (off_same.trans s1) hty, rfl, _, _, rfl, _, _, rfl, rfl, ?_⟩
        have hnx : nxt rule pres b = pres.set (ix pres b) ((stp rule (pt pres b).1 b).2, (pt pres b).2.1 + (if (stp rule (pt pres b).1 b).1 then 1 else 0), (pt pres b).2.2 + (if (stp rule (pt pres b).1 b).1 then 0 else 1)) := rfl
        rw [hsome] at q
        have dl1' : Dp K (Off M H1) l1 (dI (stp rule (pt pres b).1 b).2) := dl1
        clear hsome dl1 d1 do1 hts
        generalize (stp rule (pt pres b).1 b).1 = o at hnx q
        generalize (stp rule (pt pres b).1 b).2 = r' at hnx q dl1'
        have both : ∀ (h' m' : Int) (p : Addr), H1 p = none → h' = (pt pres b).2.1 + (if o = true then 1 else 0) → m' = (pt pres b).2.2 + (if o = true then 0 else 1) →
            Same H1 (upd H1 p (.tup [.int h', .int m'])) ∧ Occ M (upd H1 p (.tup [.int h', .int m'])) ∧ Dp K (Off M (upd H1 p (.tup [.int h', .int m']))) (.ref p) (dCount (r', (pt pres b).2.1 + (if o = true then 1 else 0), (pt pres b).2.2 + (if o = true then 0 else 1))) := fun h' m' p hp e1 e2 => by
          rw [← e1, ← e2]
          exact ⟨same_new hp, occ_upd hM1, dp_pair hM1 hp (.int h') (.int m')⟩
        have fin : ∀ (H2 : Hp) (p : Addr), Same H1 H2 → Occ M H2 → Dp K (Off M H2) (.ref p) (dCount (r', (pt pres b).2.1 + (if o = true then 1 else 0), (pt pres b).2.2 + (if o = true then 0 else 1))) →
            ∀ (H3 : Hp) (p3 p5 p8 : Addr), Same H2 H3 → Occ M H3 → Off M H3 p5 = some (.lst (xs.take (ix pres b) ++ l1 :: xs.drop (ix pres b + 1))) → Off M H3 p8 = some (.lst (cs.take (ix pres b) ++ V.ref p :: cs.drop (ix pres b + 1))) →
            ∀ pw pr, H3 pw = none → upd H3 pw (.tup [.ref p5, .ref p8]) pr = none → Q (.ref pr) (upd (upd H3 pw (.tup [.ref p5, .ref p8])) pr (.tup [.bl o, .ref pw])) := fun H2 p s2 hM2 dP H3 p3 p5 p8 s3 hM3 e5 e8 pw pr hpw hpr => by
          have o3 := (same_off (S := M) s1).trans (same_off (s2.trans s3))
          have dL : Dp K (Off M H3) (.ref p5) (dLines (nxt rule pres b)) := by
            rw [hnx]
            exact .lst (.of e5) (dps_set (f := fun p => dI p.1) (x := (r', _, _)) (hxs.up o3) hix (dl1'.up (same_off (s2.trans s3))))
          have dC : Dp K (Off M H3) (.ref p8) (dCounts (nxt rule pres b)) := by
            rw [hnx]
            exact .lst (.of e8) (dps_set (f := dCount) (hcs.up o3) hix (dP.up (same_off s3)))
          exact q _ _ (((s1.trans (s2.trans s3)).trans (same_new hpw)).trans (same_new hpr)) (dp_pair (occ_upd hM3) hpr (.bl o) (dp_pair hM3 hpw dL dC))
        cases o
        rotate_left
        refine ⟨_, rfl, true, rfl, iteT ⟨_, rfl, _, _, rfl, rfl, _, rfl, by show 2 ≤ sizeLine; decide, fun p hp => ?_⟩⟩
        dsimp only
        obtain ⟨sp, hMp, dP⟩ := both ((pt pres b).2.1 + 1) (pt pres b).2.2 p hp (by simp) (by simp)
        generalize upd H1 p (.tup [.int ((pt pres b).2.1 + 1), .int (pt pres b).2.2]) = H2 at sp hMp dP ⊢
        rotate_left
        refine ⟨_, rfl, false, rfl, iteF ⟨_, rfl, _, rfl, _, _, rfl, rfl, by show 2 ≤ sizeLine; decide, fun p hp => ?_⟩⟩
        dsimp only
        obtain ⟨sp, hMp, dP⟩ := both (pt pres b).2.1 ((pt pres b).2.2 + 1) p hp (by simp) (by simp)
        generalize upd H1 p (.tup [.int (pt pres b).2.1, .int ((pt pres b).2.2 + 1)]) = H2 at sp hMp dP ⊢
        all_goals
          have fin2 := fin H2 p sp hMp dP
          have hal2 := seqL_mono (off_same.trans (s1.trans sp)) hal
          have hac2 := seqL_mono (off_same.trans (s1.trans sp)) hac
          have hil : ix pres b < xs.length := by rw [hlx]; exact hix
          have hic : ix pres b < cs.length := by rw [hlc]; exact hix
          -- lines
          refine ⟨_, rfl, _, rfl, _, rfl, _, rfl, al, _, rfl, hal2, fun p1 hp1 => ?_⟩
          rw [cut_to xs (Nat.le_of_lt hil)]
          refine ⟨_, rfl, by show 1 ≤ sizeLine; decide, fun p2 hp2 => ⟨p1, p2, _, _, rfl, rfl, by rw [upd_ne (ne_of_none upd_same hp2), upd_same], upd_same, ?_, fun p3 hp3 => ?_⟩⟩
          · refine Nat.le_of_lt (small64 ?_)
            simp; omega
          have t3 := ((same_new (o := .lst (xs.take (ix pres b))) hp1).trans (same_new (o := .lst [l1]) hp2)).trans (same_new (o := .lst (xs.take (ix pres b) ++ [l1])) hp3)
          have e3 : upd (upd (upd H2 p1 (.lst (xs.take (ix pres b)))) p2 (.lst [l1])) p3 (.lst (xs.take (ix pres b) ++ [l1])) p3 = some (.lst (xs.take (ix pres b) ++ [l1])) := upd_same
          generalize upd (upd (upd H2 p1 (.lst (xs.take (ix pres b)))) p2 (.lst [l1])) p3 (.lst (xs.take (ix pres b) ++ [l1])) = H3 at t3 e3 ⊢
          refine ⟨_, rfl, _, rfl, _, _, rfl, rfl, _, rfl, al, _, rfl, seqL_mono t3 hal2, fun p4 hp4 => ?_⟩
          dsimp only
          rw [show ((ix pres b : Nat) : Int) + 1 = ((ix pres b + 1 : Nat) : Int) from rfl, cut_from xs hil]
          refine ⟨p3, p4, _, _, rfl, rfl, same_new hp4 _ _ e3, upd_same, ?_, fun p5 hp5 => ?_⟩
          · refine Nat.le_of_lt (small64 ?_)
            simp; omega
          have t5 := (t3.trans (same_new (o := .lst (xs.drop (ix pres b + 1))) hp4)).trans (same_new (o := .lst (xs.take (ix pres b) ++ [l1] ++ xs.drop (ix pres b + 1))) hp5)
          have hM4 : Occ M (upd H3 p4 (.lst (xs.drop (ix pres b + 1)))) := occ_kp hMp (t3.trans (same_new hp4))
          have e5 : Off M (upd (upd H3 p4 (.lst (xs.drop (ix pres b + 1)))) p5 (.lst (xs.take (ix pres b) ++ [l1] ++ xs.drop (ix pres b + 1)))) p5 = some (.lst (xs.take (ix pres b) ++ l1 :: xs.drop (ix pres b + 1))) := by
            rw [off_upd hM4 hp5, List.append_assoc]; rfl
          have hM5 := occ_kp hMp t5
          generalize upd (upd H3 p4 (.lst (xs.drop (ix pres b + 1)))) p5 (.lst (xs.take (ix pres b) ++ [l1] ++ xs.drop (ix pres b + 1))) = H5 at t5 e5 hM5 ⊢
          -- counts
          refine ⟨_, rfl, _, rfl, _, rfl, ac, _, rfl, seqL_mono t5 hac2, fun q1 hq1 => ?_⟩
          rw [cut_to cs (Nat.le_of_lt hic)]
          refine ⟨_, rfl, by show 1 ≤ sizeLine; decide, fun q2 hq2 => ⟨q1, q2, _, _, rfl, rfl, by rw [upd_ne (ne_of_none upd_same hq2), upd_same], upd_same, ?_, fun q3 hq3 => ?_⟩⟩
          · refine Nat.le_of_lt (small64 ?_)
            simp; omega
          have r3 := ((same_new (o := .lst (cs.take (ix pres b))) hq1).trans (same_new (o := .lst [V.ref p]) hq2)).trans (same_new (o := .lst (cs.take (ix pres b) ++ [V.ref p])) hq3)
          have f3 : upd (upd (upd H5 q1 (.lst (cs.take (ix pres b)))) q2 (.lst [V.ref p])) q3 (.lst (cs.take (ix pres b) ++ [V.ref p])) q3 = some (.lst (cs.take (ix pres b) ++ [V.ref p])) := upd_same
          generalize upd (upd (upd H5 q1 (.lst (cs.take (ix pres b)))) q2 (.lst [V.ref p])) q3 (.lst (cs.take (ix pres b) ++ [V.ref p])) = H6 at r3 f3 ⊢
          refine ⟨_, rfl, _, rfl, _, _, rfl, rfl, _, rfl, ac, _, rfl, seqL_mono (t5.trans r3) hac2, fun q4 hq4 => ?_⟩
          dsimp only
          rw [show ((ix pres b : Nat) : Int) + 1 = ((ix pres b + 1 : Nat) : Int) from rfl, cut_from cs hic]
          refine ⟨q3, q4, _, _, rfl, rfl, same_new hq4 _ _ f3, upd_same, ?_, fun q5 hq5 => ?_⟩
          · refine Nat.le_of_lt (small64 ?_)
            simp; omega
          have r5 := (r3.trans (same_new (o := .lst (cs.drop (ix pres b + 1))) hq4)).trans (same_new (o := .lst (cs.take (ix pres b) ++ [V.ref p] ++ cs.drop (ix pres b + 1))) hq5)
          have hM6 : Occ M (upd H6 q4 (.lst (cs.drop (ix pres b + 1)))) := occ_kp hM5 (r3.trans (same_new hq4))
          have f5 : Off M (upd (upd H6 q4 (.lst (cs.drop (ix pres b + 1)))) q5 (.lst (cs.take (ix pres b) ++ [V.ref p] ++ cs.drop (ix pres b + 1)))) q5 = some (.lst (cs.take (ix pres b) ++ V.ref p :: cs.drop (ix pres b + 1))) := by
            rw [off_upd hM6 hq5, List.append_assoc]; rfl
          have hM7 := occ_kp hM5 r5
          generalize upd (upd H6 q4 (.lst (cs.drop (ix pres b + 1)))) q5 (.lst (cs.take (ix pres b) ++ [V.ref p] ++ cs.drop (ix pres b + 1))) = H7 at r5 f5 hM7 ⊢
          refine ⟨by show 2 ≤ sizeLine; decide, fun pw hpw => ⟨by show 2 ≤ sizeLine; decide, fun pr hpr => ?_⟩⟩
          exact fin2 H7 p5 p5 q5 (t5.trans r5) hM7 (same_off r5 _ _ e5) f5 pw pr hpw hpr
end
end GN

/-! part D17 -/
set_option Elab.async false
set_option linter.all false
set_option maxRecDepth 100000
set_option maxHeartbeats 4000000
namespace GN
open PySem PySem.Spec L2
open PyProof.Rows hiding St

/-! ### comprehensions over a range whose elements draw from the bag -/
theorem pick_all {α : Type} {f : α → PyData} : ∀ {ds : List PyData} {Pr : Nat → α → Prop}, (∀ j d, ds[j]? = some d → ∃ x, d = f x ∧ Pr j x) → ∃ as : List α, ds = as.map f ∧ ∀ j x, as[j]? = some x → Pr j x
  | [], _, _ => ⟨[], rfl, fun j x h => by simp at h⟩
  | d :: ds, Pr, h => by
    obtain ⟨x, e, p⟩ := h 0 d rfl
    obtain ⟨as, e2, p2⟩ := pick_all (ds := ds) (Pr := fun j => Pr (j + 1)) fun j d hd => h (j + 1) d (by simpa using hd)
    refine ⟨x :: as, by rw [e, e2]; rfl, fun j y hy => ?_⟩
    cases j with
    | zero => cases hy; exact p
    | succ j => exact p2 j y (by simpa using hy)
section
variable {K : PySem.W.Frag} {D ba : Addr} {M : List Addr} {H0 : Hp}
theorem kp_upd {H : Hp} {o : HO} (k : Kp [ba] H0 H) (hD : H0 D = none) : Kp [ba] H0 (upd H D o) := fun c u e n => by
  rw [upd_ne (ne_of_none e hD)]
  exact k c u e n
theorem lc_bag {lo : Int} {n : Nat} {te : TE} {sl : Nat} {σ : St} {Qd : Hp → Prop} (Pr : Nat → PyData → Prop) (hD : H0 D = none) (hM : Occ M H0) (hb : ba ∈ M) (hB : BagAt H0 ba) (hz : n < 64)
    (hs : ∀ (i : Nat) H (G : VK), i < n → Kp [ba] H0 H → BagAt H ba → Occ (D :: M) H → Same (Off M H0) (Off (D :: M) H) →
      (∀ y d H', Pr i d → Kp [ba] H H' → BagAt H' ba → Dp K (Off (D :: M) H') y d → G y H') → te ((wipe σ [sl]).set sl (some (.int (lo + (i : Nat))))) H G)
    (hd : ∀ H vs ds, ds.length = n → (∀ j d, ds[j]? = some d → Pr j d) → H D = some (.lst vs) → DpAll K (Off M H) vs ds → Kp [ba] H0 H → BagAt H ba → Occ M H → Qd H) :
    ∃ W : Nat → Nat → Hp → Prop, (∃ m, W 0 m (upd H0 D (.lst []))) ∧ ∀ i m H, W i m H →
      ((Itr lo n).stop i H ∧ Qd H) ∨ ((Itr lo n).go i H ∧ ∃ Nx : Hp → Prop, (∀ H', Nx H' → ∃ m', m' < m ∧ W (i + 1) m' H') ∧ ∀ x H', (Itr lo n).yld i H x H' → gName sl x (wipe σ [sl]) H' fun σ2 H2 => wipe σ2 [sl] = wipe σ [sl] ∧ tYes σ2 H2 fun b H3 =>
        if b = true then te σ2 H3 fun y H4 => ∃ acc, H4 D = some (.lst acc) ∧ acc.length < sizeLine ∧ Nx (upd H4 D (.lst (acc ++ [y]))) else Nx H3) := by
  have nbD : ba ≠ D := by
    obtain ⟨x, c, e⟩ := hB
    exact ne_of_none e hD
  have sub : ∀ c ∈ [ba], c ∈ D :: M := fun c hc => by rw [List.mem_singleton.mp hc]; exact List.mem_cons_of_mem _ hb
  have occ : ∀ {H : Hp}, Kp [ba] H0 H → BagAt H ba → Occ M H := fun k b => occ_bag hM k b
  refine lc_range (lo := lo) (n := n) (g := gName sl) (tt := tYes) (te := te) (vs := [sl]) (σ := σ) (H1 := H0) (D := D) (Qd := Qd)
    (fun i H => ∃ vs ds, ds.length = i ∧ (∀ j d, ds[j]? = some d → Pr j d) ∧ H D = some (.lst vs) ∧ DpAll K (Off (D :: M) H) vs ds ∧ Kp [ba] H0 H ∧ BagAt H ba)
    ⟨[], [], rfl, fun j d h => by simp at h, upd_same, .nil, kp_new hD, hB.same (same_new hD)⟩ (fun i H hi p => ?_) (fun H p => ?_)
  · obtain ⟨vs, ds, hl, hp, hDD, hds, kk, bb⟩ := p
    refine ⟨wipe1, ?_⟩
    have u0 : Same (Off M H0) (Off (D :: M) H) := fun c o e => by
      obtain ⟨e1, n1⟩ := off_some e
      have nD : c ≠ D := ne_of_none e1 hD
      have nb : c ∉ [ba] := fun z => n1 (by rw [List.mem_singleton.mp z]; exact hb)
      rw [off_get (by simp [nD, n1])]
      exact kk c o e1 nb
    have hg : ∀ (y : V) (d : PyData) (H' : Hp), Pr i d → Kp [ba] H H' → BagAt H' ba → Dp K (Off (D :: M) H') y d → (fun y H4 => ∃ acc, H4 D = some (.lst acc) ∧ acc.length < sizeLine ∧ (fun (i : Nat) (H : Hp) => ∃ vs ds, ds.length = i ∧ (∀ j d, ds[j]? = some d → Pr j d) ∧ H D = some (.lst vs) ∧ DpAll K (Off (D :: M) H) vs ds ∧ Kp [ba] H0 H ∧ BagAt H ba) (i + 1) (upd H4 D (.lst (acc ++ [y])))) y H' := fun y d H' hpr k' b' dy => by
      have hD' := k' _ _ hDD (by simp [Ne.symm nbD])
      have o1 := kp_off (S := D :: M) k' sub
      have o2 : Same (Off (D :: M) H') (Off (D :: M) (upd H' D (.lst (vs ++ [y])))) := kp_off (kp_in (p := D) (S := [D]) List.mem_cons_self) fun c hc => by rw [List.mem_singleton.mp hc]; exact List.mem_cons_self
      refine ⟨vs, hD', ?_, vs ++ [y], ds ++ [d], by rw [List.length_append, hl]; rfl, fun j e hj => ?_, upd_same, dps_app ((hds.up o1).up o2) (dps_one (dy.up o2)), kp_upd (kp_trans kk k') hD, ?_⟩
      · rw [dps_len hds, hl]; exact small64 (by omega)
      · by_cases hji : j < ds.length
        · rw [List.getElem?_append_left hji] at hj
          exact hp j e hj
        · rw [List.getElem?_append_right (by omega)] at hj
          have h0 : j - ds.length = 0 := by
            by_cases z : j - ds.length = 0
            · exact z
            · obtain ⟨m, hm⟩ := Nat.exists_eq_succ_of_ne_zero z
              rw [hm] at hj
              simp at hj
          rw [h0] at hj
          cases hj
          have : j = i := by omega
          rw [this]
          exact hpr
      · obtain ⟨x, c, eb⟩ := b'
        exact ⟨x, c, by rw [upd_ne nbD]; exact eb⟩
    exact hs i H _ hi kk bb (occ_cons (occ kk bb) hDD) u0 hg
  · obtain ⟨vs, ds, hl, hp, hDD, hds, kk, bb⟩ := p
    exact hd H vs ds hl hp hDD (hds.up (off_off fun c hc => List.mem_cons_of_mem _ hc)) kk bb (occ kk bb)
end
section
variable {P : Program} {w : World} {K : PySem.W.Frag} {mg : Str → Option Value} {base : Heap}
abbrev sRule : Stmt := top 35
def spRule (K : PySem.W.Frag) : Sp := fun vs H Q _ => ∃ (M : List Addr) (ba : Addr) (k : Nat), vs = [.ref ba, .int k] ∧ Occ M H ∧ ba ∈ M ∧ BagAt H ba ∧ 2 ≤ k ∧ k ≤ 12 ∧ ∀ rule v H', RuleOk k rule → Kp [ba] H H' → BagAt H' ba → Dp K (Off M H') v (dRule rule) → Q v H'
abbrev NRule : List Str := ["_law_bag_here", "_law_k", "_law_kind", "_law_same", "_law_i"]
theorem scRule : FnScope NRule ["_law_bag_here", "_law_k"] (defScope sRule) := ⟨rfl, rfl, rfl, by decide +kernel, rfl, by decide +kernel, by decide +kernel⟩
theorem ok_rule {f : Addr} {fd : FuncData} (B : Bi mg) (F__law_draw : Fk P w K mg base CX0 1 "_law_draw" spDraw) (F__law_shuffle : Fk P w K mg base CX0 2 "_law_shuffle" (spShuffle K)) (F__law_lifted : Fk P w K mg base CX0 1 "_law_lifted" (spLift K)) (F : Fun K "_law_some_rule" "_law_some_rule" sRule f fd) :
    FnOk P w K mg base CX0 3 f fd ["_law_bag_here", "_law_k"] (spRule K) := by
  refine F.ok scRule (fun vs H Q E h => ?_) (fun cdv A outer s0 H vs Q E hr h => ?_)
  · obtain ⟨M, ba, k, rfl, _⟩ := h
    rfl
  · obtain ⟨M, ba, k, rfl, hM, hm, hB, h2, h12, q⟩ := h
    have hsub : ∀ c ∈ [ba], c ∈ M := fun c hc => by rw [List.mem_singleton.mp hc]; exact hm
    have endL : ∀ (H1 : Hp) (D : Addr) (ds : List PyData) (vs : List V), Kp [ba] H H1 → BagAt H1 ba → Occ M H1 → ds.length = k → (∀ (j : Nat) d, ds[j]? = some d → ∃ x : Int, d = PyData.int x ∧ (j : Int) ≤ x ∧ x < k) → Dp K (Off M H1) (.ref D) (.list ds) → spLift K [.ref D] H1 Q (fun _ _ _ => False) := fun H1 D ds vs k1 b1 hM1 hl hp dD => by
      obtain ⟨as, rfl, hP⟩ := pick_all (f := PyData.int) (Pr := fun j x => (j : Int) ≤ x ∧ x < k) hp
      rw [List.length_map] at hl
      refine ⟨M, .ref D, as, rfl, hM1, dp_here dD, by omega, fun v H2 s2 dv => q _ _ _ (lift_ok hl hP) (kp_trans k1 (kp_same s2)) (b1.same s2) dv⟩
    refine ⟨_, (pss_cons (ps_set (i := 2) scRule.nd rfl (Or.inl rfl) (pe_fn (F__law_draw.mono (by decide)) hr rfl p0 (pa_cons (pv 0) (pa_cons pe_int pa_nil))))
      (pss_cons (ps_if (pt_cmpR op_eq (pv 2) pe_int (nomark _)) (pss_one (ps_ret (pe_fn (F__law_lifted.mono (by decide)) hr rfl p0 (pa_cons (pe_lc (own := [("_law_i", 4)]) (g := gName 4) (tt := tYes) rfl scRule.nd (pi_range1 rfl B.range (pa_cons (pv 1) pa_nil)) (blkOk_by (N := ["_law_bag_here", "_law_k", "_law_kind", "_law_same", "_law_i"]) (sc := defScope sRule) (by decide +kernel)) (fun _ _ _ _ _ => (pg_name (i := 4) scRule.nd rfl (Or.inl rfl))) (fun _ _ _ _ _ => pts_nil) (fun _ _ _ _ _ => (pe_op op_add (pv 4) (pe_fn (F__law_draw.mono (by decide)) hr rfl p0 (pa_cons (pv 0) (pa_cons (pe_op op_sub (pv 1) (pv 4)) pa_nil)))))) pa_nil)))) pss_nil)
      (pss_cons (ps_if (pt_cmpR op_eq (pv 2) pe_int (nomark _)) (pss_one (ps_ret (pe_fn (F__law_lifted.mono (by decide)) hr rfl p0 (pa_cons (pe_lc (own := [("_law_i", 4)]) (g := gName 4) (tt := tYes) rfl scRule.nd (pi_range1 rfl B.range (pa_cons (pv 1) pa_nil)) (blkOk_by (N := ["_law_bag_here", "_law_k", "_law_kind", "_law_same", "_law_i"]) (sc := defScope sRule) (by decide +kernel)) (fun _ _ _ _ _ => (pg_name (i := 4) scRule.nd rfl (Or.inl rfl))) (fun _ _ _ _ _ => pts_nil) (fun _ _ _ _ _ => (pe_ix (kix_list (K := K)) (pe_lst (pa_cons (pv 4) (pa_cons (pe_op op_sub (pv 1) pe_int) (pa_cons (pe_callB (call_min2 rfl) (by rfl) (by exact B.min) boot_min (pa_cons (pe_op op_add (pv 4) pe_int) (pa_cons (pe_op op_sub (pv 1) pe_int) pa_nil)) (by decide) (by decide)) pa_nil)))) (pe_fn (F__law_draw.mono (by decide)) hr rfl p0 (pa_cons (pv 0) (pa_cons pe_int pa_nil))) (fun _ _ => rfl)))) pa_nil)))) pss_nil)
      (pss_cons (ps_if (pt_cmpR op_eq (pv 2) pe_int (nomark _)) (pss_cons (ps_set (i := 3) scRule.nd rfl (Or.inr rfl) (pe_fn (F__law_shuffle.mono (by decide)) hr rfl p0 (pa_cons (pv 0) (pa_cons (pv 1) pa_nil))))
      (pss_one (ps_ret (pe_lc (own := [("_law_i", 4)]) (g := gName 4) (tt := tYes) rfl scRule.nd (pi_range1 rfl B.range (pa_cons (pv 1) pa_nil)) (blkOk_by (N := ["_law_bag_here", "_law_k", "_law_kind", "_law_same", "_law_i"]) (sc := defScope sRule) (by decide +kernel)) (fun _ _ _ _ _ => (pg_name (i := 4) scRule.nd rfl (Or.inl rfl))) (fun _ _ _ _ _ => pts_nil) (fun _ _ _ _ _ => (kz_list (K := K) B (pv 3))))))) pss_nil)
      (pss_one (ps_ret (pe_lc (own := [("_law_i", 4)]) (g := gName 4) (tt := tYes) rfl scRule.nd (pi_range1 rfl B.range (pa_cons (pv 1) pa_nil)) (blkOk_by (N := ["_law_bag_here", "_law_k", "_law_kind", "_law_same", "_law_i"]) (sc := defScope sRule) (by decide +kernel)) (fun _ _ _ _ _ => (pg_name (i := 4) scRule.nd rfl (Or.inl rfl))) (fun _ _ _ _ _ => pts_nil) (fun _ _ _ _ _ => (pe_fn (F__law_shuffle.mono (by decide)) hr rfl p0 (pa_cons (pv 0) (pa_cons (pv 1) pa_nil))))))))))), ?_⟩
    refine ⟨_, rfl, ba, 5, rfl, hB, by decide, by decide, fun z H1 z0 z1 k1 b1 => ?_⟩
    have hM1 := occ_bag hM k1 b1
    have o1 := kp_off (S := M) k1 hsub
    refine ⟨_, rfl, rfl, _, rfl, ite2 (fun _ => ?_) (fun _ => ?_)⟩
    · refine ⟨_, rfl, _, rfl, by omega, by omega, fun D hD => ?_⟩
      rw [Int.toNat_natCast]
      refine lc_bag (K := K) (M := M) (lo := 0) (n := k) (fun j d => ∃ x : Int, d = .int x ∧ (j : Int) ≤ x ∧ x < k) hD hM1 hm b1 (by omega) (fun i H2 G hi k2 b2 hO up hG => ?_) (fun H2 vs ds hl hp hDD hds k2 b2 hM2 => ?_)
      · rw [Int.zero_add]
        refine ⟨_, rfl, _, rfl, _, rfl, _, rfl, _, _, rfl, rfl, ba, _, rfl, b2, by omega, by omega, fun z H3 z0 z1 k3 b3 => ?_⟩
        exact ⟨_, _, rfl, rfl, hG _ _ _ ⟨_, rfl, by omega, by omega⟩ k3 b3 (.int _)⟩
      · exact endL H2 D ds vs (kp_trans k1 k2) b2 hM2 hl hp (.lst (.of (by rw [off_get (occ_new hM1 hD)]; exact hDD)) hds)
    · refine ⟨_, rfl, rfl, _, rfl, ite2 (fun _ => ?_) (fun _ => ?_)⟩
      · refine ⟨_, rfl, _, rfl, by omega, by omega, fun D hD => ?_⟩
        rw [Int.toNat_natCast]
        refine lc_bag (K := K) (M := M) (lo := 0) (n := k) (fun j d => ∃ x : Int, d = .int x ∧ (j : Int) ≤ x ∧ x < k) hD hM1 hm b1 (by omega) (fun i H2 G hi k2 b2 hO up hG => ?_) (fun H2 vs ds hl hp hDD hds k2 b2 hM2 => ?_)
        · rw [Int.zero_add]
          refine ⟨_, rfl, _, rfl, _, _, rfl, rfl, _, rfl, _, _, rfl, rfl, _, rfl, _, _, rfl, rfl, _, _, rfl, by show 3 ≤ sizeLine; decide, fun p hp => ?_⟩
          dsimp only
          have s3 := same_new (o := .lst [V.int (i : Nat), V.int ((k : Int) - 1), V.int (if (k : Int) - 1 < (i : Int) + 1 then (k : Int) - 1 else (i : Int) + 1)]) hp
          have e3 : upd H2 p (.lst [V.int (i : Nat), V.int ((k : Int) - 1), V.int (if (k : Int) - 1 < (i : Int) + 1 then (k : Int) - 1 else (i : Int) + 1)]) p = some (.lst [V.int (i : Nat), V.int ((k : Int) - 1), V.int (if (k : Int) - 1 < (i : Int) + 1 then (k : Int) - 1 else (i : Int) + 1)]) := upd_same
          have nbp : p ≠ ba := by obtain ⟨x, c, e⟩ := b2; exact fun z => by rw [z, e] at hp; cases hp
          generalize upd H2 p (.lst [V.int (i : Nat), V.int ((k : Int) - 1), V.int (if (k : Int) - 1 < (i : Int) + 1 then (k : Int) - 1 else (i : Int) + 1)]) = H3 at s3 e3
          refine ⟨_, rfl, ba, 3, rfl, b2.same s3, by decide, by decide, fun z H4 z0 z1 k4 b4 => ?_⟩
          have e4 := k4 _ _ e3 (by simp [nbp])
          have val : ∃ x : Int, atI [V.int (i : Nat), V.int ((k : Int) - 1), V.int (if (k : Int) - 1 < (i : Int) + 1 then (k : Int) - 1 else (i : Int) + 1)] z = some (.int x) ∧ (i : Int) ≤ x ∧ x < k := by
            have hz : z = 0 ∨ z = 1 ∨ z = 2 := by omega
            rcases hz with rfl | rfl | rfl
            · exact ⟨_, rfl, by omega, by omega⟩
            · exact ⟨_, rfl, by omega, by omega⟩
            · refine ⟨_, rfl, ?_, ?_⟩ <;> split <;> omega
          obtain ⟨x, hx, x1, x2⟩ := val
          exact ⟨p, _, _, _, rfl, rfl, .of e4, hx, hG _ _ _ ⟨x, rfl, x1, x2⟩ (kp_trans (kp_same s3) k4) b4 (.int _)⟩
        · exact endL H2 D ds vs (kp_trans k1 k2) b2 hM2 hl hp (.lst (.of (by rw [off_get (occ_new hM1 hD)]; exact hDD)) hds)
      · refine ⟨_, rfl, rfl, _, rfl, ite2 (fun _ => ?_) (fun _ => ?_)⟩
        · refine ⟨_, rfl, _, rfl, M, ba, k, rfl, hM1, b1, by omega, fun p v H2 hp k2 b2 dp => ?_⟩
          obtain ⟨c, rfl, hc⟩ := dI_open dp
          have hM2 := occ_bag hM1 k2 b2
          refine ⟨_, rfl, _, rfl, by omega, by omega, fun D hD => ?_⟩
          rw [Int.toNat_natCast]
          refine lc_bag (K := K) (M := M) (lo := 0) (n := k) (fun j d => ∃ x : List Int, d = dI x ∧ x = p) hD hM2 hm b2 (by omega) (fun i H3 G hi k3 b3 hO up hG => ?_) (fun H3 vs ds hl hq hDD hds k3 b3 hM3 => ?_)
          · exact ⟨_, rfl, c, _, rfl, .inl (seqL_mono off_same (seqL_mono up hc)), fun l hl => hG _ _ _ ⟨p, rfl, rfl⟩ (kp_same (same_new hl)) (b3.same (same_new hl)) (dI_mk (.of (off_upd hO hl)))⟩
          · obtain ⟨rule, rfl, hP⟩ := pick_all (f := dI) (Pr := fun j x => x = p) hq
            rw [List.length_map] at hl
            refine q rule _ _ ⟨hl, fun p' hp' => ?_⟩ (kp_trans k1 (kp_trans k2 k3)) b3 (.lst (.of (by rw [off_get (occ_new hM2 hD)]; exact hDD)) hds)
            obtain ⟨j, hj, e⟩ := List.getElem_of_mem hp'
            rw [hP j p' (by rw [List.getElem?_eq_getElem hj, e])]
            exact hp
        · refine ⟨_, rfl, _, rfl, by omega, by omega, fun D hD => ?_⟩
          rw [Int.toNat_natCast]
          refine lc_bag (K := K) (M := M) (lo := 0) (n := k) (fun j d => ∃ x : List Int, d = dI x ∧ IsP x k) hD hM1 hm b1 (by omega) (fun i H3 G hi k3 b3 hO up hG => ?_) (fun H3 vs ds hl hq hDD hds k3 b3 hM3 => ?_)
          · exact ⟨_, rfl, _, rfl, D :: M, ba, k, rfl, hO, b3, by omega, fun p v H4 hp k4 b4 dp => hG _ _ _ ⟨p, rfl, hp⟩ k4 b4 dp⟩
          · obtain ⟨rule, rfl, hP⟩ := pick_all (f := dI) (Pr := fun j x => IsP x k) hq
            rw [List.length_map] at hl
            refine q rule _ _ ⟨hl, fun p' hp' => ?_⟩ (kp_trans k1 k3) b3 (.lst (.of (by rw [off_get (occ_new hM1 hD)]; exact hDD)) hds)
            obtain ⟨j, hj, e⟩ := List.getElem_of_mem hp'
            exact hP j p' (by rw [List.getElem?_eq_getElem hj, e])
end
end GN

/-! part D18 -/
set_option Elab.async false
set_option linter.all false
set_option maxRecDepth 100000
set_option maxHeartbeats 4000000
namespace GN
open PySem PySem.Spec L2
open PyProof.Rows hiding St

theorem strT {a b : Str} {A B : Prop} (h : a = b) (g : A) : if decide (V.str a = V.str b) = true then A else B := by
  rw [if_pos (decide_eq_true (congrArg V.str h))]
  exact g
theorem strF {a b : Str} {A B : Prop} (h : a ≠ b) (g : B) : if decide (V.str a = V.str b) = true then A else B := by
  rw [if_neg (fun z => h (V.str.inj (of_decide_eq_true z)))]
  exact g
section
variable {P : Program} {w : World} {K : PySem.W.Frag} {mg : Str → Option Value} {base : Heap}
structure TlC (P : Program) (w : World) (K : PySem.W.Frag) (mg : Str → Option Value) (base : Heap) (C cw cn : Addr) (pl : Bool) : Prop where
  tr : TrC P w K mg base C cw pl
  tried : Mk2 P w K mg base (L2.CX P w) 10 C "tried" (spTried P w K mg base cw)
  undo : Mk2 P w K mg base (L2.CX P w) 1 C "undo" (spUndo K cn)
/-- what GoesError catches -/
structure GeC (K : PySem.W.Frag) (mg : Str → Option Value) (cg cw cn : Addr) : Prop where
  g : mg "GoesError" = some (.ref cg)
  ew : PySem.W.exmOne K (.ref cw) (.ref cg) = some true
  en : PySem.W.exmOne K (.ref cn) (.ref cg) = some true
def dTold (c : Bool) (r : PyData) : PyData := .tuple [.bool c, r]
def spTold (P : Program) (w : World) (K : PySem.W.Frag) (mg : Str → Option Value) (base : Heap) (cw cn : Addr) : Sp := fun vs H Q _ => ∃ (M : List Addr) (s C : Addr) (pl : Bool) (rule : List (List Int)) (pres : Pres) (past : List Pres) (kept : List Int) (n k : Nat) (de : Str) (z : V), vs = [.ref s, .str de, z] ∧ Occ M H ∧ TlC P w K mg base C cw cn pl ∧
  Sto K M H s C rule pres past kept ∧ StAll n k pl rule pres kept ∧ past.length < 900 ∧
  ((de = "access" ∧ ∃ b, Dp K H z (dI [b]) ∧ 0 ≤ b ∧ b ≤ 1000000000 ∧ (acc rule kept pres b = none → ResD K M H (dTold true .none) Q) ∧
      (∀ o p, acc rule kept pres b = some (o, p) → ∀ v H', Kp [s] H H' → Occ M H' → Sto K M H' s C rule p (past ++ [pres]) kept → Dp K (Off M H') v (dTold false (.bool o)) → Q v H')) ∨
   (de = "tried" ∧ ∃ bs, Dp K H z (dI bs) ∧ bs.length ≤ 2 ∧ BlkAll bs ∧ (∀ j, badAt rule kept pres bs j → ResD K M H (dTold true .none) Q) ∧ ((∀ j, ¬ badAt rule kept pres bs j) → ResD K M H (dTold false (.list ((outs rule pres bs).map PyData.bool))) Q)) ∨
   (de = "undo" ∧ (past = [] → ResD K M H (dTold true .none) Q) ∧ (∀ pa p, past = pa ++ [p] → ∀ v H', Kp [s] H H' → Occ M H' → Sto K M H' s C rule p pa kept → Dp K (Off M H') v (dTold false .none) → Q v H')))
abbrev sTold : Stmt := top 40
abbrev NTold : List Str := ["_law_store", "_law_deed", "_law_blocks", "_law_result", "_law_caught"]
theorem scTold : FnScope NTold ["_law_store", "_law_deed", "_law_blocks"] (defScope sTold) := ⟨rfl, rfl, rfl, by decide +kernel, rfl, by decide +kernel, by decide +kernel⟩
theorem ok_told {cg cw cn f : Addr} {fd : FuncData} (B : Bi mg) (GE : GeC K mg cg cw cn) (F : Fun K "_law_told" "_law_told" sTold f fd) : FnOk P w K mg base CX0 11 f fd ["_law_store", "_law_deed", "_law_blocks"] (spTold P w K mg base cw cn) := by
  refine F.ok scTold (fun vs H Q E h => ?_) (fun cdv A outer s0 H vs Q E hr h => ?_)
  · obtain ⟨M, s, C, pl, rule, pres, past, kept, n, k, de, z, rfl, _⟩ := h
    rfl
  · obtain ⟨M, s, C, pl, rule, pres, past, kept, n, k, de, z, rfl, hM, TC, S, sa, hpl, hcase⟩ := h
    have S' := S
    obtain ⟨sc, hm, dx, vr, vp, vq, vk, e, dr, dp, dq, dk⟩ := S'
    have MA := TC.tr.access
    have MT := TC.tried
    have MU := TC.undo
    refine ⟨_, (pss_cons (ps_set (i := 3) scTold.nd rfl (Or.inl rfl) pe_non)
      (pss_cons (ps_set (i := 4) scTold.nd rfl (Or.inl rfl) pe_bl)
      (pss_cons (ps_try_only rfl rfl ⟨rfl, by decide, .inl GE.g⟩ takes0 (fun W pn xe tk _ => (pss_one (ps_if (pt_cmpR op_eq (pv 1) pe_str (nomark _)) (pss_one (ps_set (i := 3) scTold.nd rfl (Or.inl rfl) (pe_mt (E := fun σ => WE W σ) (pv 0) sc.cls MA (hr.mono (by decide)) (fun σ => passAt tk σ) (pa_cons (pe_ix (kix_list (K := K)) (pv 2) pe_int (fun _ _ => rfl)) pa_nil)))) (pss_one (ps_if (PW.pt (pw_and (pt_cmpR op_eq (pv 1) pe_str (nomark _)) (pw_and1 (pt_cmpR op_gt (kz_len (K := K) B (pv 2)) pe_int (nomark _))))) (pss_one (ps_set (i := 3) scTold.nd rfl (Or.inl rfl) (pe_mt (E := fun σ => WE W σ) (pv 0) sc.cls MT (hr.mono (by decide)) (fun σ => passAt tk σ) (pa_cons (pe_ix (kix_list (K := K)) (pv 2) pe_int (fun _ _ => rfl)) (pa_cons (pe_ix (kix_list (K := K)) (pv 2) pe_int (fun _ _ => rfl)) pa_nil))))) (pss_one (ps_if (pt_cmpR op_eq (pv 1) pe_str (nomark _)) (pss_one (ps_set (i := 3) scTold.nd rfl (Or.inl rfl) (pe_ifExp (pt_cmpR (kop_neD (K := K) (by exact hr.units)) (pv 2) (pe_lst pa_nil) (nomark _)) (pe_mt (E := fun σ => WE W σ) (pv 0) sc.cls MT (hr.mono (by decide)) (fun σ => passAt tk σ) (pa_cons (pe_ix (kix_list (K := K)) (pv 2) pe_int (fun _ _ => rfl)) pa_nil)) (pe_mt0 (E := fun σ => WE W σ) (pv 0) sc.cls MT (hr.mono (by decide)) (fun σ => passAt tk σ))))) (pss_one (ps_expr (pe_mt0 (E := fun σ => WE W σ) (pv 0) sc.cls MU (hr.mono (by decide)) (fun σ => passAt tk σ))))))))))) (fun a oe cls d pn _ _ => (pss_one (ps_set (i := 4) scTold.nd rfl (Or.inl rfl) pe_bl))))
      (pss_one (ps_ret (pe_tup (pa_cons (pv 4) (pa_cons (pv 3) pa_nil)))))))), ?_⟩
    -- the end
    have fin : ∀ (c : Bool) (r : V) (d : PyData) (H' : Hp), Occ M H' → Dp K (Off M H') r d → (∀ v H2, Same H' H2 → Dp K (Off M H2) v (dTold c d) → Q v H2) → ∀ x y t, tRet (tTup (tCons (tVar 4) (tCons (tVar 3) tNil))) { nx := fun _ H' => Q .non H', rt := Q } [x, y, t, some r, some (.bl c)] H' := fun c r d H' hO dr hq x y t =>
      ⟨_, rfl, _, rfl, by show 2 ≤ sizeLine; decide, fun p hp => hq _ _ (same_new hp) (dp_pair hO hp (.bl c) dr)⟩
    rcases hcase with ⟨rfl, b, hz, hb0, hb1, hbad, hgood⟩ | ⟨rfl, bs, hz, hbl, hba, hbad, hgood⟩ | ⟨rfl, hbad, hgood⟩
    · obtain ⟨a, rfl, ha⟩ := dI_open hz
      refine ⟨_, rfl, rfl, _, rfl, strT rfl ?_⟩
      refine ⟨_, rfl, s, dx, _, rfl, e, rfl, _, rfl, a, _, _, _, rfl, rfl, ha, (show atI [V.int b] 0 = some (V.int b) from rfl), M, s, C, rule, pres, past, kept, b, n, k, rfl, hM, S, sa.ok, by omega, hb0, hb1, fun hn d H' s' => ?_, fun o p hs H' k' hM' S' => ?_⟩
      · exact ⟨true, GE.ew, fun _ a ha => fin true .non .none H' (occ_kp hM s') .non (fun v H2 s2 dv => hbad hn v H2 (s'.trans s2) dv) _ _ _, fun q => nomatch q⟩
      · exact fin false (.bl o) (.bool o) H' hM' (.bl o) (fun v H2 s2 dv => hgood o p hs v H2 (kp_trans k' (kp_same s2)) (occ_kp hM' s2) (S'.same s2) dv) _ _ _
    · obtain ⟨a, rfl, ha⟩ := dI_open hz
      refine ⟨_, rfl, rfl, _, rfl, strF (by decide +kernel) ?_⟩
      refine ⟨_, rfl, rfl, _, rfl, strT rfl ?_⟩
      match bs, hbl, hba, hbad, hgood, ha with
      | [], hbl, hba, hbad, hgood, ha =>
        refine ⟨_, rfl, a, _, rfl, .inl ha, _, _, rfl, rfl, _, rfl, iteF ?_⟩
        refine ⟨_, rfl, rfl, _, rfl, strT rfl ?_⟩
        refine ⟨_, rfl, by show 0 ≤ sizeLine; decide, fun em hem => ⟨dI [], .list [], dI_mk ((same_new hem).seq ha), .lst (.of upd_same) .nil, sh_ok (sh_dI 0 _), by decide, false, rfl, iteF ?_⟩⟩
        have s1 := same_new (o := .lst []) hem
        refine ⟨_, rfl, s, dx, _, rfl, s1 _ _ e, rfl, M, s, C, pl, rule, pres, past, kept, n, k, [], rfl, occ_kp hM s1, TC.tr, S.same s1, sa, hpl, by decide, hba, fun j hj d H' s' => ?_, fun hn v H' s' dv => ?_⟩
        · exact ⟨true, GE.ew, fun _ a ha => fin true .non .none H' (occ_kp hM (s1.trans s')) .non (fun v H2 s2 dv => hbad j hj v H2 ((s1.trans s').trans s2) dv) _ _ _, fun q => nomatch q⟩
        · exact fin false v _ H' (occ_kp hM (s1.trans s')) dv (fun v H2 s2 dv => hgood hn v H2 ((s1.trans s').trans s2) dv) _ _ _
      | [b1], hbl, hba, hbad, hgood, ha =>
        refine ⟨_, rfl, a, _, rfl, .inl ha, _, _, rfl, rfl, _, rfl, iteF ?_⟩
        refine ⟨_, rfl, rfl, _, rfl, strT rfl ?_⟩
        refine ⟨_, rfl, by show 0 ≤ sizeLine; decide, fun em hem => ⟨dI [b1], .list [], dI_mk ((same_new hem).seq ha), .lst (.of upd_same) .nil, sh_ok (sh_dI 0 _), by decide, true, rfl, iteT ?_⟩⟩
        have s1 := same_new (o := .lst []) hem
        refine ⟨_, rfl, s, dx, _, rfl, s1 _ _ e, rfl, _, rfl, a, _, _, _, rfl, rfl, s1.seq ha, (show atI [V.int b1] 0 = some (V.int b1) from rfl), M, s, C, pl, rule, pres, past, kept, n, k, [b1], rfl, occ_kp hM s1, TC.tr, S.same s1, sa, hpl, (show (1 : Nat) < 64 by decide), hba, fun j hj d H' s' => ?_, fun hn v H' s' dv => ?_⟩
        · exact ⟨true, GE.ew, fun _ a ha => fin true .non .none H' (occ_kp hM (s1.trans s')) .non (fun v H2 s2 dv => hbad j hj v H2 ((s1.trans s').trans s2) dv) _ _ _, fun q => nomatch q⟩
        · exact fin false v _ H' (occ_kp hM (s1.trans s')) dv (fun v H2 s2 dv => hgood hn v H2 ((s1.trans s').trans s2) dv) _ _ _
      | [b1, b2], hbl, hba, hbad, hgood, ha =>
        refine ⟨_, rfl, a, _, rfl, .inl ha, _, _, rfl, rfl, _, rfl, iteT ?_⟩
        refine ⟨_, rfl, s, dx, _, rfl, e, rfl, _, rfl, a, _, _, _, rfl, rfl, ha, (show atI [V.int b1, V.int b2] 0 = some (V.int b1) from rfl), _, rfl, a, _, _, _, rfl, rfl, ha, (show atI [V.int b1, V.int b2] 1 = some (V.int b2) from rfl), M, s, C, pl, rule, pres, past, kept, n, k, [b1, b2], rfl, hM, TC.tr, S, sa, hpl, (show (2 : Nat) < 64 by decide), hba, fun j hj d H' s' => ?_, fun hn v H' s' dv => ?_⟩
        · exact ⟨true, GE.ew, fun _ a ha => fin true .non .none H' (occ_kp hM s') .non (fun v H2 s2 dv => hbad j hj v H2 (s'.trans s2) dv) _ _ _, fun q => nomatch q⟩
        · exact fin false v _ H' (occ_kp hM s') dv (fun v H2 s2 dv => hgood hn v H2 (s'.trans s2) dv) _ _ _
      | _ :: _ :: _ :: _, hbl, _, _, _, _ => simp at hbl
    · refine ⟨_, rfl, rfl, _, rfl, strF (by decide +kernel) ?_⟩
      refine ⟨_, rfl, rfl, _, rfl, strF (by decide +kernel) ?_⟩
      refine iteF ⟨_, rfl, rfl, _, rfl, strF (by decide +kernel) ?_⟩
      refine ⟨_, rfl, s, dx, _, rfl, e, rfl, M, s, C, rule, pres, past, kept, rfl, hM, S, fun hp H' s' => ?_, fun pa p hp H' k' hM' S' => ?_⟩
      · exact ⟨true, GE.en, fun _ a ha => fin true .non .none H' (occ_kp hM s') .non (fun v H2 s2 dv => hbad hp v H2 (s'.trans s2) dv) _ _ _, fun q => nomatch q⟩
      · exact fin false .non .none H' hM' .non (fun v H2 s2 dv => hgood pa p hp v H2 (kp_trans k' (kp_same s2)) (occ_kp hM' s2) (S'.same s2) dv) _ _ _
end
end GN

/-! part D19 -/
set_option Elab.async false
set_option linter.all false
set_option maxRecDepth 100000
set_option maxHeartbeats 4000000
namespace GN
open PySem PySem.Spec L2
open PyProof.Rows hiding St

section
variable {X : Cx} {k : Nat} {C : Addr} {f : Str} {sp : Sp} {e : Expr} {pos : Pos} {ta : TE}
/-- a property that the class has if c -/
theorem pe_prM {c : Prop} (he : PE X e ta) (cl : Cls X.K C) (hp : c → Pr2 X.prog X.w X.K X.mg X.base k C f sp) (hr : Room (k + 1) X.A) (hab : attributeBase e f X.env (eval e X.env) = eval e X.env := by rfl) : PE X (.Attribute e f pos) (fun σ H Q => c ∧ tPr C sp ta σ H Q) :=
  ⟨fun pins s σ H Q I h => (pe_pr he cl (hp h.1) hr hab).run pins s σ H Q I h.2⟩
end
section
variable {P : Program} {w : World} {K : PySem.W.Frag} {mg : Str → Option Value} {base : Heap}
structure KdC (kd : Str) (cnt kpg : Bool) : Prop where
  c : inV (.str kd) [.str "counting", .str "both"] = cnt
  k : inV (.str kd) [.str "keeping", .str "both"] = kpg
structure RdC (P : Program) (w : World) (K : PySem.W.Frag) (mg : Str → Option Value) (base : Heap) (C : Addr) (cnt kpg : Bool) : Prop where
  rows : Pr2 P w K mg base 1 C "rows" (spRead K oRows)
  hits : Pr2 P w K mg base 1 C "hits" (spRead K oHits)
  misses : Pr2 P w K mg base 1 C "misses" (spRead K oMisses)
  len : Len2 P w K mg base 1 C (spRead K oLen)
  bys : cnt = true → Pr2 P w K mg base 1 C "by_set" (spRead K oBySet)
  kep : kpg = true → Pr2 P w K mg base 1 C "kept" (spRead K oKept)
/-- the law's past: the worlds so far, the last one now -/
def PastAt (K : PySem.W.Frag) (M : List Addr) (H : Hp) (pa : Addr) (hist : List Pres) : Prop := ∃ ws, H pa = some (.lst ws) ∧ DpAll K (Off M H) ws (hist.map dWorld)
abbrev sState : Stmt := top 41
def spState (P : Program) (w : World) (K : PySem.W.Frag) (mg : Str → Option Value) (base : Heap) : Sp := fun vs H Q _ => ∃ (M : List Addr) (s C pa : Addr) (rule : List (List Int)) (pres : Pres) (past : List Pres) (kept held : List Int) (kd : Str) (cnt kpg : Bool) (zh : V), vs = [.ref s, .str kd, zh, .ref pa] ∧ Occ M H ∧ RdC P w K mg base C cnt kpg ∧ KdC kd cnt kpg ∧
  Sto K M H s C rule pres past kept ∧ pres.length < 64 ∧ past.length < 900 ∧ PastAt K M H pa (past ++ [pres]) ∧ Dp K H zh (dI held) ∧ held.length < 64 ∧ (kpg = true → kept = kset held) ∧ ∀ H', Same H H' → Q (.bl true) H'
abbrev NSt : List Str := ["_law_store", "_law_kind", "_law_held", "_law_past", "_law_lines", "_law_counts", "_law_pair"]
theorem scState : FnScope NSt ["_law_store", "_law_kind", "_law_held", "_law_past"] (defScope sState) := ⟨rfl, rfl, rfl, by decide +kernel, rfl, by decide +kernel, by decide +kernel⟩
theorem ok_state {f : Addr} {fd : FuncData} (B : Bi mg) (F : Fun K "_law_state_right" "_law_state_right" sState f fd) : FnOk P w K mg base CX0 4 f fd ["_law_store", "_law_kind", "_law_held", "_law_past"] (spState P w K mg base) := by
  refine F.ok scState (fun vs H Q E h => ?_) (fun cdv A outer s0 H vs Q E hr h => ?_)
  · obtain ⟨M, s, C, pa, rule, pres, past, kept, held, kd, cnt, kpg, zh, rfl, _⟩ := h
    rfl
  · obtain ⟨M, s, C, pa, rule, pres, past, kept, held, kd, cnt, kpg, zh, rfl, hM, RC, KD, S, hp64, hpl, hpa, hz, hh64, hk, q⟩ := h
    obtain ⟨wsA, hpaA, hwsA⟩ := hpa
    rw [List.map_append] at hwsA
    obtain ⟨ws, wl, rfl, hws, dwl⟩ := dps_snoc hwsA
    have hlw : (ws ++ [wl]).length = past.length + 1 := by rw [List.length_append, dps_len hws, List.length_map]; rfl
    obtain ⟨tw, yl, yc, rfl, htw, dl, dc⟩ := dp_two dwl
    obtain ⟨ac, cs, rfl, hac, hcs⟩ := dp_list dc
    have hlc : cs.length = pres.length := by rw [dps_len hcs, List.length_map]
    have S' := S
    obtain ⟨sc, hm, dx, vr, vp, vq, vk, e, dr, dp, dq, dk⟩ := S'
    refine ⟨_, (pss_cons (ps_asg (pe_ix (kix_list (K := K)) (pv 3) (pe_un un_neg pe_int) (fun _ _ => rfl)) (pg_tup rfl (pgs_cons (pg_name (i := 4) scState.nd rfl (Or.inl rfl)) (pgs_cons (pg_name (i := 5) scState.nd rfl (Or.inl rfl)) pgs_nil))))
      (pss_cons (ps_if (PW.pt (pw_or (pt_cmpR (kop_neD (K := K) (by exact hr.units)) (pe_pr (pv 0) sc.cls RC.rows (hr.mono (by decide))) (pv 4) (nomark _)) (pw_or1 (pt_cmpR op_ne (pe_pr (pv 0) sc.cls RC.hits (hr.mono (by decide))) (kz_sum (K := K) rfl B (pe_lc (own := [("_law_pair", 6)]) (g := gName 6) (tt := tYes) rfl scState.nd (kpi_list (K := K) (pv 5)) (blkOk_by (N := ["_law_store", "_law_kind", "_law_held", "_law_past", "_law_lines", "_law_counts", "_law_pair"]) (sc := defScope sState) (by decide +kernel)) (fun _ _ _ _ _ => (pg_name (i := 6) scState.nd rfl (Or.inl rfl))) (fun _ _ _ _ _ => pts_nil) (fun _ _ _ _ _ => (pe_ix (kix_tup (K := K)) (pv 6) pe_int (fun _ _ => rfl))))) (nomark _))))) (pss_one (ps_ret pe_bl)) pss_nil)
      (pss_cons (ps_if (PW.pt (pw_or (pt_cmpR op_ne (pe_pr (pv 0) sc.cls RC.misses (hr.mono (by decide))) (kz_sum (K := K) rfl B (pe_lc (own := [("_law_pair", 6)]) (g := gName 6) (tt := tYes) rfl scState.nd (kpi_list (K := K) (pv 5)) (blkOk_by (N := ["_law_store", "_law_kind", "_law_held", "_law_past", "_law_lines", "_law_counts", "_law_pair"]) (sc := defScope sState) (by decide +kernel)) (fun _ _ _ _ _ => (pg_name (i := 6) scState.nd rfl (Or.inl rfl))) (fun _ _ _ _ _ => pts_nil) (fun _ _ _ _ _ => (pe_ix (kix_tup (K := K)) (pv 6) pe_int (fun _ _ => rfl))))) (nomark _)) (pw_or1 (pt_cmpR op_ne (pe_callB (call_lenO RC.len (hr.mono (by decide))) (by rfl) B.len boot_len (pa_cons (pv 0) pa_nil) (by decide) (by decide)) (pe_op op_sub (kz_len (K := K) B (pv 3)) pe_int) (nomark _))))) (pss_one (ps_ret pe_bl)) pss_nil)
      (pss_cons (ps_if (PW.pt (pw_and (pt_cmpR (kop_in (K := K)) (pv 1) (pe_lst (pa_cons pe_str (pa_cons pe_str pa_nil))) rfl) (pw_and1 (pt_cmpR (kop_neD (K := K) (by exact hr.units)) (pe_prM (pv 0) sc.cls RC.bys (hr.mono (by decide))) (pv 5) (nomark _))))) (pss_one (ps_ret pe_bl)) pss_nil)
      (pss_one (ps_ret (pe_or (pe_cmpR (kop_notIn (K := K)) (pv 1) (pe_lst (pa_cons pe_str (pa_cons pe_str pa_nil))) rfl) (pe_one (pe_cmpR (kop_eqD (K := K) (by exact hr.units)) (pe_prM (pv 0) sc.cls RC.kep (hr.mono (by decide))) (pe_sortedSet rfl rfl B.sorted rfl B.set (pv 2)) (nomark _)))))))))), ?_⟩
    refine ⟨_, rfl, _, rfl, pa, _, _, _, rfl, rfl, .of hpaA, atI_last ws _, tw, _, rfl, seqT_mono off_same htw, rfl, _, _, rfl, _, _, rfl, rfl, ?_⟩
    -- rows
    refine ⟨_, rfl, s, dx, _, rfl, e, M, s, C, rule, pres, past, kept, rfl, hM, S, hp64, fun v1 H1 s1 d1 => ?_⟩
    refine ⟨_, rfl, dLines pres, dLines pres, dp_here d1, dp_here (dl.up (same_off s1)), sh_ok (sh_lines _), sh_ok (sh_lines _), false, ?_, iteF ?_⟩
    · rw [SeqAt.eqv_refl _ (sh_lines _).1]; rfl
    -- hits
    refine ⟨_, rfl, s, dx, _, rfl, s1 _ _ e, M, s, C, rule, pres, past, kept, rfl, occ_kp hM s1, S.same s1, hp64, fun v2 H2 s2' d2 => ?_⟩
    obtain rfl := dp_int d2
    have s2 := s1.trans s2'
    have hM2 := occ_kp hM s2
    have o2 := same_off (S := M) s2
    refine ⟨_, rfl, ac, rfl, ⟨_, seqL_mono (off_same.trans s2) hac⟩, fun D hD => ?_⟩
    refine lc_pL (K := K) (M := M) (ds := pres.map fun p => .int p.2.1) hD hM2 (by rw [List.length_map, hlc]) (by rw [hlc]; exact small64 hp64) (seqL_mono o2 hac) (fun i x d H3 G hx hd' hs3 hO up hG => ?_) (fun H3 vs3 hs3 hM3 hD3 hds3 => ?_)
    · obtain ⟨p, hp, dx', rfl⟩ := dps_nth (hcs.up o2) hx hd'
      obtain ⟨t, a, b, rfl, ht, da, db⟩ := dp_two (dx'.up up)
      obtain rfl := dp_int da
      exact ⟨_, rfl, t, _, _, _, rfl, rfl, seqT_mono off_same ht, (show atI [V.int p.2.1, b] 0 = some (V.int p.2.1) from rfl), hG _ _ (Same.refl _) (.int _)⟩
    rw [map_ints] at hds3
    rw [ints_dps hds3] at hD3
    refine ⟨D, _, rfl, .of hD3, rfl, _, rfl, iteNS rfl ?_⟩
    have s3 := s2.trans hs3
    -- misses
    refine ⟨_, rfl, s, dx, _, rfl, s3 _ _ e, M, s, C, rule, pres, past, kept, rfl, hM3, S.same s3, hp64, fun v4 H4 s4' d4 => ?_⟩
    obtain rfl := dp_int d4
    have s4 := s3.trans s4'
    have hM4 := occ_kp hM s4
    have o4 := same_off (S := M) s4
    refine ⟨_, rfl, ac, rfl, ⟨_, seqL_mono (off_same.trans s4) hac⟩, fun D5 hD5 => ?_⟩
    refine lc_pL (K := K) (M := M) (ds := pres.map fun p => .int p.2.2) hD5 hM4 (by rw [List.length_map, hlc]) (by rw [hlc]; exact small64 hp64) (seqL_mono o4 hac) (fun i x d H5 G hx hd' hs5 hO up hG => ?_) (fun H5 vs5 hs5 hM5 hD5' hds5 => ?_)
    · obtain ⟨p, hp, dx', rfl⟩ := dps_nth (hcs.up o4) hx hd'
      obtain ⟨t, a, b, rfl, ht, da, db⟩ := dp_two (dx'.up up)
      obtain rfl := dp_int db
      exact ⟨_, rfl, t, _, _, _, rfl, rfl, seqT_mono off_same ht, (show atI [a, V.int p.2.2] 1 = some (V.int p.2.2) from rfl), hG _ _ (Same.refl _) (.int _)⟩
    rw [map_ints] at hds5
    rw [ints_dps hds5] at hD5'
    refine ⟨D5, _, rfl, .of hD5', rfl, _, rfl, iteNS rfl ?_⟩
    have s5 := s4.trans hs5
    -- len
    refine ⟨_, rfl, s, dx, _, rfl, s5 _ _ e, M, s, C, rule, pres, past, kept, rfl, hM5, S.same s5, hp64, fun v6 H6 s6' d6 => ?_⟩
    obtain rfl := dp_int d6
    have s6 := s5.trans s6'
    have hbig : (2 : Int) ^ 63 = 9223372036854775808 := by decide
    refine ⟨_, rfl, ⟨by omega, by omega⟩, _, rfl, pa, _, rfl, .inl (.of (s6 _ _ hpaA)), _, _, rfl, rfl, rfl, _, rfl, iteNS (by rw [hlw]; show V.int (past.length : Int) = V.int (((past.length + 1 : Nat) : Int) - 1); congr 1; omega) ?_⟩
    -- by_set
    have hM6 := occ_kp hM s6
    have o6 := same_off (S := M) s6
    have S6 := S.same s6
    have e6 := s6 _ _ e
    have hc6 := dp_here (dc.up o6)
    have hz6 := hz.up s6
    have mk : ∀ {G : Prop} (R : Hp → Prop), ((∀ H7, Same H6 H7 → R H7) → G) → (∀ H7, Same H6 H7 → R H7) → G := fun _ f r => f r
    apply mk
    · intro rest
      refine ⟨_, rfl, by show 2 ≤ sizeLine; decide, fun p hp => ⟨p, _, rfl, .inl (.of upd_same), rfl, rfl, _, rfl, ?_⟩⟩
      rw [if_neg Bool.false_ne_true, KD.c]
      have s7 := same_new (o := .lst [V.str "counting", V.str "both"]) hp
      cases hcn : cnt with
      | false => exact iteF (iteF (rest _ s7))
      | true =>
        refine iteT ⟨rfl, _, rfl, s, dx, _, rfl, s7 _ _ e6, M, s, C, rule, pres, past, kept, rfl, occ_kp hM6 s7, S6.same s7, hp64, fun v8 H8 s8 d8 => ?_⟩
        refine ⟨_, rfl, dCounts pres, dCounts pres, dp_here d8, hc6.up (s7.trans s8), sh_ok (sh_counts _), sh_ok (sh_counts _), false, ?_, iteF (rest _ (s7.trans s8))⟩
        rw [SeqAt.eqv_refl _ (sh_counts _).1]; rfl
    · intro H7 s7
      refine ⟨_, rfl, by show 2 ≤ sizeLine; decide, fun p hp => ⟨p, _, rfl, .inl (.of upd_same), rfl, rfl, ?_⟩⟩
      rw [if_pos rfl, KD.k]
      have s8 := s7.trans (same_new (o := .lst [V.str "keeping", V.str "both"]) hp)
      cases hkp : kpg with
      | false => exact ⟨true, rfl, iteT (q _ (s6.trans s8))⟩
      | true =>
        refine ⟨false, rfl, iteF ⟨rfl, _, rfl, s, dx, _, rfl, s8 _ _ e6, M, s, C, rule, pres, past, kept, rfl, occ_kp hM6 s8, S6.same s8, hp64, fun v9 H9 s9 d9 => ?_⟩⟩
        obtain ⟨ah, rfl, hah⟩ := dI_open (hz6.up (s8.trans s9))
        refine ⟨_, rfl, ah, held, rfl, hah, hh64, fun p2 hp2 => ?_⟩
        have s10 := same_new (o := .lst ((kset held).map V.int)) hp2
        refine ⟨dI kept, dI kept, dp_here (d9.up (same_off s10)), by rw [hk hkp]; exact dI_mk (.of upd_same), sh_ok (sh_dI 0 _), sh_ok (sh_dI 0 _), ?_⟩
        rw [SeqAt.eqv_refl _ (sh_dI 0 _).1]
        exact q _ (s6.trans (s8.trans (s9.trans s10)))
end
end GN

/-! part D20 -/
set_option Elab.async false
set_option linter.all false
set_option maxRecDepth 100000
set_option maxHeartbeats 4000000
namespace GN
open PySem PySem.Spec L2
open PyProof.Rows hiding St

theorem inV_non_bools : ∀ bs : List Bool, inV .non (bs.map V.bl) = false
  | [] => rfl
  | b :: r => by
    have ih := inV_non_bools r
    unfold inV at ih ⊢
    rw [List.map_cons, List.any_cons, ih]
    rfl
theorem inV_non_mem {vs : List V} (h : V.non ∈ vs) : inV .non vs = true := by
  unfold inV
  exact List.any_eq_true.mpr ⟨_, h, rfl⟩
theorem flat_bools : ∀ bs : List Bool, (bs.map V.bl).all flatV = true
  | [] => rfl
  | b :: r => by rw [List.map_cons, List.all_cons, flat_bools r]; rfl
theorem dps_bools {K : PySem.W.Frag} {H : Hp} : ∀ bs : List Bool, DpAll K H (bs.map V.bl) (bs.map PyData.bool)
  | [] => .nil
  | b :: r => .cons (.bl b) (dps_bools r)
theorem badAt_acc {rule : List (List Int)} {kept : List Int} {pres : Pres} {bs : List Int} {j : Nat} {b : Int} (h : bs[j]? = some b) : badAt rule kept pres bs j ↔ acc rule kept (preAt rule pres bs j) b = none := by
  constructor
  · rintro ⟨c, hc, e⟩
    rw [h] at hc
    rw [Option.some.inj hc]
    exact e
  · exact fun e => ⟨b, h, e⟩
section
variable {P : Program} {w : World} {K : PySem.W.Frag} {mg : Str → Option Value} {base : Heap}
/-- what the law holds of one store -/
structure LawAt (P : Program) (w : World) (K : PySem.W.Frag) (mg : Str → Option Value) (base : Heap) (cw cn : Addr) (M : List Addr) (H : Hp) (ba s C pa : Addr) (pl : Bool) (n k : Nat) (rule : List (List Int)) (pres : Pres) (past : List Pres) (held pool : List Int) (zp zh zo : V) : Prop where
  occ : Occ M H
  mb : ba ∈ M
  mp : pa ∈ M
  bag : BagAt H ba
  tl : TlC P w K mg base C cw cn pl
  sto : Sto K M H s C rule pres past (kset held)
  all : StAll n k pl rule pres (kset held)
  len : past.length < 890
  pastA : PastAt K M H pa (past ++ [pres])
  nbp : ba ≠ pa
  planD : Dp K (Off M H) zp (dRule rule)
  heldD : Dp K (Off M H) zh (dI held)
  hlen : held.length < 64
  poolD : Dp K (Off M H) zo (dI pool)
  pblk : BlkAll pool
  plen : pool.length < 64
  ppos : 0 < pool.length
theorem LawAt.bs {cw cn : Addr} {M : List Addr} {H : Hp} {ba s C pa : Addr} {pl : Bool} {n k : Nat} {rule : List (List Int)} {pres : Pres} {past : List Pres} {held pool : List Int} {zp zh zo : V} (L : LawAt P w K mg base cw cn M H ba s C pa pl n k rule pres past held pool zp zh zo) : ba ≠ s := by
  obtain ⟨_, _, dx, vr, vp, vq, vk, e, _⟩ := L.sto
  obtain ⟨x, c, b⟩ := L.bag
  intro z
  rw [z, e] at b
  cases b
/-- draws and new things -/
theorem LawAt.kp {cw cn : Addr} {M : List Addr} {H H' : Hp} {ba s C pa : Addr} {pl : Bool} {n k : Nat} {rule : List (List Int)} {pres : Pres} {past : List Pres} {held pool : List Int} {zp zh zo : V} (L : LawAt P w K mg base cw cn M H ba s C pa pl n k rule pres past held pool zp zh zo) (h : Kp [ba] H H') (b : BagAt H' ba) :
    LawAt P w K mg base cw cn M H' ba s C pa pl n k rule pres past held pool zp zh zo := by
  have sub : ∀ c ∈ [ba], c ∈ M := fun c hc => by rw [List.mem_singleton.mp hc]; exact L.mb
  have o := kp_off (S := M) h sub
  obtain ⟨ws, h1, h2⟩ := L.pastA
  exact ⟨occ_bag L.occ h b, L.mb, L.mp, b, L.tl, L.sto.kp h sub (by simp [Ne.symm L.bs]), L.all, L.len, ⟨ws, h _ _ h1 (by simp [Ne.symm L.nbp]), h2.up o⟩, L.nbp, L.planD.up o, L.heldD.up o, L.hlen, L.poolD.up o, L.pblk, L.plen, L.ppos⟩
theorem LawAt.same {cw cn : Addr} {M : List Addr} {H H' : Hp} {ba s C pa : Addr} {pl : Bool} {n k : Nat} {rule : List (List Int)} {pres : Pres} {past : List Pres} {held pool : List Int} {zp zh zo : V} (L : LawAt P w K mg base cw cn M H ba s C pa pl n k rule pres past held pool zp zh zo) (h : Same H H') :
    LawAt P w K mg base cw cn M H' ba s C pa pl n k rule pres past held pool zp zh zo := L.kp (kp_same h) (L.bag.same h)
abbrev sTrial : Stmt := top 42
def spTrial (P : Program) (w : World) (K : PySem.W.Frag) (mg : Str → Option Value) (base : Heap) (cw cn : Addr) : Sp := fun vs H Q _ => ∃ (M : List Addr) (ba s C pa : Addr) (pl : Bool) (n k : Nat) (rule : List (List Int)) (pres : Pres) (past : List Pres) (held pool : List Int) (zp zh zo : V),
  vs = [.ref ba, .ref s, zp, zh, .ref pa, zo] ∧ LawAt P w K mg base cw cn M H ba s C pa pl n k rule pres past held pool zp zh zo ∧ ∀ H', Kp [ba] H H' → BagAt H' ba → Q (.bl true) H'
abbrev NTrial : List Str := ["_law_bag_here", "_law_store", "_law_plan", "_law_held", "_law_past", "_law_pool", "_law_blocks", "_law_world", "_law_due", "_law_block", "_law_later", "_law_wrong", "_law_k"]
theorem scTrial : FnScope NTrial ["_law_bag_here", "_law_store", "_law_plan", "_law_held", "_law_past", "_law_pool"] (defScope sTrial) := ⟨rfl, rfl, rfl, by decide +kernel, rfl, by decide +kernel, by decide +kernel⟩
theorem ok_trial {cw cn f : Addr} {fd : FuncData} (B : Bi mg) (F__law_draw : Fk P w K mg base CX0 1 "_law_draw" spDraw) (F__law_accessed : Fk P w K mg base CX0 3 "_law_accessed" (spAcc K)) (F__law_told : Fk P w K mg base CX0 11 "_law_told" (spTold P w K mg base cw cn))
    (F : Fun K "_law_trial_right" "_law_trial_right" sTrial f fd) : FnOk P w K mg base CX0 12 f fd ["_law_bag_here", "_law_store", "_law_plan", "_law_held", "_law_past", "_law_pool"] (spTrial P w K mg base cw cn) := by
  refine F.ok scTrial (fun vs H Q E h => ?_) (fun cdv A outer s0 H vs Q E hr h => ?_)
  · obtain ⟨M, ba, s, C, pa, pl, n, k, rule, pres, past, held, pool, zp, zh, zo, rfl, _⟩ := h
    rfl
  · obtain ⟨M, ba, s, C, pa, pl, n, k, rule, pres, past, held, pool, zp, zh, zo, rfl, L, q⟩ := h
    obtain ⟨ap, rfl, hap⟩ := dI_open L.poolD
    refine ⟨_, (pss_cons (ps_setLc (i := 6) (own := [("_law_k", 12)]) (g := gName 12) (tt := tYes) rfl scTrial.nd rfl rfl (sw_true rfl rfl rfl (by decide +kernel)) (pi_range1 rfl B.range (pa_cons (pe_fn (F__law_draw.mono (by decide)) hr rfl p0 (pa_cons (pv 0) (pa_cons pe_int pa_nil))) pa_nil)) (blkOk_by (N := ["_law_bag_here", "_law_store", "_law_plan", "_law_held", "_law_past", "_law_pool", "_law_blocks", "_law_world", "_law_due", "_law_block", "_law_later", "_law_wrong", "_law_k"]) (sc := defScope sTrial) (by decide +kernel)) (fun _ _ _ _ _ => (pg_name (i := 12) scTrial.nd rfl (Or.inl rfl))) (fun _ _ _ _ _ => pts_nil) (fun _ _ _ _ _ => (pe_ix (kix_list (K := K)) (pv 5) (pe_fn (F__law_draw.mono (by decide)) hr rfl p0 (pa_cons (pv 0) (pa_cons (kz_len (K := K) B (pv 5)) pa_nil))) (fun _ _ => rfl))))
      (pss_cons (ps_par (i := 7) (j := 8) (by rfl) scTrial.nd rfl rfl (by decide) rfl rfl (pa_cons (pe_ix (kix_list (K := K)) (pv 4) (pe_un un_neg pe_int) (fun _ _ => rfl)) (pa_cons (pe_lst pa_nil) pa_nil)) (by rfl))
      (pss_cons (ps_for PassesOwn.never rfl (kpi_list (K := K) (pv 6)) (pg_name (i := 9) scTrial.nd rfl (Or.inl rfl)) (pss_cons (ps_set (i := 10) scTrial.nd rfl (Or.inl rfl) (pe_ifExp (pt_cmpR op_isN (pv 7) pe_non (nomark _)) pe_non (pe_fn (F__law_accessed.mono (by decide)) hr rfl p0 (pa_cons (pv 2) (pa_cons (pv 7) (pa_cons (pv 9) (pa_cons (pv 3) pa_nil)))))))
      (pss_cons (ps_set (i := 7) scTrial.nd rfl (Or.inl rfl) (pe_ifExp (pt_cmpR op_isN (pv 10) pe_non (nomark _)) pe_non (pe_ix (kix_tup (K := K)) (pv 10) pe_int (fun _ _ => rfl))))
      (pss_one (ps_expr (pe_bm PySem.F.plainAttrs_list PySem.F.slot_list_append PySem.F.type_list_append mt_append (pv 8) (pa_cons (pe_ifExp (pt_cmpR op_isN (pv 10) pe_non (nomark _)) pe_non (pe_ix (kix_tup (K := K)) (pv 10) pe_int (fun _ _ => rfl))) pa_nil)))))))
      (pss_cons (ps_set (i := 11) scTrial.nd rfl (Or.inl rfl) (pe_cmpR (kop_in (K := K)) pe_non (pv 8) rfl))
      (pss_one (ps_ret (pe_cmpR (kop_eqD (K := K) (by exact hr.units)) (pe_fn (F__law_told.mono (by decide)) hr rfl p0 (pa_cons (pv 1) (pa_cons pe_str (pa_cons (pv 6) pa_nil)))) (pe_tup (pa_cons (pv 11) (pa_cons (pe_ifExp (pt_val (pv 11)) pe_non (pv 8)) pa_nil))) (nomark _)))))))), ?_⟩
    refine ⟨_, rfl, ba, 3, rfl, L.bag, by decide, by decide, fun z H1 z0 z1 k1 b1 => ⟨_, rfl, by omega, by omega, fun D hD => ?_⟩⟩
    have L1 := L.kp k1 b1
    have sub : ∀ c ∈ [ba], c ∈ M := fun c hc => by rw [List.mem_singleton.mp hc]; exact L.mb
    refine lc_bag (K := K) (M := M) (lo := 0) (n := z.toNat) (fun j d => ∃ x : Int, d = .int x ∧ (0 ≤ x ∧ x ≤ 1000000000)) hD L1.occ L.mb b1 (by omega) (fun i H2 G hi k2 b2 hO up hG => ?_) (fun H2 vs ds hl hp hDD hds k2 b2 hM2 => ?_)
    · have hap2 := seqL_mono off_same (seqL_mono up (seqL_mono (kp_off (S := M) k1 sub) hap))
      have hpl := L.ppos
      have hpl2 := L.plen
      refine ⟨_, rfl, _, rfl, _, rfl, ap, _, rfl, .inl hap2, ba, _, rfl, b2, by rw [List.length_map]; omega, by rw [List.length_map]; omega, fun y H3 y0 y1 k3 b3 => ?_⟩
      rw [List.length_map] at y1
      have hy : y.toNat < pool.length := by omega
      have ey : pool[y.toNat]? = some (pool[y.toNat]) := List.getElem?_eq_getElem hy
      have hap3 := seqL_mono off_same (seqL_mono (kp_off (S := D :: M) k3 fun c hc => List.mem_cons_of_mem _ (sub c hc)) (seqL_mono up (seqL_mono (kp_off (S := M) k1 sub) hap)))
      have hat : atI (pool.map V.int) y = some (.int (pool[y.toNat])) := by
        have := ints_at ey
        rw [Int.toNat_of_nonneg y0] at this
        exact this
      exact ⟨ap, _, _, _, rfl, rfl, hap3, hat, hG _ _ _ ⟨_, rfl, L.pblk _ (List.getElem_mem hy)⟩ k3 b3 (.int _)⟩
    · obtain ⟨bs, rfl, hbP⟩ := pick_all (f := PyData.int) (Pr := fun j x => 0 ≤ x ∧ x ≤ 1000000000) hp
      rw [List.length_map] at hl
      have hvs := ints_dps hds
      subst hvs
      have L2 := L1.kp k2 b2
      have hba : BlkAll bs := fun x hx => by
        obtain ⟨j, hj, e⟩ := List.getElem_of_mem hx
        exact hbP j x (by rw [List.getElem?_eq_getElem hj, e])
      have hbl : bs.length ≤ 2 := by omega
      obtain ⟨wsA, hpaA, hwsA⟩ := L2.pastA
      rw [List.map_append] at hwsA
      obtain ⟨ws, wl, rfl, hws, dwl⟩ := dps_snoc hwsA
      refine ⟨_, rfl, _, rfl, pa, _, _, _, rfl, rfl, .of hpaA, atI_last ws _, by show 0 ≤ sizeLine; decide, fun U hU => ⟨_, _, rfl, ?_⟩⟩
      have s3 := same_new (o := .lst []) hU
      have hMU : U ∉ M := occ_new hM2 hU
      refine ⟨_, rfl, D, rfl, ⟨_, .of (s3 _ _ hDD)⟩, ?_⟩
      have hDoff : Off M H2 D = some (.lst (bs.map V.int)) := by rw [off_get (occ_new L1.occ hD)]; exact hDD
      refine for_list (K := K) (a := D) (xs := bs.map V.int) (fun i σ H3 => Same H2 H3 ∧ ∃ (wv x9 x10 : Option V) (us : List V), σ = [some (.ref ba), some (.ref s), some zp, some zh, some (.ref pa), some (.ref ap), some (.ref D), wv, some (.ref U), x9, x10, none, none] ∧ H3 U = some (.lst us) ∧ us.length = i ∧
          (((∀ j, j < i → ¬ badAt rule (kset held) pres bs j) ∧ (∃ v, wv = some v ∧ Dp K (Off (U :: M) H3) v (dWorld (preAt rule pres bs i))) ∧ us = ((List.range i).map (outAt rule pres bs)).map V.bl) ∨
           ((∃ j, badAt rule (kset held) pres bs j) ∧ wv = some .non ∧ V.non ∈ us ∧ us.all flatV = true)))
        ⟨s3, _, _, _, [], rfl, upd_same, rfl, .inl ⟨fun j hj => absurd hj (Nat.not_lt_zero _), ⟨_, rfl, dwl.up (same_offD s3 hU)⟩, rfl⟩⟩ (fun i σ H3 _ h => .of (h.1 _ _ hDD)) (fun i x σ H3 hx hP => ?_) (fun σ H3 hP => ?_)
      · obtain ⟨s3', wv, x9, x10, us, rfl, hU3, hul, hcase⟩ := hP
        obtain ⟨b, hbi, rfl⟩ := ints_get hx
        have hib : i < bs.length := (List.getElem?_eq_some_iff.mp hbi).1
        have L3 := L2.same s3'
        rcases hcase with ⟨hal, ⟨v, rfl, dv⟩, rfl⟩ | ⟨hbad, rfl, hnon, hfl⟩
        · have hvr : ∃ a, v = .ref a := by
            obtain ⟨t, a, b, rfl, _⟩ := dp_two dv
            exact ⟨t, rfl⟩
          obtain ⟨a, rfl⟩ := hvr
          refine ⟨_, rfl, rfl, false, rfl, iteF ?_⟩
          refine ⟨_, rfl, _, rfl, _, rfl, _, rfl, U :: M, zp, .ref a, zh, rule, preAt rule pres bs i, held, b, n, k, rfl, occ_cons L3.occ hU3, dp_here L3.planD, dv, dp_here L3.heldD, preAt_ok L.all.ok hba i, fun y H4 s4 dy => ?_⟩
          have hU4 := s4 _ _ hU3
          have hak := acc_kset rule held (preAt rule pres bs i) b
          cases hacc : acc rule held (preAt rule pres bs i) b with
          | none =>
            rw [hacc] at dy hak
            obtain rfl := dp_non dy
            refine ⟨_, rfl, rfl, true, rfl, iteT ?_⟩
            refine ⟨_, rfl, .inl ⟨rfl, _, .of hU4⟩, _, rfl, rfl, true, rfl, iteT ⟨U, _, _, rfl, rfl, hU4, ?_, ?_⟩⟩
            · rw [hul]; exact small64 (by omega)
            refine ⟨fun c o ec => ?_, _, _, _, _, rfl, upd_same, by rw [List.length_append, hul]; rfl, .inr ⟨⟨i, (badAt_acc hbi).mpr hak⟩, rfl, List.mem_append_right _ List.mem_cons_self, ?_⟩⟩
            · rw [upd_ne (ne_of_none ec hU)]
              exact s4 _ _ (s3' _ _ ec)
            · rw [List.all_append, flat_bools]; rfl
          | some op =>
            obtain ⟨o, p⟩ := op
            rw [hacc] at dy hak
            obtain ⟨ho, hpp⟩ := acc_some hacc
            obtain ⟨t, y1, y2, rfl, ht, d1, d2⟩ := dp_two dy
            obtain rfl := dp_bl d1
            refine ⟨_, rfl, rfl, false, rfl, iteF ⟨_, rfl, t, _, _, _, rfl, rfl, seqT_mono off_same ht, (show atI [V.bl o, y2] 1 = some y2 from rfl), ?_⟩⟩
            refine ⟨_, rfl, .inl ⟨rfl, _, .of hU4⟩, _, rfl, rfl, false, rfl, iteF ⟨_, rfl, t, _, _, _, rfl, rfl, seqT_mono off_same ht, (show atI [V.bl o, y2] 0 = some (V.bl o) from rfl), U, _, _, rfl, rfl, hU4, ?_, ?_⟩⟩
            · rw [hul]; exact small64 (by omega)
            have e1 : preAt rule pres bs (i + 1) = p := by
              unfold preAt
              rw [nxts_succ hbi, hpp]
              rfl
            have e2 : outAt rule pres bs i = o := by unfold outAt; rw [getD_of hbi, ← ho]
            have oU : Same (Off (U :: M) H4) (Off (U :: M) (upd H4 U (.lst (((List.range i).map (outAt rule pres bs)).map V.bl ++ [V.bl o])))) := kp_off (kp_in (S := [U]) List.mem_cons_self) fun c hc => by rw [List.mem_singleton.mp hc]; exact List.mem_cons_self
            refine ⟨fun c o ec => ?_, _, _, _, _, rfl, upd_same, by rw [List.length_append, hul]; rfl, .inl ⟨fun j hj => ?_, ⟨_, rfl, ?_⟩, ?_⟩⟩
            · rw [upd_ne (ne_of_none ec hU)]
              exact s4 _ _ (s3' _ _ ec)
            · rcases Nat.lt_succ_iff_lt_or_eq.mp hj with h | h
              · exact hal j h
              · subst h
                rw [badAt_acc hbi, hak]
                simp
            · rw [e1]
              exact d2.up oU
            · rw [List.range_succ, List.map_append, List.map_append, ← e2]
              rfl
        · have hU3' := hU3
          refine ⟨_, rfl, rfl, true, rfl, iteT ?_⟩
          refine ⟨_, rfl, rfl, true, rfl, iteT ?_⟩
          refine ⟨_, rfl, .inl ⟨rfl, _, .of hU3⟩, _, rfl, rfl, true, rfl, iteT ⟨U, _, _, rfl, rfl, hU3, ?_, ?_⟩⟩
          · rw [hul]; exact small64 (by omega)
          refine ⟨same_upd s3' hU, _, _, _, _, rfl, upd_same, by rw [List.length_append, hul]; rfl, .inr ⟨hbad, rfl, List.mem_append_left _ hnon, ?_⟩⟩
          rw [List.all_append, hfl]; rfl
      · obtain ⟨s3', wv, x9, x10, us, rfl, hU3, hul, hcase⟩ := hP
        rw [List.length_map] at hcase hul
        have L3 := L2.same s3'
        have hD3 := s3' _ _ hDD
        have k3 : Kp [ba] H H3 := kp_trans (kp_trans k1 k2) (kp_same s3')
        obtain ⟨_, _, dx, vr, vp, vq, vk, e, _⟩ := L3.sto
        have told : ∀ G, (∀ j, badAt rule (kset held) pres bs j → ResD K M H3 (dTold true .none) G) → ((∀ j, ¬ badAt rule (kset held) pres bs j) → ResD K M H3 (dTold false (.list ((outs rule pres bs).map PyData.bool))) G) → spTold P w K mg base cw cn [.ref s, .str "tried", .ref D] H3 G (fun _ _ _ => False) := fun G g1 g2 =>
          ⟨M, s, C, pl, rule, pres, past, kset held, n, k, "tried", .ref D, rfl, L3.occ, L3.tl, L3.sto, L3.all, by have := L3.len; omega, .inr (.inl ⟨rfl, bs, dI_mk (.of hD3), hbl, hba, g1, g2⟩)⟩
        rcases hcase with ⟨hal, _, rfl⟩ | ⟨⟨j, hbad⟩, _, hnon, hfl⟩
        · have hnb : ∀ j, ¬ badAt rule (kset held) pres bs j := fun j hj => by
            have hj' := hj
            obtain ⟨b, hbj, _⟩ := hj'
            exact hal j (List.getElem?_eq_some_iff.mp hbj).1 hj
          refine ⟨_, rfl, U, _, rfl, .inl (.of hU3), rfl, flat_bools _, ?_⟩
          rw [if_neg Bool.false_ne_true, inV_non_bools]
          refine ⟨_, rfl, _, rfl, told _ (fun j hj => absurd hj (hnb j)) fun _ v H4 s4 dv => ?_⟩
          refine ⟨_, rfl, _, rfl, false, rfl, iteF ⟨_, rfl, by show 2 ≤ sizeLine; decide, fun p hp => ?_⟩⟩
          have s5 := same_new (o := .tup [V.bl false, V.ref U]) hp
          have dU : Dp K (upd H4 p (.tup [V.bl false, V.ref U])) (.ref U) (.list ((outs rule pres bs).map PyData.bool)) := .lst (.of (s5 _ _ (s4 _ _ hU3))) (dps_bools _)
          have shO : Sh 2 (dTold false (.list ((outs rule pres bs).map PyData.bool))) := sh_tup fun d hd => by
            rcases List.mem_cons.mp hd with e | hd
            · rw [e]; exact sh_bl 1 _
            rcases List.mem_cons.mp hd with e | hd
            · rw [e]; exact sh_list (sh_map fun b => sh_bl 0 b)
            · cases hd
          refine ⟨dTold false (.list ((outs rule pres bs).map PyData.bool)), dTold false (.list ((outs rule pres bs).map PyData.bool)), dp_here (dv.up (same_off s5)), .tup (.of upd_same) (.cons (.bl false) (.cons dU .nil)), sh_ok shO, sh_ok shO, ?_⟩
          rw [SeqAt.eqv_refl _ shO.1]
          exact q _ (kp_trans k3 (kp_same (s4.trans s5))) (L3.bag.same (s4.trans s5))
        · refine ⟨_, rfl, U, _, rfl, .inl (.of hU3), rfl, hfl, ?_⟩
          rw [if_neg Bool.false_ne_true, inV_non_mem hnon]
          refine ⟨_, rfl, _, rfl, told _ (fun j _ v H4 s4 dv => ?_) fun hno => absurd hbad (hno j)⟩
          refine ⟨_, rfl, _, rfl, true, rfl, iteT ⟨by show 2 ≤ sizeLine; decide, fun p hp => ?_⟩⟩
          have s5 := same_new (o := .tup [V.bl true, V.non]) hp
          have shO : Sh 2 (dTold true .none) := sh_tup fun d hd => by
            rcases List.mem_cons.mp hd with e | hd
            · rw [e]; exact sh_bl 1 _
            rcases List.mem_cons.mp hd with e | hd
            · rw [e]; exact sh_non 1
            · cases hd
          refine ⟨dTold true .none, dTold true .none, dp_here (dv.up (same_off s5)), .tup (.of upd_same) (.cons (.bl true) (.cons .non .nil)), sh_ok shO, sh_ok shO, ?_⟩
          rw [SeqAt.eqv_refl _ shO.1]
          exact q _ (kp_trans k3 (kp_same (s4.trans s5))) (L3.bag.same (s4.trans s5))
end
end GN

/-! part D21 -/
set_option Elab.async false
set_option linter.all false
set_option maxRecDepth 100000
set_option maxHeartbeats 4000000
namespace GN
open PySem PySem.Spec L2
open PyProof.Rows hiding St

/-- the states so far: each in order, the i-th behind i accesses -/
def Hist (n k : Nat) (hist : List Pres) : Prop := ∀ (i : Nat) p, hist[i]? = some p → PresOk n k p ∧ tot p = i
theorem Hist.last {n k : Nat} {past : List Pres} {pres : Pres} (h : Hist n k (past ++ [pres])) : PresOk n k pres ∧ tot pres = past.length := h past.length pres (by simp)
theorem Hist.init {n k : Nat} {past : List Pres} {pres : Pres} (h : Hist n k (past ++ [pres])) : Hist n k past := fun i p hp => h i p (by
  rw [List.getElem?_append_left (List.getElem?_eq_some_iff.mp hp).1]; exact hp)
theorem Hist.add {n k : Nat} {past : List Pres} {pres : Pres} (h : Hist n k past) (hp : PresOk n k pres) (ht : tot pres = past.length) : Hist n k (past ++ [pres]) := fun i p e => by
  by_cases hi : i < past.length
  · rw [List.getElem?_append_left hi] at e
    exact h i p e
  · rw [List.getElem?_append_right (by omega)] at e
    have h0 : i - past.length = 0 := by
      by_cases z : i - past.length = 0
      · exact z
      · obtain ⟨m, hm⟩ := Nat.exists_eq_succ_of_ne_zero z
        rw [hm] at e
        simp at e
    rw [h0] at e
    cases e
    exact ⟨hp, by rw [ht]; congr 1; omega⟩
section
variable {P : Program} {w : World} {K : PySem.W.Frag} {mg : Str → Option Value} {base : Heap}
abbrev sCall : Stmt := top 43
def spCall (P : Program) (w : World) (K : PySem.W.Frag) (mg : Str → Option Value) (base : Heap) (cw cn : Addr) : Sp := fun vs H Q _ => ∃ (M : List Addr) (ba s C pa : Addr) (pl : Bool) (n k : Nat) (rule : List (List Int)) (pres : Pres) (past : List Pres) (held pool : List Int) (zp zh zo : V),
  vs = [.ref ba, .ref s, zp, zh, .ref pa, zo] ∧ LawAt P w K mg base cw cn M H ba s C pa pl n k rule pres past held pool zp zh zo ∧ past.length < 800 ∧ Hist n k (past ++ [pres]) ∧
  ∀ pres' past' H', past'.length ≤ past.length + 1 → Hist n k (past' ++ [pres']) → LawAt P w K mg base cw cn M H' ba s C pa pl n k rule pres' past' held pool zp zh zo → Kp [ba, s, pa] H H' → Q (.bl true) H'
abbrev NCall : List Str := ["_law_bag_here", "_law_store", "_law_plan", "_law_held", "_law_past", "_law_pool", "_law_caught", "_law_result", "_law_block", "_law_later"]
theorem scCall : FnScope NCall ["_law_bag_here", "_law_store", "_law_plan", "_law_held", "_law_past", "_law_pool"] (defScope sCall) := ⟨rfl, rfl, rfl, by decide +kernel, rfl, by decide +kernel, by decide +kernel⟩
theorem ok_call {cw cn f : Addr} {fd : FuncData} (B : Bi mg) (F__law_draw : Fk P w K mg base CX0 1 "_law_draw" spDraw) (F__law_accessed : Fk P w K mg base CX0 3 "_law_accessed" (spAcc K)) (F__law_told : Fk P w K mg base CX0 11 "_law_told" (spTold P w K mg base cw cn))
    (F : Fun K "_law_call_right" "_law_call_right" sCall f fd) : FnOk P w K mg base CX0 12 f fd ["_law_bag_here", "_law_store", "_law_plan", "_law_held", "_law_past", "_law_pool"] (spCall P w K mg base cw cn) := by
  refine F.ok scCall (fun vs H Q E h => ?_) (fun cdv A outer s0 H vs Q E hr h => ?_)
  · obtain ⟨M, ba, s, C, pa, pl, n, k, rule, pres, past, held, pool, zp, zh, zo, rfl, _⟩ := h
    rfl
  · obtain ⟨M, ba, s, C, pa, pl, n, k, rule, pres, past, held, pool, zp, zh, zo, rfl, L, hpl, hist, q⟩ := h
    refine ⟨_, (pss_cons (ps_if (pt_cmpR op_eq (pe_fn (F__law_draw.mono (by decide)) hr rfl p0 (pa_cons (pv 0) (pa_cons pe_int pa_nil))) pe_int (nomark _)) (pss_cons (ps_asg (pe_fn (F__law_told.mono (by decide)) hr rfl p0 (pa_cons (pv 1) (pa_cons pe_str (pa_cons (pe_lst pa_nil) pa_nil)))) (pg_tup rfl (pgs_cons (pg_name (i := 6) scCall.nd rfl (Or.inl rfl)) (pgs_cons (pg_name (i := 7) scCall.nd rfl (Or.inl rfl)) pgs_nil))))
      (pss_cons (ps_if (pt_cmpR op_ne (pv 6) (pe_cmpR op_eq (kz_len (K := K) B (pv 4)) pe_int (nomark _)) (nomark _)) (pss_one (ps_ret pe_bl)) pss_nil)
      (pss_cons (ps_if (pt_not (pt_val (pv 6))) (pss_one (ps_expr (pe_bm0 PySem.F.plainAttrs_list PySem.F.slot_list_pop PySem.F.type_list_pop mt_pop (pv 4)))) pss_nil)
      (pss_one (ps_ret pe_bl))))) pss_nil)
      (pss_cons (ps_set (i := 8) scCall.nd rfl (Or.inl rfl) (pe_ix (kix_list (K := K)) (pv 5) (pe_fn (F__law_draw.mono (by decide)) hr rfl p0 (pa_cons (pv 0) (pa_cons (kz_len (K := K) B (pv 5)) pa_nil))) (fun _ _ => rfl)))
      (pss_cons (ps_set (i := 9) scCall.nd rfl (Or.inl rfl) (pe_fn (F__law_accessed.mono (by decide)) hr rfl p0 (pa_cons (pv 2) (pa_cons (pe_ix (kix_list (K := K)) (pv 4) (pe_un un_neg pe_int) (fun _ _ => rfl)) (pa_cons (pv 8) (pa_cons (pv 3) pa_nil))))))
      (pss_cons (ps_asg (pe_fn (F__law_told.mono (by decide)) hr rfl p0 (pa_cons (pv 1) (pa_cons pe_str (pa_cons (pe_lst (pa_cons (pv 8) pa_nil)) pa_nil)))) (pg_tup rfl (pgs_cons (pg_name (i := 6) scCall.nd rfl (Or.inl rfl)) (pgs_cons (pg_name (i := 7) scCall.nd rfl (Or.inl rfl)) pgs_nil))))
      (pss_cons (ps_if (PW.pt (pw_or (pt_cmpR op_ne (pv 6) (pe_cmp (pc_isN (pv 9))) (nomark _)) (pw_or1 (PW.pt (pw_and (pt_cmpR op_notN (pv 9) pe_non (nomark _)) (pw_and1 (pt_cmpR op_ne (pv 7) (pe_ix (kix_tup (K := K)) (pv 9) pe_int (fun _ _ => rfl)) (nomark _)))))))) (pss_one (ps_ret pe_bl)) pss_nil)
      (pss_cons (ps_if (pt_cmpR op_notN (pv 9) pe_non (nomark _)) (pss_one (ps_expr (pe_bm PySem.F.plainAttrs_list PySem.F.slot_list_append PySem.F.type_list_append mt_append (pv 4) (pa_cons (pe_ix (kix_tup (K := K)) (pv 9) pe_int (fun _ _ => rfl)) pa_nil)))) pss_nil)
      (pss_one (ps_ret pe_bl)))))))), ?_⟩
    refine ⟨_, rfl, ba, 4, rfl, L.bag, by decide, by decide, fun z H1 z0 z1 k1 b1 => ⟨rfl, _, rfl, ite2 (fun _ => ?_) (fun _ => ?_)⟩⟩
    · have L1 := L.kp k1 b1
      refine ⟨_, rfl, by show 0 ≤ sizeLine; decide, fun em hem => ?_⟩
      have s2 := same_new (o := .lst []) hem
      have L2 := L1.same s2
      have k2 : Kp [ba] H (upd H1 em (.lst [])) := kp_trans k1 (kp_same s2)
      generalize upd H1 em (.lst []) = H2 at s2 L2 k2
      have nsp : pa ≠ s := by
        obtain ⟨_, _, dx, vr, vp, vq, vk, e, _⟩ := L2.sto
        obtain ⟨ws, e2, _⟩ := L2.pastA
        intro z
        rw [z, e] at e2
        cases e2
      have sub : ∀ c ∈ [s], c ∈ M := fun c hc => by rw [List.mem_singleton.mp hc]; exact L2.sto.mem
      refine ⟨M, s, C, pl, rule, pres, past, kset held, n, k, "undo", .ref em, rfl, L2.occ, L2.tl, L2.sto, L2.all, by omega, .inr (.inr ⟨rfl, fun hp v H3 s3 dv => ?_, fun qa p hp v H3 k3 hM3 S3 dv => ?_⟩)⟩
      · subst hp
        obtain ⟨t, a, b, rfl, ht, da, db⟩ := dp_two dv
        obtain rfl := dp_bl da
        obtain rfl := dp_non db
        refine ⟨t, _, rfl, seqT_mono off_same ht, rfl, _, _, rfl, _, _, rfl, rfl, ?_⟩
        have L3 := L2.same s3
        obtain ⟨ws, e4, dws⟩ := L3.pastA
        have hlw : ws.length = 1 := by rw [dps_len dws]; rfl
        refine ⟨_, rfl, _, rfl, pa, _, rfl, .inl (.of e4), rfl, rfl, _, rfl, iteNS (by rw [hlw]; rfl) ?_⟩
        refine ⟨_, rfl, true, rfl, iteF ?_⟩
        exact q pres [] H3 (by simp) hist L3 (kp_mono (kp_trans k2 (kp_same s3)) fun c hc => by rw [List.mem_singleton.mp hc]; simp)
      · subst hp
        obtain ⟨t, a, b, rfl, ht, da, db⟩ := dp_two dv
        obtain rfl := dp_bl da
        obtain rfl := dp_non db
        refine ⟨t, _, rfl, seqT_mono off_same ht, rfl, _, _, rfl, _, _, rfl, rfl, ?_⟩
        obtain ⟨wsA, e4, dws⟩ := L2.pastA
        rw [List.map_append] at dws
        obtain ⟨ws, wl, rfl, dws, dwl⟩ := dps_snoc dws
        have e5 := k3 _ _ e4 (by simp [nsp])
        have hlw : (ws ++ [wl]).length ≠ 1 := by
          rw [List.length_append, dps_len dws, List.length_map, List.length_append]
          simp
        have hde : decide (V.int ((ws ++ [wl]).length : Nat) = V.int 1) = false := decide_eq_false fun z => hlw (by injection z with z; omega)
        refine ⟨_, rfl, _, rfl, pa, _, rfl, .inl (.of e5), rfl, rfl, _, rfl, iteNS (by rw [hde]) ?_⟩
        refine ⟨_, rfl, false, rfl, iteT ?_⟩
        refine ⟨_, rfl, .inl ⟨rfl, _, .of e5⟩, pa, _, wl, rfl, rfl, e5, by simp, ?_⟩
        have hdl : (ws ++ [wl]).dropLast = ws := by simp
        rw [hdl]
        have o3 := kp_off (S := M) k3 sub
        have k6 : Kp [pa] H3 (upd H3 pa (.lst ws)) := kp_in List.mem_cons_self
        have subp : ∀ c ∈ [pa], c ∈ M := fun c hc => by rw [List.mem_singleton.mp hc]; exact L.mp
        have o6 := kp_off (S := M) k6 subp
        have h2 := hist.init
        refine q p qa _ (by simp; omega) h2 ⟨occ_upd hM3, L.mb, L.mp, ?_, L2.tl, S3.kp k6 subp (by simp [Ne.symm nsp]), ⟨⟨L2.all.ok.rule, h2.last.1, L2.all.ok.n0, L2.all.ok.n64, L2.all.ok.k1, L2.all.ok.k64⟩, L2.all.lo, L2.all.hi, L2.all.kept⟩, by simp at hpl; omega, ⟨ws, upd_same, (dws.up o3).up o6⟩, L.nbp, (L2.planD.up o3).up o6, (L2.heldD.up o3).up o6, L.hlen, (L2.poolD.up o3).up o6, L.pblk, L.plen, L.ppos⟩ ?_
        · exact (L2.bag.kp k3 (by simp [L.bs])).kp k6 (by simp [L.nbp])
        · exact kp_trans (kp_mono k2 fun c hc => by rw [List.mem_singleton.mp hc]; simp) (kp_trans (kp_mono k3 fun c hc => by rw [List.mem_singleton.mp hc]; simp) (kp_mono k6 fun c hc => by rw [List.mem_singleton.mp hc]; simp))
    · have L1 := L.kp k1 b1
      obtain ⟨ap, rfl, hap⟩ := dI_open L1.poolD
      have hap1 := seqL_mono off_same hap
      have hp0 := L.ppos
      have hp64 := L.plen
      refine ⟨_, rfl, _, rfl, _, rfl, ap, _, rfl, .inl hap1, ba, _, rfl, b1, by rw [List.length_map]; omega, by rw [List.length_map]; omega, fun y H2 y0 y1 k2 b2 => ?_⟩
      rw [List.length_map] at y1
      have L2 := L1.kp k2 b2
      have hy : y.toNat < pool.length := by omega
      have ey : pool[y.toNat]? = some (pool[y.toNat]) := List.getElem?_eq_getElem hy
      have hat : atI (pool.map V.int) y = some (.int (pool[y.toNat])) := by
        have := ints_at ey
        rw [Int.toNat_of_nonneg y0] at this
        exact this
      obtain ⟨ap2, hap2e, hap2⟩ := dI_open L2.poolD
      cases hap2e
      have hblk := L.pblk _ (List.getElem_mem hy)
      generalize pool[y.toNat] = b at hat hblk
      refine ⟨ap, _, _, _, rfl, rfl, seqL_mono off_same hap2, hat, ?_⟩
      obtain ⟨wsA, e4, dws⟩ := L2.pastA
      have dws0 := dws
      rw [List.map_append] at dws
      obtain ⟨ws, wl, rfl, dws, dwl⟩ := dps_snoc dws
      refine ⟨_, rfl, _, rfl, _, rfl, pa, _, _, _, rfl, rfl, .of e4, atI_last ws wl, _, rfl, _, rfl, M, zp, wl, zh, rule, pres, held, b, n, k, rfl, L2.occ, dp_here L2.planD, dwl, dp_here L2.heldD, L2.all.ok, fun y9 H3 s3 dy => ?_⟩
      have L3 := L2.same s3
      refine ⟨_, rfl, _, rfl, by show 1 ≤ sizeLine; decide, fun em hem => ?_⟩
      have s4 := same_new (o := .lst [V.int b]) hem
      have L4 := L3.same s4
      have dy4 := dy.up (same_off s4)
      have k4 : Kp [ba] H (upd H3 em (.lst [V.int b])) := kp_trans (kp_trans k1 k2) (kp_same (s3.trans s4))
      have eem : upd H3 em (.lst [V.int b]) em = some (.lst [V.int b]) := upd_same
      have e44 := s4 _ _ (s3 _ _ e4)
      have dws4 := dws.up (same_off (s3.trans s4))
      have dwl4 := dwl.up (same_off (s3.trans s4))
      generalize upd H3 em (.lst [V.int b]) = H4 at L4 dy4 k4 eem e44 dws4 dwl4
      have nsp : pa ≠ s := by
        obtain ⟨_, _, dx, vr, vp, vq, vk, e, _⟩ := L4.sto
        intro z
        rw [z, e] at e44
        cases e44
      have sub : ∀ c ∈ [s], c ∈ M := fun c hc => by rw [List.mem_singleton.mp hc]; exact L4.sto.mem
      have hak := acc_kset rule held pres b
      refine ⟨M, s, C, pl, rule, pres, past, kset held, n, k, "access", .ref em, rfl, L4.occ, L4.tl, L4.sto, L4.all, by omega, .inl ⟨rfl, b, dI_mk (.of eem), hblk.1, hblk.2, fun hn v H5 s5 dv => ?_, fun o p hs v H5 k5 hM5 S5 dv => ?_⟩⟩
      · rw [hak] at hn
        rw [hn] at dy4
        obtain rfl := dp_non dy4
        obtain ⟨t, a, b', rfl, ht, da, db⟩ := dp_two dv
        obtain rfl := dp_bl da
        obtain rfl := dp_non db
        refine ⟨t, _, rfl, seqT_mono off_same ht, rfl, _, _, rfl, _, _, rfl, rfl, ?_⟩
        refine ⟨_, rfl, _, rfl, rfl, _, rfl, iteNS rfl ?_⟩
        refine ⟨_, rfl, rfl, false, rfl, iteF (iteF ?_)⟩
        refine ⟨_, rfl, rfl, false, rfl, iteF ?_⟩
        exact q pres past H5 (by omega) hist (L4.same s5) (kp_mono (kp_trans k4 (kp_same s5)) fun c hc => by rw [List.mem_singleton.mp hc]; simp)
      · rw [hak] at hs
        rw [hs] at dy4
        obtain ⟨ho, hpp⟩ := acc_some hs
        obtain ⟨ty, y1', y2', rfl, hty, dy1, dy2⟩ := dp_two dy4
        obtain rfl := dp_bl dy1
        obtain ⟨t, a, b', rfl, ht, da, db⟩ := dp_two dv
        obtain rfl := dp_bl da
        obtain rfl := dp_bl db
        refine ⟨t, _, rfl, seqT_mono off_same ht, rfl, _, _, rfl, _, _, rfl, rfl, ?_⟩
        have o5 := kp_off (S := M) k5 sub
        have hty5 := seqT_mono off_same (seqT_mono o5 hty)
        refine ⟨_, rfl, _, rfl, rfl, _, rfl, iteNS rfl ?_⟩
        refine ⟨_, rfl, rfl, true, rfl, iteT ⟨_, rfl, _, rfl, ty, _, _, _, rfl, rfl, hty5, (show atI [V.bl o, y2'] 0 = some (V.bl o) from rfl), rfl, _, rfl, iteNS rfl ?_⟩⟩
        have e5 := k5 _ _ e44 (by simp [nsp])
        refine ⟨_, rfl, rfl, true, rfl, iteT ⟨_, rfl, .inl ⟨rfl, _, .of e5⟩, _, rfl, ty, _, _, _, rfl, rfl, hty5, (show atI [V.bl o, y2'] 1 = some y2' from rfl), pa, _, _, rfl, rfl, e5, ?_, ?_⟩⟩
        · rw [List.length_append, dps_len dws4, List.length_map]
          exact Nat.lt_of_le_of_lt (show past.length + 1 ≤ 1000 by omega) (by decide)
        have subp : ∀ c ∈ [pa], c ∈ M := fun c hc => by rw [List.mem_singleton.mp hc]; exact L.mp
        have k6 : Kp [pa] H5 (upd H5 pa (.lst (ws ++ [wl] ++ [y2']))) := kp_in List.mem_cons_self
        have o6 := kp_off (S := M) k6 subp
        have hnx : PresOk n k p ∧ tot p = (past ++ [pres]).length := by
          rw [hpp]
          refine ⟨nxt_ok L4.all.ok.rule L4.all.ok.pres L4.all.ok.n0 L4.all.ok.k1 hblk, ?_⟩
          rw [nxt_tot (by rw [L4.all.ok.pres.len]; exact L4.all.ok.n0), hist.last.2, List.length_append]
          simp
        refine q p (past ++ [pres]) _ (by simp) (hist.add hnx.1 hnx.2) ⟨occ_upd hM5, L.mb, L.mp, ?_, L4.tl, S5.kp k6 subp (by simp [Ne.symm nsp]), ⟨⟨L4.all.ok.rule, hnx.1, L4.all.ok.n0, L4.all.ok.n64, L4.all.ok.k1, L4.all.ok.k64⟩, L4.all.lo, L4.all.hi, L4.all.kept⟩, by simp; omega, ⟨_, upd_same, ?_⟩, L.nbp, (L4.planD.up o5).up o6, (L4.heldD.up o5).up o6, L.hlen, (L4.poolD.up o5).up o6, L.pblk, L.plen, L.ppos⟩ ?_
        · exact (L4.bag.kp k5 (by simp [L.bs])).kp k6 (by simp [L.nbp])
        · rw [List.map_append, List.map_append]
          exact dps_app (dps_app ((dws4.up o5).up o6) (dps_one ((dwl4.up o5).up o6))) (dps_one ((dy2.up o5).up o6))
        · exact kp_trans (kp_mono k4 fun c hc => by rw [List.mem_singleton.mp hc]; simp) (kp_trans (kp_mono k5 fun c hc => by rw [List.mem_singleton.mp hc]; simp) (kp_mono k6 fun c hc => by rw [List.mem_singleton.mp hc]; simp))
end
end GN

/-! part D22 -/
set_option Elab.async false
set_option linter.all false
set_option maxRecDepth 100000
set_option maxHeartbeats 4000000
namespace GN
open PySem PySem.Spec L2
open PyProof.Rows hiding St

section
variable {P : Program} {w : World} {K : PySem.W.Frag} {mg : Str → Option Value} {base : Heap}
/-- the class of a kind, its marks: no kept blocks; counts by set; keeps -/
def Knd (c0 c1 c2 c3 : Addr) (kd : Str) (C : Addr) (pl cnt kpg : Bool) : Prop :=
  (kd = "plain" ∧ C = c0 ∧ pl = true ∧ cnt = false ∧ kpg = false) ∨ (kd = "counting" ∧ C = c1 ∧ pl = true ∧ cnt = true ∧ kpg = false) ∨
  (kd = "keeping" ∧ C = c2 ∧ pl = false ∧ cnt = false ∧ kpg = true) ∨ (kd = "both" ∧ C = c3 ∧ pl = false ∧ cnt = true ∧ kpg = true)
structure MkAll (P : Program) (w : World) (K : PySem.W.Frag) (mg : Str → Option Value) (base : Heap) (c0 c1 c2 c3 : Addr) : Prop where
  m0 : MkP0 P w K mg base "Cache" c0
  m1 : MkP0 P w K mg base "CountingCache" c1
  m2 : MkK0 P w K mg base "KeepingCache" c2
  m3 : MkK0 P w K mg base "CountingKeepingCache" c3
  s0 : SC K c0
  s1 : SC K c1
  s2 : SC K c2
  s3 : SC K c3
abbrev sMade : Stmt := top 44
def spMade (K : PySem.W.Frag) (c0 c1 c2 c3 : Addr) : Sp := fun vs H Q _ => ∃ (M : List Addr) (kd : Str) (C : Addr) (pl cnt kpg : Bool) (zp zl zh : V) (rule rows : List (List Int)) (held : List Int) (k : Nat), vs = [.str kd, zp, zl, zh] ∧ Occ M H ∧ Knd c0 c1 c2 c3 kd C pl cnt kpg ∧
  Dp K (Off M H) zp (dRule rule) ∧ Dp K (Off M H) zl (dRows rows) ∧ Dp K (Off M H) zh (dI held) ∧ InitOk k rule rows ∧ BlkAll held ∧ held.length < 64 ∧ (kpg = false → held = []) ∧
  ∀ t H', H t = none → Same H H' → Occ (t :: M) H' → Sto K (t :: M) H' t C rule (pres0 rows) [] (kset held) → Q (.ref t) H'
abbrev NMade : List Str := ["_law_kind", "_law_plan", "_law_lines", "_law_held"]
theorem scMade : FnScope NMade NMade (defScope sMade) := ⟨rfl, rfl, rfl, by decide +kernel, rfl, by decide +kernel, by decide +kernel⟩
theorem ok_made {c0 c1 c2 c3 f : Addr} {fd : FuncData} (MA : MkAll P w K mg base c0 c1 c2 c3) (F : Fun K "_law_made" "_law_made" sMade f fd) : FnOk P w K mg base CX0 8 f fd NMade (spMade K c0 c1 c2 c3) := by
  obtain ⟨f0, fd0, MK0, F0, b0⟩ := MA.m0.ex
  obtain ⟨f1, fd1, MK1, F1, b1⟩ := MA.m1.ex
  obtain ⟨D2, g2, f2, fd2, mro2, sup2, MK2, F2, b2⟩ := MA.m2.ex
  obtain ⟨D3, g3, f3, fd3, mro3, sup3, MK3, F3, b3⟩ := MA.m3.ex
  refine F.ok scMade (fun vs H Q E h => ?_) (fun cdv A outer s0 H vs Q E hr h => ?_)
  · obtain ⟨M, kd, C, pl, cnt, kpg, zp, zl, zh, rule, rows, held, k, rfl, _⟩ := h
    rfl
  · obtain ⟨M, kd, C, pl, cnt, kpg, zp, zl, zh, rule, rows, held, k, rfl, hM, KD, hp, hl, hh, ok, hb, h64, hkp, q⟩ := h
    refine ⟨_, (pss_cons (ps_if (pt_cmpR op_eq (pv 0) pe_str (nomark _)) (pss_one (ps_ret (pe_make MK0 F0 (hr.mono (by decide)) rfl MA.m0.g b0 .nil pass0 (pa_cons (pv 1) (pa_cons (pv 2) pa_nil))))) pss_nil)
      (pss_cons (ps_if (pt_cmpR op_eq (pv 0) pe_str (nomark _)) (pss_one (ps_ret (pe_make MK1 F1 (hr.mono (by decide)) rfl MA.m1.g b1 .nil pass0 (pa_cons (pv 1) (pa_cons (pv 2) pa_nil))))) pss_nil)
      (pss_cons (ps_if (pt_cmpR op_eq (pv 0) pe_str (nomark _)) (pss_one (ps_ret (pe_makeK (n := 2) MK2 F2 (hr.mono (by decide)) rfl MA.m2.g b2 pass0 (pa_cons (pv 1) (pa_cons (pv 2) pa_nil)) (pk_cons (pv 3) pk_nil)))) pss_nil)
      (pss_one (ps_ret (pe_makeK (n := 2) MK3 F3 (hr.mono (by decide)) rfl MA.m3.g b3 pass0 (pa_cons (pv 1) (pa_cons (pv 2) pa_nil)) (pk_cons (pv 3) pk_nil))))))), ?_⟩
    have plain : ∀ (C0 : Addr), SC K C0 → (∀ t H', H t = none → Same H H' → Occ (t :: M) H' → Sto K (t :: M) H' t C0 rule (pres0 rows) [] (kset held) → Q (.ref t) H') → held = [] → ∀ t dt, H t = none → H dt = none → dt ≠ t →
        spInit K (.ref t :: ([zp, zl] ++ [])) (upd (upd H dt (.own t)) t (.ins C0 dt [])) (fun v H2 => v = .non ∧ Q (.ref t) H2) (fun _ _ _ => False) := fun C0 sc q0 he t dt ht hdt hne => by
      have sm := made_same (C := C0) ht hdt hne
      have o2 : Same (Off M H) (Off (t :: M) (upd (upd H dt (.own t)) t (.ins C0 dt []))) := same_offD sm ht
      refine ⟨t :: M, t, C0, dt, zp, zl, rule, rows, k, rfl, List.mem_cons_self, occ_cons (occ_kp hM sm) upd_same, upd_same, sc, hp.up o2, hl.up o2, ok, fun H' k' hM' S' => ⟨rfl, q0 t H' ht (same_kp1 sm ht k') hM' ?_⟩⟩
      rw [he]
      exact S'
    have keep : ∀ (C0 D g : Addr), SC K C0 → PySem.W.mroIn K C0 (.ref D) = some true → PySem.W.ks_superIn K C0 D "__init__" = some (some (.ref g)) → (∀ t H', H t = none → Same H H' → Occ (t :: M) H' → Sto K (t :: M) H' t C0 rule (pres0 rows) [] (kset held) → Q (.ref t) H') → ∀ t dt, H t = none → H dt = none → dt ≠ t →
        spKInit K D g ((.ref t :: [zp, zl]) ++ [zh]) (upd (upd H dt (.own t)) t (.ins C0 dt [])) (fun v H2 => v = .non ∧ Q (.ref t) H2) (fun _ _ _ => False) := fun C0 D g sc hmro hsup q0 t dt ht hdt hne => by
      have sm := made_same (C := C0) ht hdt hne
      have o2 : Same (Off M H) (Off (t :: M) (upd (upd H dt (.own t)) t (.ins C0 dt []))) := same_offD sm ht
      exact ⟨t :: M, t, C0, dt, zp, zl, zh, rule, rows, held, k, rfl, List.mem_cons_self, occ_cons (occ_kp hM sm) upd_same, upd_same, sc, hmro, hsup, hp.up o2, hl.up o2, ok, hh.up o2, hb, h64, fun H' k' hM' S' => ⟨rfl, q0 t H' ht (same_kp1 sm ht k') hM' S'⟩⟩
    rcases KD with ⟨rfl, rfl, rfl, rfl, rfl⟩ | ⟨rfl, rfl, rfl, rfl, rfl⟩ | ⟨rfl, rfl, rfl, rfl, rfl⟩ | ⟨rfl, rfl, rfl, rfl, rfl⟩
    · exact ⟨_, rfl, rfl, _, rfl, strT rfl ⟨_, rfl, _, rfl, plain _ MA.s0 q (hkp rfl)⟩⟩
    · exact ⟨_, rfl, rfl, _, rfl, strF (by decide +kernel) ⟨_, rfl, rfl, _, rfl, strT rfl ⟨_, rfl, _, rfl, plain _ MA.s1 q (hkp rfl)⟩⟩⟩
    · exact ⟨_, rfl, rfl, _, rfl, strF (by decide +kernel) ⟨_, rfl, rfl, _, rfl, strF (by decide +kernel) ⟨_, rfl, rfl, _, rfl, strT rfl ⟨_, rfl, _, rfl, _, rfl, rfl, rfl, keep _ _ _ MA.s2 mro2 sup2 q⟩⟩⟩⟩
    · exact ⟨_, rfl, rfl, _, rfl, strF (by decide +kernel) ⟨_, rfl, rfl, _, rfl, strF (by decide +kernel) ⟨_, rfl, rfl, _, rfl, strF (by decide +kernel) ⟨_, rfl, _, rfl, _, rfl, rfl, rfl, keep _ _ _ MA.s3 mro3 sup3 q⟩⟩⟩⟩
end
end GN

/-! part D23 -/
set_option Elab.async false
set_option linter.all false
set_option maxRecDepth 100000
set_option maxHeartbeats 4000000
namespace GN
open PySem PySem.Spec L2
open PyProof.Rows hiding St

theorem row_mk {p : List Int} {k sides side : Nat} (hp : IsP p k) (hs : side < sides) (h4 : sides ≤ 4) (hk : k ≤ 12) : RowOk sides side k (p.map fun x => (side : Int) + sides * x) := by
  refine ⟨by rw [List.length_map, hp.len], ?_, fun y hy => ?_⟩
  · refine List.pairwise_map.mpr (hp.nd.imp fun {a b} hab e => hab ?_)
    have h1 : (sides : Int) * a = sides * b := by omega
    exact Int.eq_of_mul_eq_mul_left (by omega) h1
  · obtain ⟨x, hx, rfl⟩ := List.mem_map.mp hy
    obtain ⟨x0, x1⟩ := hp.rg x hx
    have b0 : 0 ≤ (sides : Int) * x := Int.mul_nonneg (by omega) x0
    have b1 : (sides : Int) * x ≤ 4 * 12 := Int.mul_le_mul (by omega) (by omega) x0 (by decide)
    refine ⟨by omega, by omega, ?_⟩
    rw [Int.add_mul_emod_self_left]
    exact Int.emod_eq_of_lt (by omega) (by omega)
theorem pres0_tot (rows : List (List Int)) : tot (pres0 rows) = 0 := by
  unfold tot hitsOf missOf pres0
  rw [List.map_map, List.map_map]
  induction rows with
  | nil => rfl
  | cons r rs ih => simpa using ih
theorem rep_flat (n : Nat) (v : V) : (List.replicate n [v]).flatten = List.replicate n v := by
  induction n with
  | zero => rfl
  | succ n ih => rw [List.replicate_succ, List.flatten_cons, ih]; rfl
theorem dps_rep {α : Type} {K : PySem.W.Frag} {H : Hp} {v : V} {f : α → PyData} (h : ∀ x, Dp K H v (f x)) : ∀ xs : List α, DpAll K H (List.replicate xs.length v) (xs.map f)
  | [] => .nil
  | x :: r => .cons (h x) (dps_rep h r)
section
variable {X : Cx} {CX : CXT} {k : Nat} {sp : Sp} {E : St → XK} {m : Str} {pos apos : Pos} {o : Expr} {ta : TE}
/-- o.m(), whose class is known at the call -/
theorem pe_mt0E {pl : Sem Bool} (he : PE X o ta) (hr : Room k X.A) (hx : ∀ σ, PassesAt CX X σ (E σ))
    (ht : eval (.Call (.Attribute o m apos) [] [] pos) X.env = (do
      let ov ← eval o X.env
      standAt apos.atName
      let (f, first) ← holding [ov] (getMethod ov m pl)
      callWith pos f first (backTo pos (starEach [] X.env)) (backToKw pos (keywordEach [] X.env))) := by rfl) :
    PE X (.Call (.Attribute o m apos) [] [] pos) (fun σ H Q => ∃ C, Cls X.K C ∧ Mk2 X.prog X.w X.K X.mg X.base CX k C m sp ∧ tMt C m sp E ta tNil σ H Q) :=
  ⟨fun pins s σ H Q I h => by
    obtain ⟨C, c, M, h⟩ := h
    exact (pe_mt0 he c M hr hx ht).run pins s σ H Q I h⟩
theorem op_eqOE (hr : Room k X.A) : OpR X (compareOp .Eq) (fun x y H Q => ∃ C, Eq2 X.prog X.w X.K X.mg X.base k C sp ∧ rEqO C sp false x y H Q) := by
  intro pins s σ H x y v u Q I rx ry h
  obtain ⟨C, L, h⟩ := h
  exact op_eqO L hr pins s σ H x y v u Q I rx ry h
theorem op_neOE (hr : Room (k + 1) X.A) : OpR X (compareOp .NotEq) (fun x y H Q => ∃ C, Eq2 X.prog X.w X.K X.mg X.base k C sp ∧ rEqO C sp true x y H Q) := by
  intro pins s σ H x y v u Q I rx ry h
  obtain ⟨C, L, h⟩ := h
  exact op_neO L hr pins s σ H x y v u Q I rx ry h
end
section
variable {P : Program} {w : World} {K : PySem.W.Frag} {mg : Str → Option Value} {base : Heap}
theorem LawAt.more {cw cn : Addr} {M : List Addr} {H H' : Hp} {ba s C pa p : Addr} {pl : Bool} {n k : Nat} {rule : List (List Int)} {pres : Pres} {past : List Pres} {held pool : List Int} {zp zh zo : V} (L : LawAt P w K mg base cw cn M H ba s C pa pl n k rule pres past held pool zp zh zo) (h : Same H H') (hn : H p = none) (hO : Occ (p :: M) H') :
    LawAt P w K mg base cw cn (p :: M) H' ba s C pa pl n k rule pres past held pool zp zh zo := by
  have o := same_offD (M := M) h hn
  obtain ⟨ws, h1, h2⟩ := L.pastA
  exact ⟨hO, List.mem_cons_of_mem _ L.mb, List.mem_cons_of_mem _ L.mp, L.bag.same h, L.tl, L.sto.more h hn, L.all, L.len, ⟨ws, h _ _ h1, h2.up o⟩, L.nbp, L.planD.up o, L.heldD.up o, L.hlen, L.poolD.up o, L.pblk, L.plen, L.ppos⟩
theorem LawAt.kpx {cw cn : Addr} {M : List Addr} {H H' : Hp} {ba s C pa x : Addr} {pl : Bool} {n k : Nat} {rule : List (List Int)} {pres : Pres} {past : List Pres} {held pool : List Int} {zp zh zo : V} (L : LawAt P w K mg base cw cn M H ba s C pa pl n k rule pres past held pool zp zh zo) (h : Kp [x] H H') (hx : x ∈ M) (hO : Occ M H') (n1 : ba ≠ x) (n2 : s ≠ x) (n3 : pa ≠ x) :
    LawAt P w K mg base cw cn M H' ba s C pa pl n k rule pres past held pool zp zh zo := by
  have sub : ∀ c ∈ [x], c ∈ M := fun c hc => by rw [List.mem_singleton.mp hc]; exact hx
  have o := kp_off (S := M) h sub
  obtain ⟨ws, h1, h2⟩ := L.pastA
  exact ⟨hO, L.mb, L.mp, L.bag.kp h (by simp [n1]), L.tl, L.sto.kp h sub (by simp [n2]), L.all, L.len, ⟨ws, h _ _ h1 (by simp [n3]), h2.up o⟩, L.nbp, L.planD.up o, L.heldD.up o, L.hlen, L.poolD.up o, L.pblk, L.plen, L.ppos⟩
structure ClsAll (P : Program) (w : World) (K : PySem.W.Frag) (mg : Str → Option Value) (base : Heap) (cc cw cn C : Addr) (pl cnt kpg : Bool) : Prop where
  tl : TlC P w K mg base C cw cn pl
  rd : RdC P w K mg base C cnt kpg
  ec : EqC K C cc
  eq : Eq2 P w K mg base 1 C (spEq K cc)
theorem knd_kd {c0 c1 c2 c3 : Addr} {kd : Str} {C : Addr} {pl cnt kpg : Bool} (h : Knd c0 c1 c2 c3 kd C pl cnt kpg) : KdC kd cnt kpg ∧ kpg = !pl := by
  rcases h with ⟨rfl, rfl, rfl, rfl, rfl⟩ | ⟨rfl, rfl, rfl, rfl, rfl⟩ | ⟨rfl, rfl, rfl, rfl, rfl⟩ | ⟨rfl, rfl, rfl, rfl, rfl⟩ <;>
    exact ⟨⟨by decide +kernel, by decide +kernel⟩, rfl⟩
theorem knd_ex (c0 c1 c2 c3 : Addr) {z : Int} (h0 : 0 ≤ z) (h1 : z < 4) : ∃ kd C pl cnt kpg, Knd c0 c1 c2 c3 kd C pl cnt kpg ∧ atI [V.str "plain", V.str "counting", V.str "keeping", V.str "both"] z = some (.str kd) := by
  have hz : z = 0 ∨ z = 1 ∨ z = 2 ∨ z = 3 := by omega
  rcases hz with rfl | rfl | rfl | rfl
  · exact ⟨_, _, _, _, _, .inl ⟨rfl, rfl, rfl, rfl, rfl⟩, rfl⟩
  · exact ⟨_, _, _, _, _, .inr (.inl ⟨rfl, rfl, rfl, rfl, rfl⟩), rfl⟩
  · exact ⟨_, _, _, _, _, .inr (.inr (.inl ⟨rfl, rfl, rfl, rfl, rfl⟩)), rfl⟩
  · exact ⟨_, _, _, _, _, .inr (.inr (.inr ⟨rfl, rfl, rfl, rfl, rfl⟩)), rfl⟩
abbrev sRight : Stmt := top 45
abbrev cL : Expr := asgVal ((defBody sRight).getD 2 (.Pass ⟨0, 0, 0, 0⟩))
def spRight : Sp := fun vs H Q _ => ∃ ba, vs = [.ref ba] ∧ BagAt H ba ∧ ∀ H', Kp [ba] H H' → Q (.bl true) H'
abbrev NRt : List Str := ["_law_bag_here", "_law_many", "_law_sides", "_law_plan", "_law_lines", "_law_kind", "_law_pool", "_law_held", "_law_store", "_law_past", "_law_k", "_law_other", "_law_gone_one", "_law_result", "_law_side", "_law_spot"]
theorem scRight : FnScope NRt ["_law_bag_here"] (defScope sRight) := ⟨rfl, rfl, rfl, by decide +kernel, rfl, by decide +kernel, by decide +kernel⟩
theorem ok_right {cc cw cn c0 c1 c2 c3 f : Addr} {fd : FuncData} (B : Bi mg) (F__law_draw : Fk P w K mg base CX0 1 "_law_draw" spDraw) (F__law_shuffle : Fk P w K mg base CX0 2 "_law_shuffle" (spShuffle K)) (F__law_some_rule : Fk P w K mg base CX0 3 "_law_some_rule" (spRule K))
    (F__law_made : Fk P w K mg base CX0 8 "_law_made" (spMade K c0 c1 c2 c3)) (F__law_call_right : Fk P w K mg base CX0 12 "_law_call_right" (spCall P w K mg base cw cn)) (F__law_trial_right : Fk P w K mg base CX0 12 "_law_trial_right" (spTrial P w K mg base cw cn))
    (F__law_state_right : Fk P w K mg base CX0 4 "_law_state_right" (spState P w K mg base)) (F__law_told : Fk P w K mg base CX0 11 "_law_told" (spTold P w K mg base cw cn)) (CA : ∀ {kd C pl cnt kpg}, Knd c0 c1 c2 c3 kd C pl cnt kpg → ClsAll P w K mg base cc cw cn C pl cnt kpg)
    (F : Fun K "_law_right" "_law_right" sRight f fd) : FnOk P w K mg base CX0 13 f fd ["_law_bag_here"] spRight := by
  refine F.ok scRight (fun vs H Q E h => ?_) (fun cdv A outer s0 H vs Q E hr h => ?_)
  · obtain ⟨ba, rfl, _⟩ := h
    rfl
  · obtain ⟨ba, rfl, hB, q⟩ := h
    refine ⟨_, (pss_cons (ps_asg (pe_tup (pa_cons (pe_op op_add pe_int (pe_fn (F__law_draw.mono (by decide)) hr rfl p0 (pa_cons (pv 0) (pa_cons pe_int pa_nil)))) (pa_cons (pe_op op_add pe_int (pe_fn (F__law_draw.mono (by decide)) hr rfl p0 (pa_cons (pv 0) (pa_cons pe_int pa_nil)))) pa_nil))) (pg_tup rfl (pgs_cons (pg_name (i := 1) scRight.nd rfl (Or.inr rfl)) (pgs_cons (pg_name (i := 2) scRight.nd rfl (Or.inr rfl)) pgs_nil))))
      (pss_cons (ps_set (i := 3) scRight.nd rfl (Or.inl rfl) (pe_fn (F__law_some_rule.mono (by decide)) hr rfl p0 (pa_cons (pv 0) (pa_cons (pv 1) pa_nil))))
      (pss_cons (ps_setLc (i := 4) (own := [("_law_side", 14)]) (g := gName 14) (tt := tYes) rfl scRight.nd rfl rfl (sw_true rfl rfl rfl (by decide +kernel)) (pi_range1 rfl B.range (pa_cons (pv 2) pa_nil)) (blkOk_by (N := ["_law_bag_here", "_law_many", "_law_sides", "_law_plan", "_law_lines", "_law_kind", "_law_pool", "_law_held", "_law_store", "_law_past", "_law_k", "_law_other", "_law_gone_one", "_law_result", "_law_side", "_law_spot"]) (sc := defScope sRight) (by decide +kernel)) (fun _ _ _ _ _ => (pg_name (i := 14) scRight.nd rfl (Or.inr rfl))) (fun _ _ _ _ _ => pts_nil) (fun _ _ _ _ _ => (pe_lc (own := [("_law_spot", 15)]) (g := gName 15) (tt := tYes) rfl scRight.nd (kpi_list (K := K) (pe_fn (F__law_shuffle.mono (by decide)) hr rfl p0 (pa_cons (pv 0) (pa_cons (pv 1) pa_nil)))) (blkOk_by (N := ["_law_bag_here", "_law_many", "_law_sides", "_law_plan", "_law_lines", "_law_kind", "_law_pool", "_law_held", "_law_store", "_law_past", "_law_k", "_law_other", "_law_gone_one", "_law_result", "_law_side", "_law_spot"]) (sc := { kind := .function, names := [(".0", .local), ("_law_side", .cell), ("_law_shuffle", .globalImplicit), ("_law_bag_here", .cell), ("_law_many", .cell), ("_law_sides", .cell)], isGenerator := false, isCoroutine := false }) (by decide +kernel)) (fun _ _ _ _ _ => (pg_name (i := 15) scRight.nd rfl (Or.inl rfl))) (fun _ _ _ _ _ => pts_nil) (fun _ _ _ _ _ => (pe_op op_add (pv 14) (pe_op op_mul (pv 2) (pv 15)))))))
      (pss_cons (ps_set (i := 5) scRight.nd rfl (Or.inl rfl) (pe_ix (kix_list (K := K)) (pe_lst (pa_cons pe_str (pa_cons pe_str (pa_cons pe_str (pa_cons pe_str pa_nil))))) (pe_fn (F__law_draw.mono (by decide)) hr rfl p0 (pa_cons (pv 0) (pa_cons pe_int pa_nil))) (fun _ _ => rfl)))
      (pss_cons (ps_set (i := 6) scRight.nd rfl (Or.inr rfl) (pe_lc (own := [("_law_k", 10)]) (g := gName 10) (tt := tYes) rfl scRight.nd (pi_range1 rfl B.range (pa_cons pe_int pa_nil)) (blkOk_by (N := ["_law_bag_here", "_law_many", "_law_sides", "_law_plan", "_law_lines", "_law_kind", "_law_pool", "_law_held", "_law_store", "_law_past", "_law_k", "_law_other", "_law_gone_one", "_law_result", "_law_side", "_law_spot"]) (sc := defScope sRight) (by decide +kernel)) (fun _ _ _ _ _ => (pg_name (i := 10) scRight.nd rfl (Or.inl rfl))) (fun _ _ _ _ _ => pts_nil) (fun _ _ _ _ _ => (pe_fn (F__law_draw.mono (by decide)) hr rfl p0 (pa_cons (pv 0) (pa_cons (pe_op op_mul (pv 2) (pe_op op_add (pv 1) pe_int)) pa_nil))))))
      (pss_cons (ps_set (i := 7) scRight.nd rfl (Or.inl rfl) (pe_ifExp (pt_cmpR (kop_in (K := K)) (pv 5) (pe_lst (pa_cons pe_str (pa_cons pe_str pa_nil))) rfl) (pe_lc (own := [("_law_k", 10)]) (g := gName 10) (tt := tYes) rfl scRight.nd (pi_range1 rfl B.range (pa_cons (pe_fn (F__law_draw.mono (by decide)) hr rfl p0 (pa_cons (pv 0) (pa_cons pe_int pa_nil))) pa_nil)) (blkOk_by (N := ["_law_bag_here", "_law_many", "_law_sides", "_law_plan", "_law_lines", "_law_kind", "_law_pool", "_law_held", "_law_store", "_law_past", "_law_k", "_law_other", "_law_gone_one", "_law_result", "_law_side", "_law_spot"]) (sc := defScope sRight) (by decide +kernel)) (fun _ _ _ _ _ => (pg_name (i := 10) scRight.nd rfl (Or.inl rfl))) (fun _ _ _ _ _ => pts_nil) (fun _ _ _ _ _ => (pe_ix (kix_list (K := K)) (pv 6) (pe_fn (F__law_draw.mono (by decide)) hr rfl p0 (pa_cons (pv 0) (pa_cons pe_int pa_nil))) (fun _ _ => rfl)))) (pe_lst pa_nil)))
      (pss_cons (ps_set (i := 8) scRight.nd rfl (Or.inl rfl) (pe_fn (F__law_made.mono (by decide)) hr rfl p0 (pa_cons (pv 5) (pa_cons (pv 3) (pa_cons (pv 4) (pa_cons (pv 7) pa_nil))))))
      (pss_cons (ps_set (i := 9) scRight.nd rfl (Or.inl rfl) (pe_lst (pa_cons (pe_tup (pa_cons (pv 4) (pa_cons (pe_op op_rep (pe_lst (pa_cons (pe_tup (pa_cons pe_int (pa_cons pe_int pa_nil))) pa_nil)) (pv 2)) pa_nil))) pa_nil)))
      (pss_cons (ps_for PassesOwn.never rfl (pi_range1 rfl B.range (pa_cons (pe_fn (F__law_draw.mono (by decide)) hr rfl p0 (pa_cons (pv 0) (pa_cons pe_int pa_nil))) pa_nil)) (pg_name (i := 10) scRight.nd rfl (Or.inl rfl)) (pss_cons (ps_if (pt_not (pt_val (pe_fn (F__law_call_right.mono (by decide)) hr rfl p0 (pa_cons (pv 0) (pa_cons (pv 8) (pa_cons (pv 3) (pa_cons (pv 7) (pa_cons (pv 9) (pa_cons (pv 6) pa_nil))))))))) (pss_one (ps_ret pe_bl)) pss_nil)
      (pss_one (ps_if (PW.pt (pw_or (pt_not (pt_val (pe_fn (F__law_trial_right.mono (by decide)) hr rfl p0 (pa_cons (pv 0) (pa_cons (pv 8) (pa_cons (pv 3) (pa_cons (pv 7) (pa_cons (pv 9) (pa_cons (pv 6) pa_nil))))))))) (pw_or1 (pt_not (pt_val (pe_fn (F__law_state_right.mono (by decide)) hr rfl p0 (pa_cons (pv 8) (pa_cons (pv 5) (pa_cons (pv 7) (pa_cons (pv 9) pa_nil)))))))))) (pss_one (ps_ret pe_bl)) pss_nil))))
      (pss_cons (ps_set (i := 11) scRight.nd rfl (Or.inl rfl) (pe_mt0E (k := 9) (sp := spTwin P w K mg base) (pv 8) (hr.mono (by decide)) p0))
      (pss_cons (ps_if (PW.pt (pw_or (pt_cmpR (op_neOE (k := 1) (sp := spEq K cc) (hr.mono (by decide))) (pv 11) (pv 8) (nomark _)) (pw_or1 (pt_not (pt_val (pe_fn (F__law_state_right.mono (by decide)) hr rfl p0 (pa_cons (pv 11) (pa_cons (pv 5) (pa_cons (pv 7) (pa_cons (pv 9) pa_nil)))))))))) (pss_one (ps_ret pe_bl)) pss_nil)
      (pss_cons (ps_asg (pe_fn (F__law_told.mono (by decide)) hr rfl p0 (pa_cons (pv 11) (pa_cons pe_str (pa_cons (pe_lst pa_nil) pa_nil)))) (pg_tup rfl (pgs_cons (pg_name (i := 12) scRight.nd rfl (Or.inl rfl)) (pgs_cons (pg_name (i := 13) scRight.nd rfl (Or.inl rfl)) pgs_nil))))
      (pss_one (ps_ret (pe_and (pe_fn (F__law_state_right.mono (by decide)) hr rfl p0 (pa_cons (pv 8) (pa_cons (pv 5) (pa_cons (pv 7) (pa_cons (pv 9) pa_nil))))) (pe_one (pe_cmpR op_eq (pe_cmpR (op_eqOE (k := 1) (sp := spEq K cc) (hr.mono (by decide))) (pv 11) (pv 8) (nomark _)) (pv 12) (nomark _)))))))))))))))))), ?_⟩
    have hM : Occ [ba] H := fun c hc e => by
      obtain ⟨x, y, z⟩ := hB
      rw [List.mem_singleton.mp hc, z] at e
      cases e
    -- many, sides
    refine ⟨_, rfl, ba, 3, rfl, hB, by decide, by decide, fun z1 H1 z10 z11 k1 b1 => ⟨_, _, rfl, rfl, _, rfl, ba, 4, rfl, b1, by decide, by decide, fun z2 H2 z20 z21 k2 b2 => ⟨_, _, rfl, rfl, by show 2 ≤ sizeLine; decide, fun p hp => ⟨p, _, rfl, .of upd_same, rfl, _, _, rfl, _, _, rfl, rfl, ?_⟩⟩⟩⟩
    obtain ⟨mm, hmm⟩ : ∃ mm : Nat, 2 + z1 = (mm : Int) := ⟨(2 + z1).toNat, by omega⟩
    obtain ⟨ss, hss⟩ : ∃ ss : Nat, 1 + z2 = (ss : Int) := ⟨(1 + z2).toNat, by omega⟩
    dsimp only
    rw [hmm, hss]
    have m2 : 2 ≤ mm := by omega
    have m4 : mm ≤ 4 := by omega
    have n1 : 1 ≤ ss := by omega
    have n4 : ss ≤ 4 := by omega
    have s3 := same_new (o := .tup [V.int (mm : Int), V.int (ss : Int)]) hp
    have k3 : Kp [ba] H (upd H2 p (.tup [V.int (mm : Int), V.int (ss : Int)])) := kp_trans (kp_trans k1 k2) (kp_same s3)
    have b3 := b2.same s3
    clear hmm hss z10 z11 z20 z21
    generalize upd H2 p (.tup [V.int (mm : Int), V.int (ss : Int)]) = H3 at k3 b3
    clear s3 hp k1 k2 b1 b2
    -- plan
    have occ0 : ∀ {H' : Hp}, Kp [ba] H H' → BagAt H' ba → Occ [ba] H' := fun k b => occ_bag hM k b
    have sub0 : ∀ c ∈ [ba], c ∈ [ba] := fun c hc => hc
    refine ⟨_, rfl, _, rfl, [ba], ba, mm, rfl, occ0 k3 b3, List.mem_cons_self, b3, m2, by omega, fun rule vp H4 hR k4' b4 dp4 => ?_⟩
    have k4 := kp_trans k3 k4'
    -- lines
    refine ⟨_, rfl, _, rfl, by omega, by omega, fun D hD => ?_⟩
    rw [Int.toNat_natCast]
    refine lc_bag (K := K) (M := [ba]) (lo := 0) (n := ss) (fun j d => ∃ r : List Int, d = dI r ∧ RowOk ss j mm r) hD (occ0 k4 b4) List.mem_cons_self b4 (by omega) (fun i H5 G hi k5 b5 hO up hG => ?_) (fun H5 vs ds hl hp hDD hds k5 b5 hM5 => ?_)
    · rw [Int.zero_add]
      refine ⟨_, rfl, _, rfl, D :: [ba], ba, mm, rfl, hO, b5, by omega, fun p v H6 hp k6 b6 dp6 => ?_⟩
      obtain ⟨c, rfl, hc⟩ := dI_open dp6
      refine ⟨c, rfl, ⟨_, seqL_mono off_same hc⟩, fun D2 hD2 => ?_⟩
      have hO6 := occ_bag hO k6 b6
      refine lc_pL (K := K) (M := D :: [ba]) (ds := (p.map fun x => (i : Int) + ss * x).map PyData.int) hD2 hO6 (by simp) (by rw [List.length_map, hp.len]; exact small64 (by omega)) hc (fun j x d H7 G7 hx hd' hs7 hO7 up7 hG7 => ?_) (fun H7 vs7 hs7 hM7 hD7 hds7 => ?_)
      · obtain ⟨y, hy, rfl⟩ := ints_get hx
        rw [List.getElem?_map, List.getElem?_map, hy] at hd'
        cases hd'
        refine ⟨_, rfl, _, rfl, _, rfl, _, _, rfl, rfl, .inl ⟨by omega, by omega⟩, _, _, rfl, rfl, hG7 _ _ (Same.refl _) (.int _)⟩
      · exact hG _ _ _ ⟨_, rfl, row_mk hp hi n4 (by omega)⟩ (kp_trans k6 (kp_same hs7)) (b6.same hs7) (.lst (.of (by rw [off_get (occ_new hO6 hD2)]; exact hD7)) hds7)
    obtain ⟨rows, rfl, hrows⟩ := pick_all (f := dI) (Pr := fun j r => RowOk ss j mm r) hp
    rw [List.length_map] at hl
    have k5' := kp_trans k4 k5
    have dp5 := dp4.up (kp_off k5 sub0)
    have dl5 : Dp K (Off [ba] H5) (.ref D) (dRows rows) := .lst (.of (by rw [off_get (occ_new (occ0 k4 b4) hD)]; exact hDD)) hds
    have iok : InitOk mm rule rows := ⟨hR, m2, by omega, ⟨by omega, by omega, fun i r hr => by rw [hl]; exact hrows i r hr⟩⟩
    clear hp hds hDD hD dp4 k5 k4' b4 b3 k3 k4
    -- kind
    refine ⟨by show 4 ≤ sizeLine; decide, fun p hp => ?_⟩
    have s6 := same_new (o := .lst [V.str "plain", V.str "counting", V.str "keeping", V.str "both"]) hp
    have e6 : upd H5 p (.lst [V.str "plain", V.str "counting", V.str "keeping", V.str "both"]) p = some (.lst [V.str "plain", V.str "counting", V.str "keeping", V.str "both"]) := upd_same
    have nbp : p ≠ ba := by obtain ⟨x, c, e⟩ := b5; exact fun z => by rw [z, e] at hp; cases hp
    have b6 := b5.same s6
    refine ⟨_, rfl, ba, 4, rfl, b6, by decide, by decide, fun z H7 z0 z1 k7 b7 => ?_⟩
    obtain ⟨kd, C, pl, cnt, kpg, KN, hat⟩ := knd_ex c0 c1 c2 c3 z0 z1
    refine ⟨p, _, _, _, rfl, rfl, .of (k7 _ _ e6 (by simp [nbp])), hat, ?_⟩
    obtain ⟨KD, hkp⟩ := knd_kd KN
    have CL := CA KN
    have k57 : Kp [ba] H5 H7 := kp_trans (kp_same s6) k7
    have kH7 := kp_trans k5' k57
    have dp7 := dp5.up (kp_off k57 sub0)
    have dl7 := dl5.up (kp_off k57 sub0)
    clear hat e6 s6 b6 k7 dp5 dl5 hp
    -- pool
    refine ⟨_, rfl, by decide, by decide, fun O hO => ?_⟩
    refine lc_bag (K := K) (M := [ba]) (lo := 0) (n := 7) (fun j d => ∃ x : Int, d = .int x ∧ (0 ≤ x ∧ x ≤ 1000000000)) hO (occ0 kH7 b7) List.mem_cons_self b7 (by decide) (fun i H8 G hi k8 b8 hO8 up hG => ?_) (fun H8 vs8 ds8 hl8 hp8 hDD8 hds8 k8 b8 hM8 => ?_)
    · have hpos : 0 < (ss : Int) * ((mm : Int) + 2) := Int.mul_pos (by omega) (by omega)
      have hlt : (ss : Int) * ((mm : Int) + 2) ≤ 4 * 6 := Int.mul_le_mul (by omega) (by omega) (by omega) (by decide)
      refine ⟨_, rfl, _, rfl, _, rfl, _, _, rfl, rfl, _, _, rfl, rfl, .inl ⟨by omega, by omega⟩, ba, _, rfl, b8, hpos, by omega, fun y H9 y0 y1 k9 b9 => hG _ _ _ ⟨y, rfl, y0, by omega⟩ k9 b9 (.int _)⟩
    obtain ⟨pool, rfl, hpool⟩ := pick_all (f := PyData.int) (Pr := fun j x => 0 ≤ x ∧ x ≤ 1000000000) hp8
    rw [List.length_map] at hl8
    have kH8 := kp_trans kH7 k8
    have dp8 := dp7.up (kp_off k8 sub0)
    have dl8 := dl7.up (kp_off k8 sub0)
    have do8 : Dp K (Off [ba] H8) (.ref O) (dI pool) := .lst (.of (by rw [off_get (occ_new (occ0 kH7 b7) hO)]; exact hDD8)) hds8
    have pblk : BlkAll pool := fun x hx => by
      obtain ⟨j, hj, e⟩ := List.getElem_of_mem hx
      exact hpool j x (by rw [List.getElem?_eq_getElem hj, e])
    clear hp8 hds8 hDD8 hO k8 dp7 dl7
    -- held
    have go : ∀ {G : Prop} (R : Hp → V → Prop), ((∀ H' v, (∃ l, Kp [ba] H8 H' ∧ BagAt H' ba ∧ Dp K (Off [ba] H') v (dI l) ∧ BlkAll l ∧ l.length < 64 ∧ (kpg = false → l = [])) → R H' v) → G) → (∀ H' v, (∃ l, Kp [ba] H8 H' ∧ BagAt H' ba ∧ Dp K (Off [ba] H') v (dI l) ∧ BlkAll l ∧ l.length < 64 ∧ (kpg = false → l = [])) → R H' v) → G := fun _ f r => f r
    apply go
    · intro rest
      refine ⟨_, rfl, by show 2 ≤ sizeLine; decide, fun p hp => ⟨p, _, rfl, .inl (.of upd_same), rfl, rfl, _, rfl, ?_⟩⟩
      rw [if_neg Bool.false_ne_true, KD.k]
      have s9 := same_new (o := .lst [V.str "keeping", V.str "both"]) hp
      have b9 := b8.same s9
      have do9 := do8.up (same_off s9)
      generalize upd H8 p (.lst [V.str "keeping", V.str "both"]) = H9 at s9 b9 do9
      refine ite2 (fun hk => ?_) (fun hk => ⟨by show 0 ≤ sizeLine; decide, fun e he => ?_⟩)
      rotate_left
      · have c : ∃ l, Kp [ba] H8 (upd H9 e (.lst [])) ∧ BagAt (upd H9 e (.lst [])) ba ∧ Dp K (Off [ba] (upd H9 e (.lst []))) (.ref e) (dI l) ∧ BlkAll l ∧ l.length < 64 ∧ (kpg = false → l = []) :=
          ⟨[], kp_same (s9.trans (same_new he)), b9.same (same_new he), dI_mk (.of (off_upd (occ0 (kp_trans kH8 (kp_same s9)) b9) he)), fun x hx => (by cases hx), by decide, fun _ => rfl⟩
        clear he
        generalize upd H9 e (.lst []) = Hx at c ⊢
        generalize V.ref e = vx at c ⊢
        exact rest Hx vx c
      · refine ⟨_, rfl, ba, 3, rfl, b9, by decide, by decide, fun z HA z0 z1 kA bA => ⟨_, rfl, by omega, by omega, fun D2 hD2 => ?_⟩⟩
        have kHA := kp_trans (kp_trans kH8 (kp_same s9)) kA
        have doA := do9.up (kp_off kA sub0)
        refine lc_bag (K := K) (M := [ba]) (lo := 0) (n := z.toNat) (fun j d => ∃ x : Int, d = .int x ∧ (0 ≤ x ∧ x ≤ 1000000000)) hD2 (occ0 kHA bA) List.mem_cons_self bA (by omega) (fun i HB G hi kB bB hOB up hG => ?_) (fun HB vsB dsB hlB hpB hDB hdsB kB bB hMB => ?_)
        · refine ⟨_, rfl, _, rfl, ba, 7, rfl, bB, by decide, by decide, fun y HC y0 y1 kC bC => ?_⟩
          obtain ⟨o, ho, hoC⟩ := dI_open ((doA.up up).up (kp_off (S := D2 :: [ba]) kC fun c hc => List.mem_cons_of_mem _ hc))
          cases ho
          have hy : y.toNat < pool.length := by omega
          have ey : pool[y.toNat]? = some (pool[y.toNat]) := List.getElem?_eq_getElem hy
          have hat : atI (pool.map V.int) y = some (.int (pool[y.toNat])) := by
            have := ints_at ey
            rw [Int.toNat_of_nonneg y0] at this
            exact this
          exact ⟨O, _, _, _, rfl, rfl, seqL_mono off_same hoC, hat, hG _ _ _ ⟨_, rfl, pblk _ (List.getElem_mem hy)⟩ kC bC (.int _)⟩
        · obtain ⟨hh, rfl, hhp⟩ := pick_all (f := PyData.int) (Pr := fun j x => 0 ≤ x ∧ x ≤ 1000000000) hpB
          rw [List.length_map] at hlB
          have c : ∃ l, Kp [ba] H8 HB ∧ BagAt HB ba ∧ Dp K (Off [ba] HB) (.ref D2) (dI l) ∧ BlkAll l ∧ l.length < 64 ∧ (kpg = false → l = []) := by
            refine ⟨hh, kp_trans (kp_trans (kp_same s9) kA) kB, bB, .lst (.of (by rw [off_get (occ_new (occ0 kHA bA) hD2)]; exact hDB)) hdsB, fun x hx => ?_, by omega, fun z => by rw [hk] at z; cases z⟩
            obtain ⟨j, hj, e⟩ := List.getElem_of_mem hx
            exact hhp j x (by rw [List.getElem?_eq_getElem hj, e])
          clear hDB hdsB hD2
          generalize V.ref D2 = vx at c ⊢
          exact rest HB vx c
    intro H9 vh ⟨held, k9, b9, dh9, hblk, hlen, hnk⟩
    have kH9 := kp_trans kH8 k9
    have dp9 := dp8.up (kp_off k9 sub0)
    have dl9 := dl8.up (kp_off k9 sub0)
    have do9 := do8.up (kp_off k9 sub0)
    clear k9 dp8 dl8 do8 b8 kH8
    -- made
    have kfree : ∀ {H' : Hp} {x : Addr}, Kp [ba] H H' → BagAt H' ba → H' x = none → H x = none := fun {H' x} k b hx => by
      cases z : H x with
      | none => rfl
      | some o =>
        by_cases hxb : x = ba
        · obtain ⟨y, c, e⟩ := b
          rw [hxb, e] at hx
          cases hx
        · rw [k x o z (by simp [hxb])] at hx
          cases hx
    refine ⟨_, rfl, _, rfl, _, rfl, _, rfl, [ba], kd, C, pl, cnt, kpg, vp, .ref D, vh, rule, rows, held, mm, rfl, occ0 kH9 b9, KN, dp9, dl9, dh9, iok, hblk, hlen, hnk, fun t H10 ht s10 hM10 S10 => ?_⟩
    have htH := kfree kH9 b9 ht
    have o10 : Same (Off [ba] H9) (Off (t :: [ba]) H10) := same_offD s10 ht
    -- past
    refine ⟨_, rfl, by show 2 ≤ sizeLine; decide, fun p1 hp1 => ⟨by show 1 ≤ sizeLine; decide, fun p2 hp2 => ⟨_, rfl, p2, _, _, rfl, rfl, upd_same, by omega, by omega, ?_, fun p3 hp3 => ⟨by show 2 ≤ sizeLine; decide, fun p4 hp4 => ⟨by show 1 ≤ sizeLine; decide, fun pa hpa => ?_⟩⟩⟩⟩⟩
    · rw [Int.toNat_natCast]
      exact Nat.le_of_lt (small64 (by simp; omega))
    rw [Int.toNat_natCast, rep_flat] at *
    have d1 : Dp K (Off (t :: [ba]) (upd H10 p1 (.tup [V.int 0, V.int 0]))) (.ref p1) (.tuple [.int 0, .int 0]) := dp_pair hM10 hp1 (.int 0) (.int 0)
    have s11 := same_new (o := .tup [V.int 0, V.int 0]) hp1
    have hM11 := occ_kp hM10 s11
    generalize upd H10 p1 (.tup [V.int 0, V.int 0]) = H11 at d1 s11 hM11 hp2 hp3 hp4 hpa ⊢
    have s12 := same_new (o := .lst [V.ref p1]) hp2
    have d1' := d1.up (same_off s12)
    have hM12 := occ_kp hM11 s12
    generalize upd H11 p2 (.lst [V.ref p1]) = H12 at d1' s12 hM12 hp3 hp4 hpa ⊢
    have dc : Dp K (Off (t :: [ba]) (upd H12 p3 (.lst (List.replicate ss (V.ref p1))))) (.ref p3) (dCounts (pres0 rows)) := by
      have e : (pres0 rows).map dCount = rows.map fun r => dCount (r, 0, 0) := by
        unfold pres0
        rw [List.map_map]
        rfl
      have := dp_lst_new (K := K) hM12 hp3 (dps_rep (f := fun r => dCount (r, 0, 0)) (fun _ => d1') rows)
      rw [hl] at this
      unfold dCounts
      rw [e]
      exact this
    have s13 := same_new (o := .lst (List.replicate ss (V.ref p1))) hp3
    have hM13 := occ_kp hM12 s13
    generalize upd H12 p3 (.lst (List.replicate ss (V.ref p1))) = H13 at dc s13 hM13 hp4 hpa ⊢
    have s103 := s11.trans (s12.trans s13)
    have dl13 : Dp K (Off (t :: [ba]) H13) (.ref D) (dLines (pres0 rows)) := by
      have e : (pres0 rows).map (·.1) = rows := by
        unfold pres0
        rw [List.map_map]
        exact List.map_id' rows
      rw [dLines_rows, e]
      exact dl9.up (o10.trans (same_off s103))
    have dw := dp_pair hM13 hp4 dl13 dc
    have s14 := same_new (o := .tup [V.ref D, V.ref p3]) hp4
    have hM14 := occ_kp hM13 s14
    generalize upd H13 p4 (.tup [V.ref D, V.ref p3]) = H14 at dw s14 hM14 hpa ⊢
    have s15 := same_new (o := .lst [V.ref p4]) hpa
    have s104 := s103.trans s14
    have o15 : Same (Off (t :: [ba]) H14) (Off (pa :: t :: [ba]) (upd H14 pa (.lst [V.ref p4]))) := same_offD s15 hpa
    have oA : Same (Off [ba] H9) (Off (pa :: t :: [ba]) (upd H14 pa (.lst [V.ref p4]))) := o10.trans ((same_off s104).trans o15)
    have hpaH10 : H10 pa = none := s104.free hpa
    have npat : pa ≠ t := by
      obtain ⟨_, _, _, _, _, _, _, e, _⟩ := S10
      exact fun z => by rw [z, e] at hpaH10; cases hpaH10
    have npab : ba ≠ pa := by
      obtain ⟨x, c, e⟩ := b9.same s10
      exact ne_of_none e hpaH10
    have hpaH : H pa = none := kfree kH9 b9 (s10.free hpaH10)
    have presok : PresOk ss mm (pres0 rows) := ⟨by unfold pres0; rw [List.length_map, hl], fun i p hi => by
      unfold pres0 at hi
      rw [List.getElem?_map] at hi
      cases e : rows[i]? with
      | none => rw [e] at hi; cases hi
      | some r => rw [e] at hi; rw [← Option.some.inj hi]; exact hrows i r e⟩
    have kok : KeptOk pl (kset held) := by
      refine ⟨fun hpl => ?_, fun hpl => ⟨kset_kset _, fun x hx => hblk x (mem_kset.mp hx), Nat.lt_of_le_of_lt (len_kset _) hlen⟩⟩
      rw [hnk (by rw [hkp, hpl]; rfl)]
      rfl
    have L0 : LawAt P w K mg base cw cn (pa :: t :: [ba]) (upd H14 pa (.lst [V.ref p4])) ba t C pa pl ss mm rule (pres0 rows) [] held pool vp vh (.ref O) :=
      ⟨occ_new' hM14, by simp, by simp, (b9.same (s10.trans s104)).same s15, CL.tl, S10.more (s104.trans s15) hpaH10, ⟨⟨hR, presok, by omega, by omega, by omega, by omega⟩, m2, by omega, kok⟩, by decide, ⟨[.ref p4], upd_same, dps_one (dw.up o15)⟩, npab, dp9.up oA, dh9.up oA, hlen, do9.up oA, pblk, by omega, by omega⟩
    have kk0 : Kp [ba] H (upd H14 pa (.lst [V.ref p4])) := kp_trans kH9 (kp_same (s10.trans (s104.trans s15)))
    have hist0 : Hist ss mm ([] ++ [pres0 rows]) := Hist.add (past := []) (fun i p hi => by simp at hi) presok (pres0_tot rows)
    generalize upd H14 pa (.lst [V.ref p4]) = H15 at L0 kk0
    clear dw dc dl13 d1 d1' oA o15 o10 S10 dp9 dl9 do9 dh9
    -- the calls
    refine ⟨_, rfl, ba, 21, rfl, L0.bag, by decide, by decide, fun z H16 z0 z1 k16 b16 => ⟨_, rfl, by omega, by omega, ?_⟩⟩
    refine for_range (lo := 0) (n := z.toNat) (fun i σ H' => ∃ pres past xk, σ = [some (.ref ba), some (.int mm), some (.int ss), some vp, some (.ref D), some (.str kd), some (.ref O), some vh, some (.ref t), some (.ref pa), xk, none, none, none, none, none] ∧ past.length ≤ i ∧ Hist ss mm (past ++ [pres]) ∧
        LawAt P w K mg base cw cn (pa :: t :: [ba]) H' ba t C pa pl ss mm rule pres past held pool vp vh (.ref O) ∧ Kp [ba] H H') ⟨_, _, _, rfl, Nat.le_refl _, hist0, L0.kp k16 b16, kp_trans kk0 k16⟩ (fun i σ H' hi hP => ?_) (fun σ H' hP => ?_)
    · obtain ⟨pres, past, xk, rfl, hpl, hist, L, kk⟩ := hP
      refine ⟨_, rfl, _, rfl, _, rfl, _, rfl, _, rfl, _, rfl, pa :: t :: [ba], ba, t, C, pa, pl, ss, mm, rule, pres, past, held, pool, vp, vh, .ref O, rfl, L, by omega, hist, fun pres' past' H1 hl' hist' L' k' => ⟨true, rfl, iteF ?_⟩⟩
      have kk' : Kp [ba] H H1 := fun c o e n => k' c o (kk c o e n) (by
        have n1 : c ≠ t := ne_of_none e htH
        have n2 : c ≠ pa := ne_of_none e hpaH
        simp at n
        simp [n, n1, n2])
      refine ⟨_, rfl, _, rfl, _, rfl, _, rfl, _, rfl, _, rfl, pa :: t :: [ba], ba, t, C, pa, pl, ss, mm, rule, pres', past', held, pool, vp, vh, .ref O, rfl, L', fun H2 k2 b2 => ⟨true, rfl, iteF ?_⟩⟩
      have L2 := L'.kp k2 b2
      refine ⟨_, rfl, _, rfl, _, rfl, _, rfl, pa :: t :: [ba], t, C, pa, rule, pres', past', kset held, held, kd, cnt, kpg, vh, rfl, L2.occ, CL.rd, KD, L2.sto, by rw [L2.all.ok.pres.len]; omega, by omega, L2.pastA, dp_here L2.heldD, hlen, fun _ => rfl, fun H3 s3 => ⟨true, rfl, iteF ?_⟩⟩
      exact ⟨pres', past', _, rfl, by omega, hist', L2.same s3, kp_trans (kp_trans kk' k2) (kp_same s3)⟩
    · obtain ⟨pres, past, xk, rfl, hpl, hist, L, kk⟩ := hP
      have hp64 : pres.length < 64 := by rw [L.all.ok.pres.len]; omega
      -- twin
      have S' := L.sto
      obtain ⟨_, _, dx, w1, w2, w3, w4, et, _⟩ := S'
      refine ⟨C, L.sto.sc.cls, CL.tl.tr.twin, _, rfl, t, dx, _, rfl, et, rfl, pa :: t :: [ba], t, C, pl, rule, pres, past, kset held, ss, mm, rfl, L.occ, CL.tl.tr.fresh, L.sto, L.all.ok, L.all.lo, L.all.hi, L.all.kept, fun t2 H17 ht2 s17 hM17 T2 => ?_⟩
      have L17 := L.more s17 ht2 hM17
      have kk17 := kp_trans kk (kp_same s17)
      have n1 : ba ≠ t2 := by obtain ⟨x, c, e⟩ := L.bag; exact ne_of_none e ht2
      have n2 : t ≠ t2 := ne_of_none et ht2
      have n3 : pa ≠ t2 := by obtain ⟨x, e, _⟩ := L.pastA; exact ne_of_none e ht2
      have T2' := T2
      have S17 := L17.sto
      obtain ⟨_, _, _, _, _, _, _, e2, _⟩ := T2'
      obtain ⟨_, _, _, _, _, _, _, e1, _⟩ := S17
      -- other != store
      refine ⟨_, rfl, _, rfl, C, CL.eq, t2, t, _, _, _, _, rfl, rfl, e2, e1, t2 :: pa :: t :: [ba], t2, t, C, rule, pres, pres, past, past, kset held, kset held, rfl, hM17, CL.ec, T2, L17.sto, hp64, hp64, fun H18 s18 => ⟨_, rfl, ?_⟩⟩
      rw [eqB_refl]
      refine ⟨false, rfl, iteF ?_⟩
      have L18 := L17.same s18
      have T18 := T2.same s18
      refine ⟨_, rfl, _, rfl, _, rfl, _, rfl, t2 :: pa :: t :: [ba], t2, C, pa, rule, pres, past, kset held, held, kd, cnt, kpg, vh, rfl, L18.occ, CL.rd, KD, T18, hp64, by omega, L18.pastA, dp_here L18.heldD, hlen, fun _ => rfl, fun H19 s19 => ⟨true, rfl, iteF ?_⟩⟩
      -- undo of the other
      refine ⟨_, rfl, by show 0 ≤ sizeLine; decide, fun em hem => ?_⟩
      have s20 := s19.trans (same_new (o := .lst []) hem)
      have L20 := L18.same s20
      have T20 := T18.same s20
      have kk20 := kp_trans kk17 (kp_same (s18.trans s20))
      generalize upd H19 em (.lst []) = H20 at L20 T20 kk20
      refine ⟨t2 :: pa :: t :: [ba], t2, C, pl, rule, pres, past, kset held, ss, mm, "undo", .ref em, rfl, L20.occ, CL.tl, T20, L20.all, by omega, .inr (.inr ⟨rfl, fun hp v H21 s21 dv => ?_, fun qa p hp v H21 k21 hM21 S21 dv => ?_⟩)⟩
      · have L21 := L20.same s21
        have U21 := T20.same s21
        have kk21 := kp_trans kk20 (kp_same s21)
        have heq : eqB pres (kset held) pres (kset held) = true := eqB_refl _ _
        obtain ⟨tt, a, b, rfl, htt, da, db⟩ := dp_two dv
        obtain rfl := dp_bl da
        obtain rfl := dp_non db
        refine ⟨tt, _, rfl, seqT_mono off_same htt, rfl, _, _, rfl, _, _, rfl, rfl, ?_⟩
        refine ⟨_, rfl, _, rfl, _, rfl, _, rfl, t2 :: pa :: t :: [ba], t, C, pa, rule, pres, past, kset held, held, kd, cnt, kpg, vh, rfl, L21.occ, CL.rd, KD, L21.sto, hp64, by omega, L21.pastA, dp_here L21.heldD, hlen, fun _ => rfl, fun H22 s22 => ⟨true, rfl, iteT ?_⟩⟩
        have L22 := L21.same s22
        have U22 := U21.same s22
        obtain ⟨_, _, _, _, _, _, _, e1', _⟩ := L22.sto
        obtain ⟨_, _, _, _, _, _, _, e2', _⟩ := U22
        refine ⟨_, rfl, _, rfl, C, CL.eq, t2, t, _, _, _, _, rfl, rfl, e2', e1', t2 :: pa :: t :: [ba], t2, t, C, rule, pres, pres, past, past, kset held, kset held, rfl, L22.occ, CL.ec, U21.same s22, L22.sto, hp64, hp64, fun H23 s23 => ⟨_, rfl, _, rfl, rfl, ?_⟩⟩
        show Q (.bl (decide (V.bl (eqB pres (kset held) pres (kset held)) = V.bl true))) H23
        rw [heq, decide_eq_true rfl]
        exact q _ (kp_trans kk21 (kp_same (s22.trans s23)))
      · have L21 := L20.kpx k21 List.mem_cons_self hM21 n1 n2 n3
        have U21 := S21
        have ht2H : H t2 = none := by
          cases z : H t2 with
          | none => rfl
          | some o =>
            have := kk t2 o z (by simp [Ne.symm n1])
            rw [ht2] at this
            cases this
        have kk21 : Kp [ba] H H21 := fun c o e n => k21 c o (kk20 c o e n) (by simp [ne_of_none e ht2H])
        subst hp
        have heq : eqB p (kset held) pres (kset held) = false := eqB_tot (by
          have h1 := hist.last.2
          have h2 := hist.init.last.2
          intro z
          rw [h1, h2, List.length_append, List.length_singleton] at z
          omega)
        have pl64 : p.length < 64 := by rw [hist.init.last.1.len]; omega
        obtain ⟨tt, a, b, rfl, htt, da, db⟩ := dp_two dv
        obtain rfl := dp_bl da
        obtain rfl := dp_non db
        refine ⟨tt, _, rfl, seqT_mono off_same htt, rfl, _, _, rfl, _, _, rfl, rfl, ?_⟩
        refine ⟨_, rfl, _, rfl, _, rfl, _, rfl, t2 :: pa :: t :: [ba], t, C, pa, rule, pres, qa ++ [p], kset held, held, kd, cnt, kpg, vh, rfl, L21.occ, CL.rd, KD, L21.sto, hp64, by omega, L21.pastA, dp_here L21.heldD, hlen, fun _ => rfl, fun H22 s22 => ⟨true, rfl, iteT ?_⟩⟩
        have L22 := L21.same s22
        have U22 := U21.same s22
        obtain ⟨_, _, _, _, _, _, _, e1', _⟩ := L22.sto
        obtain ⟨_, _, _, _, _, _, _, e2', _⟩ := U22
        refine ⟨_, rfl, _, rfl, C, CL.eq, t2, t, _, _, _, _, rfl, rfl, e2', e1', t2 :: pa :: t :: [ba], t2, t, C, rule, p, pres, qa, qa ++ [p], kset held, kset held, rfl, L22.occ, CL.ec, U21.same s22, L22.sto, pl64, hp64, fun H23 s23 => ⟨_, rfl, _, rfl, rfl, ?_⟩⟩
        show Q (.bl (decide (V.bl (eqB p (kset held) pres (kset held)) = V.bl false))) H23
        rw [heq, decide_eq_true rfl]
        exact q _ (kp_trans kk21 (kp_same (s22.trans s23)))
end
end GN

/-! part D24 -/
set_option Elab.async false
set_option linter.all false
set_option maxRecDepth 100000
set_option maxHeartbeats 4000000
namespace GN
open PySem PySem.Spec L2
open PyProof.Rows hiding St

theorem cut_ints (ns : List Int) (lo hi : Option Int) : ∃ ms : List Int, cutV (ns.map V.int) lo hi = ms.map V.int ∧ ms.length ≤ ns.length := by
  refine ⟨(ns.drop (HT.sIx (ns.map V.int).length 0 lo)).take (HT.sIx (ns.map V.int).length (ns.map V.int).length hi - HT.sIx (ns.map V.int).length 0 lo), ?_, ?_⟩
  · unfold cutV
    rw [List.map_take, List.map_drop]
  · rw [List.length_take, List.length_drop]
    omega
theorem rep_ints (n : Nat) (x : Int) : (List.replicate n [V.int x]).flatten = (List.replicate n x).map V.int := by
  rw [rep_flat, List.map_replicate]
section
variable {P : Program} {w : World} {K : PySem.W.Frag} {mg : Str → Option Value} {base : Heap}
abbrev sLaw : Stmt := top 46
def spLaw (K : PySem.W.Frag) : Sp := fun vs H Q _ => ∃ (a : Addr) (ns : List Int), vs = [.ref a] ∧ SqL K H a (ns.map V.int) ∧ ns.length ≤ 63 ∧ ∀ H', Q (.bl true) H'
abbrev NLaw : List Str := ["_law_script", "_law_cells", "_law_k"]
theorem scLaw : FnScope NLaw ["_law_script"] (defScope sLaw) := ⟨rfl, rfl, rfl, by decide +kernel, rfl, by decide +kernel, by decide +kernel⟩
theorem ok_law {f : Addr} {fd : FuncData} (B : Bi mg) (F__law_bag : Fk P w K mg base CX0 1 "_law_bag" spBag) (F__law_right : Fk P w K mg base CX0 13 "_law_right" spRight) (F : Fun K "law" "law" sLaw f fd) : FnOk P w K mg base CX0 14 f fd ["_law_script"] (spLaw K) := by
  refine F.ok scLaw (fun vs H Q E h => ?_) (fun cdv A outer s0 H vs Q E hr h => ?_)
  · obtain ⟨a, ns, rfl, _⟩ := h
    rfl
  · obtain ⟨a, ns, rfl, ha, hl, q⟩ := h
    refine ⟨_, (pss_cons (ps_set (i := 1) scLaw.nd rfl (Or.inl rfl) (pe_op op_cat (pe_slice sl_list (pv 0) po_none (po_some pe_int)) (pe_op op_rep (pe_lst (pa_cons pe_int pa_nil)) (kz_int B (pe_cmpR (kop_eqD (K := K) (by exact hr.units)) (pv 0) (pe_lst pa_nil) (nomark _))))))
      (pss_cons (ps_for PassesOwn.never rfl (pi_range1 rfl B.range (pa_cons (kz_len (K := K) B (pv 1)) pa_nil)) (pg_name (i := 2) scLaw.nd rfl (Or.inl rfl)) (pss_one (ps_if (pt_not (pt_val (pe_fn (F__law_right.mono (by decide)) hr rfl p0 (pa_cons (pe_fn (F__law_bag.mono (by decide)) hr rfl p0 (pa_cons (pe_ix (kix_list (K := K)) (pv 1) (pv 2) (fun _ _ => rfl)) (pa_cons (pv 2) pa_nil))) pa_nil)))) (pss_one (ps_ret pe_bl)) pss_nil)))
      (pss_one (ps_ret pe_bl)))), ?_⟩
    obtain ⟨ms, hms, hml⟩ := cut_ints ns none (some 3)
    refine ⟨_, rfl, _, rfl, a, _, rfl, ha, fun p1 hp1 => ?_⟩
    rw [hms]
    refine ⟨by show 1 ≤ sizeLine; decide, fun p2 hp2 => ⟨_, rfl, by show 0 ≤ sizeLine; decide, fun p3 hp3 => ?_⟩⟩
    have s1 := same_new (o := .lst (ms.map V.int)) hp1
    have s2 := same_new (o := .lst [V.int 0]) hp2
    have s3 := same_new (o := .lst []) hp3
    have e1 := s3 _ _ (s2 p1 _ upd_same)
    have e2 : upd (upd (upd H p1 (.lst (ms.map V.int))) p2 (.lst [V.int 0])) p3 (.lst []) p2 = some (.lst [V.int 0]) := s3 _ _ upd_same
    have e3 : upd (upd (upd H p1 (.lst (ms.map V.int))) p2 (.lst [V.int 0])) p3 (.lst []) p3 = some (.lst []) := upd_same
    have s13 := s1.trans (s2.trans s3)
    generalize upd (upd (upd H p1 (.lst (ms.map V.int))) p2 (.lst [V.int 0])) p3 (.lst []) = H3 at e1 e2 e3 s13
    refine ⟨dI ns, .list [], dI_mk (s13.seq ha), .lst (.of e3) .nil, sh_ok (sh_dI 0 _), by decide, .inr ⟨_, rfl, ?_⟩⟩
    generalize PyData.eqv (dI ns) (.list []) = c
    obtain ⟨m, hm, hm1⟩ : ∃ m : Nat, (if c = true then (1 : Int) else 0) = m ∧ m ≤ 1 := by
      cases c
      · exact ⟨0, rfl, by omega⟩
      · exact ⟨1, rfl, by omega⟩
    rw [hm]
    refine ⟨p2, _, _, rfl, rfl, e2, by omega, by omega, ?_, fun p4 hp4 => ?_⟩
    · rw [Int.toNat_natCast]
      exact Nat.le_of_lt (small64 (by simp; omega))
    rw [Int.toNat_natCast, rep_ints]
    have e14 := same_new (o := .lst ((List.replicate m (0 : Int)).map V.int)) hp4 _ _ e1
    refine ⟨p1, p4, _, _, rfl, rfl, e14, upd_same, ?_, fun p5 hp5 => ?_⟩
    · rw [List.length_map, List.length_map, List.length_replicate]
      exact Nat.le_trans (show ms.length + m ≤ 64 by omega) (by decide)
    rw [← List.map_append]
    have e5 : upd (upd H3 p4 (.lst ((List.replicate m (0 : Int)).map V.int))) p5 (.lst ((ms ++ List.replicate m 0).map V.int)) p5 = some (.lst ((ms ++ List.replicate m 0).map V.int)) := upd_same
    have hcl : (ms ++ List.replicate m 0).length ≤ 64 := by rw [List.length_append, List.length_replicate]; omega
    generalize upd (upd H3 p4 (.lst ((List.replicate m (0 : Int)).map V.int))) p5 (.lst ((ms ++ List.replicate m 0).map V.int)) = H5 at e5
    generalize ms ++ List.replicate m 0 = cs at e5 hcl
    refine ⟨_, rfl, p5, _, rfl, .inl (.of e5), _, rfl, by omega, by rw [List.length_map]; omega, ?_⟩
    rw [List.length_map, Int.toNat_natCast]
    refine for_range (lo := 0) (n := cs.length) (fun i σ H' => (∃ x, σ = [some (.ref a), some (.ref p5), x]) ∧ Same H5 H') ⟨⟨_, rfl⟩, Same.refl _⟩ (fun i σ H' hi hP => ?_) (fun σ H' hP => ?_)
    · obtain ⟨⟨x, rfl⟩, hs⟩ := hP
      have ei := getD_int hi
      rw [Int.zero_add]
      refine ⟨_, rfl, _, rfl, p5, _, _, _, rfl, rfl, .of (hs _ _ e5), ints_at ei, _, rfl, _, _, rfl, fun p H1 hp s1 b1 => ⟨p, rfl, b1, fun H2 k2 => ⟨true, rfl, iteF ⟨⟨_, rfl⟩, hs.trans (same_kp1 s1 hp k2)⟩⟩⟩⟩
    · exact q _
end
end GN

/-! part E1 -/
set_option Elab.async false
set_option linter.all false
set_option maxRecDepth 100000
set_option maxHeartbeats 40000000
namespace GN
open PySem PySem.Spec L2
open PyProof.Rows hiding St
theorem fnr_of {P : Program} {w : World} {K : PySem.W.Frag} {mg : Str → Option Value} {base : Heap} {CX : CXT} {k : Nat} {f : Addr} {fd : FuncData} {ps : List Str} {sp : Sp} (F : FnOk P w K mg base CX k f fd ps sp) (hb : Binds K fd ps []) : FnR P w K mg base CX k f sp :=
  (F.raw hb .nil).imp fun vs H Q E h => by rw [List.append_nil]; exact h
theorem kitc {K : PySem.W.Frag} {t S : Addr} (h2 : PySem.W.isClsIn K S = true) (h3 : PySem.W.typeIn K (.ref S) = some (.type "type")) (h4 : PySem.W.subIn K (.ref t) (.ref S) = some true) : PySem.W.kitCls K (.ref t) (.ref S) = some true := by
  have e2 : ((PySem.W.clsIn K S).isSome && PySem.W.typeIn K (.ref S) == some (.type "type")) = true := by
    have h2' : (PySem.W.clsIn K S).isSome = true := h2
    rw [h2', h3] <;> rfl
  show (if ((PySem.W.clsIn K S).isSome && PySem.W.typeIn K (.ref S) == some (.type "type")) = true then PySem.W.subIn K (.ref t) (.ref S) else none) = some true
  rw [if_pos e2]
  exact h4
theorem exm_sub {K : PySem.W.Frag} {t S : Addr} (h1 : PySem.W.subIn K (.ref S) (.type "BaseException") = some true) (h2 : PySem.W.isClsIn K S = true) (h3 : PySem.W.typeIn K (.ref S) = some (.type "type")) (h4 : PySem.W.subIn K (.ref t) (.ref S) = some true) :
    PySem.W.exmOne K (.ref t) (.ref S) = some true := by
  have e1 : (PySem.W.subIn K (.ref S) (.type "BaseException") == some true) = true := by rw [h1] <;> rfl
  unfold PySem.W.exmOne
  rw [if_pos e1]
  exact kitc h2 h3 h4
theorem kit_sub {K : PySem.W.Frag} {t S : Addr} (h2 : PySem.W.isClsIn K S = true) (h3 : PySem.W.typeIn K (.ref S) = some (.type "type")) (h4 : PySem.W.subIn K (.ref t) (.ref S) = some true) : PySem.W.kitOne K (.ref t) (.ref S) = some true := by
  unfold PySem.W.kitOne
  split
  · rfl
  · exact kitc h2 h3 h4
theorem all_mk {P : Program} {w : World} {K : PySem.W.Frag} {h : Heap} {mg : Str → Option Value} {fa : Addr} {c0 c1 c2 c3 cg cn cw f_access f_by_set f_check_block f_check_rows f_check_rule f_check_stream f_eq f_fresh0 f_fresh1 f_fresh2 f_fresh3 f_go f_hits f_init0 f_is_block f_is_permutation_of f_is_row f_isint f_kept f_kinit f_law f_law_accessed f_law_bag f_law_call_right f_law_draw f_law_lifted f_law_made f_law_moved f_law_right f_law_shuffle f_law_some_rule f_law_state_right f_law_step f_law_told f_law_trial_right f_len f_misses f_moved f_row_after_hit f_row_after_miss f_rows f_stepped f_tried f_twin f_undo p_by_set p_hits p_kept p_misses p_rows : Addr}
    {od_is_permutation_of an_is_permutation_of : Option Addr} {sl_is_permutation_of : Array (Option Value)} {oc_is_permutation_of kV_is_permutation_of dc_is_permutation_of pm_is_permutation_of cd_is_permutation_of ct_is_permutation_of : Value}
    {od_check_rule an_check_rule : Option Addr} {sl_check_rule : Array (Option Value)} {oc_check_rule kV_check_rule dc_check_rule pm_check_rule cd_check_rule ct_check_rule : Value}
    {od_is_block an_is_block : Option Addr} {sl_is_block : Array (Option Value)} {oc_is_block kV_is_block dc_is_block pm_is_block cd_is_block ct_is_block : Value}
    {od_is_row an_is_row : Option Addr} {sl_is_row : Array (Option Value)} {oc_is_row kV_is_row dc_is_row pm_is_row cd_is_row ct_is_row : Value}
    {od_check_stream an_check_stream : Option Addr} {sl_check_stream : Array (Option Value)} {oc_check_stream kV_check_stream dc_check_stream pm_check_stream cd_check_stream ct_check_stream : Value}
    {od_moved an_moved : Option Addr} {sl_moved : Array (Option Value)} {oc_moved kV_moved dc_moved pm_moved cd_moved ct_moved : Value}
    {od_row_after_hit an_row_after_hit : Option Addr} {sl_row_after_hit : Array (Option Value)} {oc_row_after_hit kV_row_after_hit dc_row_after_hit pm_row_after_hit cd_row_after_hit ct_row_after_hit : Value}
    {od_row_after_miss an_row_after_miss : Option Addr} {sl_row_after_miss : Array (Option Value)} {oc_row_after_miss kV_row_after_miss dc_row_after_miss pm_row_after_miss cd_row_after_miss ct_row_after_miss : Value}
    {od_stepped an_stepped : Option Addr} {sl_stepped : Array (Option Value)} {oc_stepped kV_stepped dc_stepped pm_stepped cd_stepped ct_stepped : Value}
    {od_check_rows an_check_rows : Option Addr} {sl_check_rows : Array (Option Value)} {oc_check_rows kV_check_rows dc_check_rows pm_check_rows cd_check_rows ct_check_rows : Value}
    {od_check_block an_check_block : Option Addr} {sl_check_block : Array (Option Value)} {oc_check_block kV_check_block dc_check_block pm_check_block cd_check_block ct_check_block : Value}
    {od_law_bag an_law_bag : Option Addr} {sl_law_bag : Array (Option Value)} {oc_law_bag kV_law_bag dc_law_bag pm_law_bag cd_law_bag ct_law_bag : Value}
    {od_law_draw an_law_draw : Option Addr} {sl_law_draw : Array (Option Value)} {oc_law_draw kV_law_draw dc_law_draw pm_law_draw cd_law_draw ct_law_draw : Value}
    {od_law_shuffle an_law_shuffle : Option Addr} {sl_law_shuffle : Array (Option Value)} {oc_law_shuffle kV_law_shuffle dc_law_shuffle pm_law_shuffle cd_law_shuffle ct_law_shuffle : Value}
    {od_law_lifted an_law_lifted : Option Addr} {sl_law_lifted : Array (Option Value)} {oc_law_lifted kV_law_lifted dc_law_lifted pm_law_lifted cd_law_lifted ct_law_lifted : Value}
    {od_law_some_rule an_law_some_rule : Option Addr} {sl_law_some_rule : Array (Option Value)} {oc_law_some_rule kV_law_some_rule dc_law_some_rule pm_law_some_rule cd_law_some_rule ct_law_some_rule : Value}
    {od_law_moved an_law_moved : Option Addr} {sl_law_moved : Array (Option Value)} {oc_law_moved kV_law_moved dc_law_moved pm_law_moved cd_law_moved ct_law_moved : Value}
    {od_law_step an_law_step : Option Addr} {sl_law_step : Array (Option Value)} {oc_law_step kV_law_step dc_law_step pm_law_step cd_law_step ct_law_step : Value}
    {od_law_accessed an_law_accessed : Option Addr} {sl_law_accessed : Array (Option Value)} {oc_law_accessed kV_law_accessed dc_law_accessed pm_law_accessed cd_law_accessed ct_law_accessed : Value}
    {od_law_told an_law_told : Option Addr} {sl_law_told : Array (Option Value)} {oc_law_told kV_law_told dc_law_told pm_law_told cd_law_told ct_law_told : Value}
    {od_law_state_right an_law_state_right : Option Addr} {sl_law_state_right : Array (Option Value)} {oc_law_state_right kV_law_state_right dc_law_state_right pm_law_state_right cd_law_state_right ct_law_state_right : Value}
    {od_law_trial_right an_law_trial_right : Option Addr} {sl_law_trial_right : Array (Option Value)} {oc_law_trial_right kV_law_trial_right dc_law_trial_right pm_law_trial_right cd_law_trial_right ct_law_trial_right : Value}
    {od_law_call_right an_law_call_right : Option Addr} {sl_law_call_right : Array (Option Value)} {oc_law_call_right kV_law_call_right dc_law_call_right pm_law_call_right cd_law_call_right ct_law_call_right : Value}
    {od_law_made an_law_made : Option Addr} {sl_law_made : Array (Option Value)} {oc_law_made kV_law_made dc_law_made pm_law_made cd_law_made ct_law_made : Value}
    {od_law_right an_law_right : Option Addr} {sl_law_right : Array (Option Value)} {oc_law_right kV_law_right dc_law_right pm_law_right cd_law_right ct_law_right : Value}
    {od_law an_law : Option Addr} {sl_law : Array (Option Value)} {oc_law kV_law dc_law pm_law cd_law ct_law : Value}
    {od_ii an_ii : Option Addr} {sl_ii : Array (Option Value)} {oc_ii kV_ii dc_ii pm_ii cd_ii ct_ii : Value} {T_ii : Addr}
    {tc_ii : Value} {td_ii : Option Addr} {ts_ii : Array (Option Value)} {tn_ii : Nat}
    {t_LEAST_PLACES : Tok}
    {t_MOST_PLACES : Tok}
    {t_MOST_BLOCK : Tok}
    {kd0 : Int} {kt0 : Tok}
    {kd1 : Int} {kt1 : Tok}
    {kd2 : Int} {kt2 : Tok}
    {kd3 : Int} {kt3 : Tok}
    {rest_rows : List Value}
    {od_rows an_rows : Option Addr} {sl_rows : Array (Option Value)} {oc_rows kV_rows dc_rows pm_rows cd_rows ct_rows : Value}
    {rest_hits : List Value}
    {od_hits an_hits : Option Addr} {sl_hits : Array (Option Value)} {oc_hits kV_hits dc_hits pm_hits cd_hits ct_hits : Value}
    {rest_misses : List Value}
    {od_misses an_misses : Option Addr} {sl_misses : Array (Option Value)} {oc_misses kV_misses dc_misses pm_misses cd_misses ct_misses : Value}
    {rest_by_set : List Value}
    {od_by_set an_by_set : Option Addr} {sl_by_set : Array (Option Value)} {oc_by_set kV_by_set dc_by_set pm_by_set cd_by_set ct_by_set : Value}
    {rest_kept : List Value}
    {od_kept an_kept : Option Addr} {sl_kept : Array (Option Value)} {oc_kept kV_kept dc_kept pm_kept cd_kept ct_kept : Value}
    {od_init0 an_init0 : Option Addr} {sl_init0 : Array (Option Value)} {oc_init0 kV_init0 dc_init0 pm_init0 cd_init0 ct_init0 : Value}
    {od_fresh0 an_fresh0 : Option Addr} {sl_fresh0 : Array (Option Value)} {oc_fresh0 kV_fresh0 dc_fresh0 pm_fresh0 cd_fresh0 ct_fresh0 : Value}
    {od_fresh1 an_fresh1 : Option Addr} {sl_fresh1 : Array (Option Value)} {oc_fresh1 kV_fresh1 dc_fresh1 pm_fresh1 cd_fresh1 ct_fresh1 : Value}
    {od_fresh2 an_fresh2 : Option Addr} {sl_fresh2 : Array (Option Value)} {oc_fresh2 kV_fresh2 dc_fresh2 pm_fresh2 cd_fresh2 ct_fresh2 : Value}
    {od_fresh3 an_fresh3 : Option Addr} {sl_fresh3 : Array (Option Value)} {oc_fresh3 kV_fresh3 dc_fresh3 pm_fresh3 cd_fresh3 ct_fresh3 : Value}
    {od_twin an_twin : Option Addr} {sl_twin : Array (Option Value)} {oc_twin kV_twin dc_twin pm_twin cd_twin ct_twin : Value}
    {od_access an_access : Option Addr} {sl_access : Array (Option Value)} {oc_access kV_access dc_access pm_access cd_access ct_access : Value}
    {od_tried an_tried : Option Addr} {sl_tried : Array (Option Value)} {oc_tried kV_tried dc_tried pm_tried cd_tried ct_tried : Value}
    {od_undo an_undo : Option Addr} {sl_undo : Array (Option Value)} {oc_undo kV_undo dc_undo pm_undo cd_undo ct_undo : Value}
    {od_len an_len : Option Addr} {sl_len : Array (Option Value)} {oc_len kV_len dc_len pm_len cd_len ct_len : Value}
    {od_eq an_eq : Option Addr} {sl_eq : Array (Option Value)} {oc_eq kV_eq dc_eq pm_eq cd_eq ct_eq : Value}
    {od_go an_go ccd_go cdd_go : Option Addr} {sl_go ccs_go cds_go : Array (Option Value)} {oc_go kV_go dc_go pm_go ct_go ccl_go cdl_go : Value} {cda_go cc_go : Addr} {vs_go : Array Value} {file_go : Str} {tf_go : Tok} {cls_go : ClassData}
    {od_kinit an_kinit ccd_kinit cdd_kinit : Option Addr} {sl_kinit ccs_kinit cds_kinit : Array (Option Value)} {oc_kinit kV_kinit dc_kinit pm_kinit ct_kinit ccl_kinit cdl_kinit : Value} {cda_kinit cc_kinit : Addr} {vs_kinit : Array Value} {file_kinit : Str} {tf_kinit : Tok} {cls_kinit : ClassData}
    {xnm xq : Str} {xN : Addr} {xbs : List Value} {xbm : List Value} {xsn : List Str} {xsub : List Value} {xab : Bool} {xcol : Option Bool} {xdd : Option Addr} {xm0 xm1 xm2 xm3 xm5 : Option Value}
    (X : K.In h) (G : h.Ns mainGlobals mg) (hfa : mg "law" = some (.ref fa))
    (a_is_permutation_of : PySem.W.nsIn K mainGlobals "is_permutation_of" = some (some (.ref f_is_permutation_of)))
    (l_is_permutation_of : K.lookup f_is_permutation_of = some ⟨oc_is_permutation_of, od_is_permutation_of, .func (PySem.W.fnOf "is_permutation_of" "is_permutation_of" (defArgs sIsPerm) (defBody sIsPerm) (defScope sIsPerm) .none kV_is_permutation_of dc_is_permutation_of pm_is_permutation_of an_is_permutation_of cd_is_permutation_of ct_is_permutation_of), sl_is_permutation_of⟩)
    (c_is_permutation_of : PySem.W.codeIn K cd_is_permutation_of "is_permutation_of" = true)
    (k_is_permutation_of : PySem.W.keepIn K (.ref f_is_permutation_of) = true)
    (a_check_rule : PySem.W.nsIn K mainGlobals "check_rule" = some (some (.ref f_check_rule)))
    (l_check_rule : K.lookup f_check_rule = some ⟨oc_check_rule, od_check_rule, .func (PySem.W.fnOf "check_rule" "check_rule" (defArgs sChkRule) (defBody sChkRule) (defScope sChkRule) .none kV_check_rule dc_check_rule pm_check_rule an_check_rule cd_check_rule ct_check_rule), sl_check_rule⟩)
    (c_check_rule : PySem.W.codeIn K cd_check_rule "check_rule" = true)
    (k_check_rule : PySem.W.keepIn K (.ref f_check_rule) = true)
    (a_is_block : PySem.W.nsIn K mainGlobals "is_block" = some (some (.ref f_is_block)))
    (l_is_block : K.lookup f_is_block = some ⟨oc_is_block, od_is_block, .func (PySem.W.fnOf "is_block" "is_block" (defArgs sIsBlock) (defBody sIsBlock) (defScope sIsBlock) .none kV_is_block dc_is_block pm_is_block an_is_block cd_is_block ct_is_block), sl_is_block⟩)
    (c_is_block : PySem.W.codeIn K cd_is_block "is_block" = true)
    (k_is_block : PySem.W.keepIn K (.ref f_is_block) = true)
    (a_is_row : PySem.W.nsIn K mainGlobals "is_row" = some (some (.ref f_is_row)))
    (l_is_row : K.lookup f_is_row = some ⟨oc_is_row, od_is_row, .func (PySem.W.fnOf "is_row" "is_row" (defArgs sIsRow) (defBody sIsRow) (defScope sIsRow) .none kV_is_row dc_is_row pm_is_row an_is_row cd_is_row ct_is_row), sl_is_row⟩)
    (c_is_row : PySem.W.codeIn K cd_is_row "is_row" = true)
    (k_is_row : PySem.W.keepIn K (.ref f_is_row) = true)
    (a_check_stream : PySem.W.nsIn K mainGlobals "check_stream" = some (some (.ref f_check_stream)))
    (l_check_stream : K.lookup f_check_stream = some ⟨oc_check_stream, od_check_stream, .func (PySem.W.fnOf "check_stream" "check_stream" (defArgs sChkStream) (defBody sChkStream) (defScope sChkStream) .none kV_check_stream dc_check_stream pm_check_stream an_check_stream cd_check_stream ct_check_stream), sl_check_stream⟩)
    (c_check_stream : PySem.W.codeIn K cd_check_stream "check_stream" = true)
    (k_check_stream : PySem.W.keepIn K (.ref f_check_stream) = true)
    (a_moved : PySem.W.nsIn K mainGlobals "moved" = some (some (.ref f_moved)))
    (l_moved : K.lookup f_moved = some ⟨oc_moved, od_moved, .func (PySem.W.fnOf "moved" "moved" (defArgs sMoved) (defBody sMoved) (defScope sMoved) .none kV_moved dc_moved pm_moved an_moved cd_moved ct_moved), sl_moved⟩)
    (c_moved : PySem.W.codeIn K cd_moved "moved" = true)
    (k_moved : PySem.W.keepIn K (.ref f_moved) = true)
    (a_row_after_hit : PySem.W.nsIn K mainGlobals "row_after_hit" = some (some (.ref f_row_after_hit)))
    (l_row_after_hit : K.lookup f_row_after_hit = some ⟨oc_row_after_hit, od_row_after_hit, .func (PySem.W.fnOf "row_after_hit" "row_after_hit" (defArgs sHit) (defBody sHit) (defScope sHit) .none kV_row_after_hit dc_row_after_hit pm_row_after_hit an_row_after_hit cd_row_after_hit ct_row_after_hit), sl_row_after_hit⟩)
    (c_row_after_hit : PySem.W.codeIn K cd_row_after_hit "row_after_hit" = true)
    (k_row_after_hit : PySem.W.keepIn K (.ref f_row_after_hit) = true)
    (a_row_after_miss : PySem.W.nsIn K mainGlobals "row_after_miss" = some (some (.ref f_row_after_miss)))
    (l_row_after_miss : K.lookup f_row_after_miss = some ⟨oc_row_after_miss, od_row_after_miss, .func (PySem.W.fnOf "row_after_miss" "row_after_miss" (defArgs sMiss) (defBody sMiss) (defScope sMiss) .none kV_row_after_miss dc_row_after_miss pm_row_after_miss an_row_after_miss cd_row_after_miss ct_row_after_miss), sl_row_after_miss⟩)
    (c_row_after_miss : PySem.W.codeIn K cd_row_after_miss "row_after_miss" = true)
    (k_row_after_miss : PySem.W.keepIn K (.ref f_row_after_miss) = true)
    (a_stepped : PySem.W.nsIn K mainGlobals "stepped" = some (some (.ref f_stepped)))
    (l_stepped : K.lookup f_stepped = some ⟨oc_stepped, od_stepped, .func (PySem.W.fnOf "stepped" "stepped" (defArgs sStepped) (defBody sStepped) (defScope sStepped) .none kV_stepped dc_stepped pm_stepped an_stepped cd_stepped ct_stepped), sl_stepped⟩)
    (c_stepped : PySem.W.codeIn K cd_stepped "stepped" = true)
    (k_stepped : PySem.W.keepIn K (.ref f_stepped) = true)
    (a_check_rows : PySem.W.nsIn K mainGlobals "check_rows" = some (some (.ref f_check_rows)))
    (l_check_rows : K.lookup f_check_rows = some ⟨oc_check_rows, od_check_rows, .func (PySem.W.fnOf "check_rows" "check_rows" (defArgs sChkRows) (defBody sChkRows) (defScope sChkRows) .none kV_check_rows dc_check_rows pm_check_rows an_check_rows cd_check_rows ct_check_rows), sl_check_rows⟩)
    (c_check_rows : PySem.W.codeIn K cd_check_rows "check_rows" = true)
    (k_check_rows : PySem.W.keepIn K (.ref f_check_rows) = true)
    (a_check_block : PySem.W.nsIn K mainGlobals "check_block" = some (some (.ref f_check_block)))
    (l_check_block : K.lookup f_check_block = some ⟨oc_check_block, od_check_block, .func (PySem.W.fnOf "check_block" "check_block" (defArgs sChkBlock) (defBody sChkBlock) (defScope sChkBlock) .none kV_check_block dc_check_block pm_check_block an_check_block cd_check_block ct_check_block), sl_check_block⟩)
    (c_check_block : PySem.W.codeIn K cd_check_block "check_block" = true)
    (k_check_block : PySem.W.keepIn K (.ref f_check_block) = true)
    (a_law_bag : PySem.W.nsIn K mainGlobals "_law_bag" = some (some (.ref f_law_bag)))
    (l_law_bag : K.lookup f_law_bag = some ⟨oc_law_bag, od_law_bag, .func (PySem.W.fnOf "_law_bag" "_law_bag" (defArgs sBag) (defBody sBag) (defScope sBag) .none kV_law_bag dc_law_bag pm_law_bag an_law_bag cd_law_bag ct_law_bag), sl_law_bag⟩)
    (c_law_bag : PySem.W.codeIn K cd_law_bag "_law_bag" = true)
    (k_law_bag : PySem.W.keepIn K (.ref f_law_bag) = true)
    (a_law_draw : PySem.W.nsIn K mainGlobals "_law_draw" = some (some (.ref f_law_draw)))
    (l_law_draw : K.lookup f_law_draw = some ⟨oc_law_draw, od_law_draw, .func (PySem.W.fnOf "_law_draw" "_law_draw" (defArgs sDraw) (defBody sDraw) (defScope sDraw) .none kV_law_draw dc_law_draw pm_law_draw an_law_draw cd_law_draw ct_law_draw), sl_law_draw⟩)
    (c_law_draw : PySem.W.codeIn K cd_law_draw "_law_draw" = true)
    (k_law_draw : PySem.W.keepIn K (.ref f_law_draw) = true)
    (a_law_shuffle : PySem.W.nsIn K mainGlobals "_law_shuffle" = some (some (.ref f_law_shuffle)))
    (l_law_shuffle : K.lookup f_law_shuffle = some ⟨oc_law_shuffle, od_law_shuffle, .func (PySem.W.fnOf "_law_shuffle" "_law_shuffle" (defArgs sShuffle) (defBody sShuffle) (defScope sShuffle) .none kV_law_shuffle dc_law_shuffle pm_law_shuffle an_law_shuffle cd_law_shuffle ct_law_shuffle), sl_law_shuffle⟩)
    (c_law_shuffle : PySem.W.codeIn K cd_law_shuffle "_law_shuffle" = true)
    (k_law_shuffle : PySem.W.keepIn K (.ref f_law_shuffle) = true)
    (a_law_lifted : PySem.W.nsIn K mainGlobals "_law_lifted" = some (some (.ref f_law_lifted)))
    (l_law_lifted : K.lookup f_law_lifted = some ⟨oc_law_lifted, od_law_lifted, .func (PySem.W.fnOf "_law_lifted" "_law_lifted" (defArgs sLift) (defBody sLift) (defScope sLift) .none kV_law_lifted dc_law_lifted pm_law_lifted an_law_lifted cd_law_lifted ct_law_lifted), sl_law_lifted⟩)
    (c_law_lifted : PySem.W.codeIn K cd_law_lifted "_law_lifted" = true)
    (k_law_lifted : PySem.W.keepIn K (.ref f_law_lifted) = true)
    (a_law_some_rule : PySem.W.nsIn K mainGlobals "_law_some_rule" = some (some (.ref f_law_some_rule)))
    (l_law_some_rule : K.lookup f_law_some_rule = some ⟨oc_law_some_rule, od_law_some_rule, .func (PySem.W.fnOf "_law_some_rule" "_law_some_rule" (defArgs sRule) (defBody sRule) (defScope sRule) .none kV_law_some_rule dc_law_some_rule pm_law_some_rule an_law_some_rule cd_law_some_rule ct_law_some_rule), sl_law_some_rule⟩)
    (c_law_some_rule : PySem.W.codeIn K cd_law_some_rule "_law_some_rule" = true)
    (k_law_some_rule : PySem.W.keepIn K (.ref f_law_some_rule) = true)
    (a_law_moved : PySem.W.nsIn K mainGlobals "_law_moved" = some (some (.ref f_law_moved)))
    (l_law_moved : K.lookup f_law_moved = some ⟨oc_law_moved, od_law_moved, .func (PySem.W.fnOf "_law_moved" "_law_moved" (defArgs sLMoved) (defBody sLMoved) (defScope sLMoved) .none kV_law_moved dc_law_moved pm_law_moved an_law_moved cd_law_moved ct_law_moved), sl_law_moved⟩)
    (c_law_moved : PySem.W.codeIn K cd_law_moved "_law_moved" = true)
    (k_law_moved : PySem.W.keepIn K (.ref f_law_moved) = true)
    (a_law_step : PySem.W.nsIn K mainGlobals "_law_step" = some (some (.ref f_law_step)))
    (l_law_step : K.lookup f_law_step = some ⟨oc_law_step, od_law_step, .func (PySem.W.fnOf "_law_step" "_law_step" (defArgs sLStep) (defBody sLStep) (defScope sLStep) .none kV_law_step dc_law_step pm_law_step an_law_step cd_law_step ct_law_step), sl_law_step⟩)
    (c_law_step : PySem.W.codeIn K cd_law_step "_law_step" = true)
    (k_law_step : PySem.W.keepIn K (.ref f_law_step) = true)
    (a_law_accessed : PySem.W.nsIn K mainGlobals "_law_accessed" = some (some (.ref f_law_accessed)))
    (l_law_accessed : K.lookup f_law_accessed = some ⟨oc_law_accessed, od_law_accessed, .func (PySem.W.fnOf "_law_accessed" "_law_accessed" (defArgs sAcc) (defBody sAcc) (defScope sAcc) .none kV_law_accessed dc_law_accessed pm_law_accessed an_law_accessed cd_law_accessed ct_law_accessed), sl_law_accessed⟩)
    (c_law_accessed : PySem.W.codeIn K cd_law_accessed "_law_accessed" = true)
    (k_law_accessed : PySem.W.keepIn K (.ref f_law_accessed) = true)
    (a_law_told : PySem.W.nsIn K mainGlobals "_law_told" = some (some (.ref f_law_told)))
    (l_law_told : K.lookup f_law_told = some ⟨oc_law_told, od_law_told, .func (PySem.W.fnOf "_law_told" "_law_told" (defArgs sTold) (defBody sTold) (defScope sTold) .none kV_law_told dc_law_told pm_law_told an_law_told cd_law_told ct_law_told), sl_law_told⟩)
    (c_law_told : PySem.W.codeIn K cd_law_told "_law_told" = true)
    (k_law_told : PySem.W.keepIn K (.ref f_law_told) = true)
    (a_law_state_right : PySem.W.nsIn K mainGlobals "_law_state_right" = some (some (.ref f_law_state_right)))
    (l_law_state_right : K.lookup f_law_state_right = some ⟨oc_law_state_right, od_law_state_right, .func (PySem.W.fnOf "_law_state_right" "_law_state_right" (defArgs sState) (defBody sState) (defScope sState) .none kV_law_state_right dc_law_state_right pm_law_state_right an_law_state_right cd_law_state_right ct_law_state_right), sl_law_state_right⟩)
    (c_law_state_right : PySem.W.codeIn K cd_law_state_right "_law_state_right" = true)
    (k_law_state_right : PySem.W.keepIn K (.ref f_law_state_right) = true)
    (a_law_trial_right : PySem.W.nsIn K mainGlobals "_law_trial_right" = some (some (.ref f_law_trial_right)))
    (l_law_trial_right : K.lookup f_law_trial_right = some ⟨oc_law_trial_right, od_law_trial_right, .func (PySem.W.fnOf "_law_trial_right" "_law_trial_right" (defArgs sTrial) (defBody sTrial) (defScope sTrial) .none kV_law_trial_right dc_law_trial_right pm_law_trial_right an_law_trial_right cd_law_trial_right ct_law_trial_right), sl_law_trial_right⟩)
    (c_law_trial_right : PySem.W.codeIn K cd_law_trial_right "_law_trial_right" = true)
    (k_law_trial_right : PySem.W.keepIn K (.ref f_law_trial_right) = true)
    (a_law_call_right : PySem.W.nsIn K mainGlobals "_law_call_right" = some (some (.ref f_law_call_right)))
    (l_law_call_right : K.lookup f_law_call_right = some ⟨oc_law_call_right, od_law_call_right, .func (PySem.W.fnOf "_law_call_right" "_law_call_right" (defArgs sCall) (defBody sCall) (defScope sCall) .none kV_law_call_right dc_law_call_right pm_law_call_right an_law_call_right cd_law_call_right ct_law_call_right), sl_law_call_right⟩)
    (c_law_call_right : PySem.W.codeIn K cd_law_call_right "_law_call_right" = true)
    (k_law_call_right : PySem.W.keepIn K (.ref f_law_call_right) = true)
    (a_law_made : PySem.W.nsIn K mainGlobals "_law_made" = some (some (.ref f_law_made)))
    (l_law_made : K.lookup f_law_made = some ⟨oc_law_made, od_law_made, .func (PySem.W.fnOf "_law_made" "_law_made" (defArgs sMade) (defBody sMade) (defScope sMade) .none kV_law_made dc_law_made pm_law_made an_law_made cd_law_made ct_law_made), sl_law_made⟩)
    (c_law_made : PySem.W.codeIn K cd_law_made "_law_made" = true)
    (k_law_made : PySem.W.keepIn K (.ref f_law_made) = true)
    (a_law_right : PySem.W.nsIn K mainGlobals "_law_right" = some (some (.ref f_law_right)))
    (l_law_right : K.lookup f_law_right = some ⟨oc_law_right, od_law_right, .func (PySem.W.fnOf "_law_right" "_law_right" (defArgs sRight) (defBody sRight) (defScope sRight) .none kV_law_right dc_law_right pm_law_right an_law_right cd_law_right ct_law_right), sl_law_right⟩)
    (c_law_right : PySem.W.codeIn K cd_law_right "_law_right" = true)
    (k_law_right : PySem.W.keepIn K (.ref f_law_right) = true)
    (a_law : PySem.W.nsIn K mainGlobals "law" = some (some (.ref f_law)))
    (l_law : K.lookup f_law = some ⟨oc_law, od_law, .func (PySem.W.fnOf "law" "law" (defArgs sLaw) (defBody sLaw) (defScope sLaw) .none kV_law dc_law pm_law an_law cd_law ct_law), sl_law⟩)
    (c_law : PySem.W.codeIn K cd_law "law" = true)
    (k_law : PySem.W.keepIn K (.ref f_law) = true)
    (a_ii : PySem.W.nsIn K mainGlobals "is_integer" = some (some (.ref f_isint)))
    (l_ii : K.lookup f_isint = some ⟨oc_ii, od_ii, .func (PySem.W.fnOf "is_integer" "is_integer" (defArgs sIsInt) (defBody sIsInt) (defScope sIsInt) (.ref T_ii) kV_ii dc_ii pm_ii an_ii cd_ii ct_ii), sl_ii⟩)
    (c_ii : PySem.W.codeIn K cd_ii "is_integer" = true)
    (k_ii : PySem.W.keepIn K (.ref f_isint) = true)
    (t_ii : K.lookup T_ii = some ⟨tc_ii, td_ii, .seq [Value.none, Value.none].toArray tn_ii, ts_ii⟩)
    (b_isinstance : PySem.W.nsIn K mainGlobals "isinstance" = some none)
    (b_int : PySem.W.nsIn K mainGlobals "int" = some none)
    (b_bool : PySem.W.nsIn K mainGlobals "bool" = some none)
    (b_list : PySem.W.nsIn K mainGlobals "list" = some none)
    (b_tuple : PySem.W.nsIn K mainGlobals "tuple" = some none)
    (b_len : PySem.W.nsIn K mainGlobals "len" = some none)
    (b_all : PySem.W.nsIn K mainGlobals "all" = some none)
    (b_sum : PySem.W.nsIn K mainGlobals "sum" = some none)
    (b_sorted : PySem.W.nsIn K mainGlobals "sorted" = some none)
    (b_set : PySem.W.nsIn K mainGlobals "set" = some none)
    (b_range : PySem.W.nsIn K mainGlobals "range" = some none)
    (b_enumerate : PySem.W.nsIn K mainGlobals "enumerate" = some none)
    (b_min : PySem.W.nsIn K mainGlobals "min" = some none)
    (b_super : PySem.W.nsIn K mainGlobals "super" = some none)
    (n_LEAST_PLACES : PySem.W.nsIn K mainGlobals "LEAST_PLACES" = some (some (.int 2 t_LEAST_PLACES)))
    (n_MOST_PLACES : PySem.W.nsIn K mainGlobals "MOST_PLACES" = some (some (.int 12 t_MOST_PLACES)))
    (n_MOST_BLOCK : PySem.W.nsIn K mainGlobals "MOST_BLOCK" = some (some (.int 1000000000 t_MOST_BLOCK)))
    (g0 : PySem.W.nsIn K mainGlobals "Cache" = some (some (.ref c0)))
    (g1 : PySem.W.nsIn K mainGlobals "CountingCache" = some (some (.ref c1)))
    (g2 : PySem.W.nsIn K mainGlobals "KeepingCache" = some (some (.ref c2)))
    (g3 : PySem.W.nsIn K mainGlobals "CountingKeepingCache" = some (some (.ref c3)))
    (gcg : PySem.W.nsIn K mainGlobals "GoesError" = some (some (.ref cg)))
    (gcw : PySem.W.nsIn K mainGlobals "WouldGo" = some (some (.ref cw)))
    (gcn : PySem.W.nsIn K mainGlobals "NothingToUndo" = some (some (.ref cn)))
    (pg0 : PySem.W.plainGet K c0 Str.empty = true)
    (hd0 : PySem.W.hasDictIn K c0 = true)
    (po0 : PySem.W.plainOver K c0 = true)
    (sa0 : PySem.W.findIn K (.ref c0) "__setattr__" = some (some (.builtin "object.__setattr__")))
    (nr0 : PySem.W.findIn K (.ref c0) "rule_here" = some none)
    (np0 : PySem.W.findIn K (.ref c0) "present" = some none)
    (nq0 : PySem.W.findIn K (.ref c0) "past" = some none)
    (nk0 : PySem.W.findIn K (.ref c0) "kept_here" = some none)
    (ki0 : PySem.W.findIn K (.ref c0) "KIND" = some (some (.int kd0 kt0)))
    (kg0 : PySem.W.specialIn K (.int kd0 kt0) "__get__" = some none)
    (cl0 : PySem.W.findIn K (.ref c0) "__class__" = some (some (.builtin "object.__class__")))
    (mo0 : PySem.W.mroIn K c0 (.type "object") = some true)
    (mk0 : PySem.W.makesIn K c0 = true)
    (kc0 : PySem.W.keepIn K (.ref c0) = true)
    (sb0 : PySem.W.subIn K (.ref c0) (.ref c0) = some true)
    (m0_init0 : PySem.W.findIn K (.ref c0) "__init__" = some (some (.ref f_init0)))
    (m0_fresh0 : PySem.W.findIn K (.ref c0) "fresh_twin" = some (some (.ref f_fresh0)))
    (m0_twin : PySem.W.findIn K (.ref c0) "twin" = some (some (.ref f_twin)))
    (m0_access : PySem.W.findIn K (.ref c0) "access" = some (some (.ref f_access)))
    (m0_tried : PySem.W.findIn K (.ref c0) "tried" = some (some (.ref f_tried)))
    (m0_undo : PySem.W.findIn K (.ref c0) "undo" = some (some (.ref f_undo)))
    (m0_len : PySem.W.findIn K (.ref c0) "__len__" = some (some (.ref f_len)))
    (m0_eq : PySem.W.findIn K (.ref c0) "__eq__" = some (some (.ref f_eq)))
    (ne0 : PySem.W.findIn K (.ref c0) "__ne__" = some (some (.builtin "object.__ne__")))
    (p0_rows : PySem.W.findIn K (.ref c0) "rows" = some (some (.ref p_rows)))
    (p0_hits : PySem.W.findIn K (.ref c0) "hits" = some (some (.ref p_hits)))
    (p0_misses : PySem.W.findIn K (.ref c0) "misses" = some (some (.ref p_misses)))
    (pg1 : PySem.W.plainGet K c1 Str.empty = true)
    (hd1 : PySem.W.hasDictIn K c1 = true)
    (po1 : PySem.W.plainOver K c1 = true)
    (sa1 : PySem.W.findIn K (.ref c1) "__setattr__" = some (some (.builtin "object.__setattr__")))
    (nr1 : PySem.W.findIn K (.ref c1) "rule_here" = some none)
    (np1 : PySem.W.findIn K (.ref c1) "present" = some none)
    (nq1 : PySem.W.findIn K (.ref c1) "past" = some none)
    (nk1 : PySem.W.findIn K (.ref c1) "kept_here" = some none)
    (ki1 : PySem.W.findIn K (.ref c1) "KIND" = some (some (.int kd1 kt1)))
    (kg1 : PySem.W.specialIn K (.int kd1 kt1) "__get__" = some none)
    (cl1 : PySem.W.findIn K (.ref c1) "__class__" = some (some (.builtin "object.__class__")))
    (mo1 : PySem.W.mroIn K c1 (.type "object") = some true)
    (mk1 : PySem.W.makesIn K c1 = true)
    (kc1 : PySem.W.keepIn K (.ref c1) = true)
    (sb1 : PySem.W.subIn K (.ref c1) (.ref c0) = some true)
    (m1_init0 : PySem.W.findIn K (.ref c1) "__init__" = some (some (.ref f_init0)))
    (m1_fresh1 : PySem.W.findIn K (.ref c1) "fresh_twin" = some (some (.ref f_fresh1)))
    (m1_twin : PySem.W.findIn K (.ref c1) "twin" = some (some (.ref f_twin)))
    (m1_access : PySem.W.findIn K (.ref c1) "access" = some (some (.ref f_access)))
    (m1_tried : PySem.W.findIn K (.ref c1) "tried" = some (some (.ref f_tried)))
    (m1_undo : PySem.W.findIn K (.ref c1) "undo" = some (some (.ref f_undo)))
    (m1_len : PySem.W.findIn K (.ref c1) "__len__" = some (some (.ref f_len)))
    (m1_eq : PySem.W.findIn K (.ref c1) "__eq__" = some (some (.ref f_eq)))
    (ne1 : PySem.W.findIn K (.ref c1) "__ne__" = some (some (.builtin "object.__ne__")))
    (p1_rows : PySem.W.findIn K (.ref c1) "rows" = some (some (.ref p_rows)))
    (p1_hits : PySem.W.findIn K (.ref c1) "hits" = some (some (.ref p_hits)))
    (p1_misses : PySem.W.findIn K (.ref c1) "misses" = some (some (.ref p_misses)))
    (p1_by_set : PySem.W.findIn K (.ref c1) "by_set" = some (some (.ref p_by_set)))
    (pg2 : PySem.W.plainGet K c2 Str.empty = true)
    (hd2 : PySem.W.hasDictIn K c2 = true)
    (po2 : PySem.W.plainOver K c2 = true)
    (sa2 : PySem.W.findIn K (.ref c2) "__setattr__" = some (some (.builtin "object.__setattr__")))
    (nr2 : PySem.W.findIn K (.ref c2) "rule_here" = some none)
    (np2 : PySem.W.findIn K (.ref c2) "present" = some none)
    (nq2 : PySem.W.findIn K (.ref c2) "past" = some none)
    (nk2 : PySem.W.findIn K (.ref c2) "kept_here" = some none)
    (ki2 : PySem.W.findIn K (.ref c2) "KIND" = some (some (.int kd2 kt2)))
    (kg2 : PySem.W.specialIn K (.int kd2 kt2) "__get__" = some none)
    (cl2 : PySem.W.findIn K (.ref c2) "__class__" = some (some (.builtin "object.__class__")))
    (mo2 : PySem.W.mroIn K c2 (.type "object") = some true)
    (mk2 : PySem.W.makesIn K c2 = true)
    (kc2 : PySem.W.keepIn K (.ref c2) = true)
    (sb2 : PySem.W.subIn K (.ref c2) (.ref c0) = some true)
    (m2_kinit : PySem.W.findIn K (.ref c2) "__init__" = some (some (.ref f_kinit)))
    (m2_fresh2 : PySem.W.findIn K (.ref c2) "fresh_twin" = some (some (.ref f_fresh2)))
    (m2_twin : PySem.W.findIn K (.ref c2) "twin" = some (some (.ref f_twin)))
    (m2_access : PySem.W.findIn K (.ref c2) "access" = some (some (.ref f_access)))
    (m2_tried : PySem.W.findIn K (.ref c2) "tried" = some (some (.ref f_tried)))
    (m2_undo : PySem.W.findIn K (.ref c2) "undo" = some (some (.ref f_undo)))
    (m2_len : PySem.W.findIn K (.ref c2) "__len__" = some (some (.ref f_len)))
    (m2_eq : PySem.W.findIn K (.ref c2) "__eq__" = some (some (.ref f_eq)))
    (ne2 : PySem.W.findIn K (.ref c2) "__ne__" = some (some (.builtin "object.__ne__")))
    (p2_rows : PySem.W.findIn K (.ref c2) "rows" = some (some (.ref p_rows)))
    (p2_hits : PySem.W.findIn K (.ref c2) "hits" = some (some (.ref p_hits)))
    (p2_misses : PySem.W.findIn K (.ref c2) "misses" = some (some (.ref p_misses)))
    (p2_kept : PySem.W.findIn K (.ref c2) "kept" = some (some (.ref p_kept)))
    (pg3 : PySem.W.plainGet K c3 Str.empty = true)
    (hd3 : PySem.W.hasDictIn K c3 = true)
    (po3 : PySem.W.plainOver K c3 = true)
    (sa3 : PySem.W.findIn K (.ref c3) "__setattr__" = some (some (.builtin "object.__setattr__")))
    (nr3 : PySem.W.findIn K (.ref c3) "rule_here" = some none)
    (np3 : PySem.W.findIn K (.ref c3) "present" = some none)
    (nq3 : PySem.W.findIn K (.ref c3) "past" = some none)
    (nk3 : PySem.W.findIn K (.ref c3) "kept_here" = some none)
    (ki3 : PySem.W.findIn K (.ref c3) "KIND" = some (some (.int kd3 kt3)))
    (kg3 : PySem.W.specialIn K (.int kd3 kt3) "__get__" = some none)
    (cl3 : PySem.W.findIn K (.ref c3) "__class__" = some (some (.builtin "object.__class__")))
    (mo3 : PySem.W.mroIn K c3 (.type "object") = some true)
    (mk3 : PySem.W.makesIn K c3 = true)
    (kc3 : PySem.W.keepIn K (.ref c3) = true)
    (sb3 : PySem.W.subIn K (.ref c3) (.ref c0) = some true)
    (m3_kinit : PySem.W.findIn K (.ref c3) "__init__" = some (some (.ref f_kinit)))
    (m3_fresh3 : PySem.W.findIn K (.ref c3) "fresh_twin" = some (some (.ref f_fresh3)))
    (m3_twin : PySem.W.findIn K (.ref c3) "twin" = some (some (.ref f_twin)))
    (m3_access : PySem.W.findIn K (.ref c3) "access" = some (some (.ref f_access)))
    (m3_tried : PySem.W.findIn K (.ref c3) "tried" = some (some (.ref f_tried)))
    (m3_undo : PySem.W.findIn K (.ref c3) "undo" = some (some (.ref f_undo)))
    (m3_len : PySem.W.findIn K (.ref c3) "__len__" = some (some (.ref f_len)))
    (m3_eq : PySem.W.findIn K (.ref c3) "__eq__" = some (some (.ref f_eq)))
    (ne3 : PySem.W.findIn K (.ref c3) "__ne__" = some (some (.builtin "object.__ne__")))
    (p3_rows : PySem.W.findIn K (.ref c3) "rows" = some (some (.ref p_rows)))
    (p3_hits : PySem.W.findIn K (.ref c3) "hits" = some (some (.ref p_hits)))
    (p3_misses : PySem.W.findIn K (.ref c3) "misses" = some (some (.ref p_misses)))
    (p3_by_set : PySem.W.findIn K (.ref c3) "by_set" = some (some (.ref p_by_set)))
    (p3_kept : PySem.W.findIn K (.ref c3) "kept" = some (some (.ref p_kept)))
    (oc1_ : PySem.W.specialIn K (.builtin "object.__class__") "__get__" = some (some (.builtin "getset_descriptor.__get__")))
    (oc2_ : PySem.W.takesIn K (.builtin "object.__class__") = some true)
    (ic0 : PySem.W.isClsIn K c0 = true)
    (ty0 : PySem.W.typeIn K (.ref c0) = some (.type "type"))
    (pget_rows : PySem.W.specialIn K (.ref p_rows) "__get__" = some (some (.builtin "property.__get__")))
    (ptak_rows : PySem.W.takesIn K (.ref p_rows) = some true)
    (prec_rows : PySem.W.recIn K p_rows "property" = some (.ref f_rows :: rest_rows))
    (l_rows : K.lookup f_rows = some ⟨oc_rows, od_rows, .func (PySem.W.fnOf "rows" "Cache.rows" (defArgs sRows) (defBody sRows) (defScope sRows) .none kV_rows dc_rows pm_rows an_rows cd_rows ct_rows), sl_rows⟩)
    (c_rows : PySem.W.codeIn K cd_rows "Cache.rows" = true)
    (k_rows : PySem.W.keepIn K (.ref f_rows) = true)
    (pget_hits : PySem.W.specialIn K (.ref p_hits) "__get__" = some (some (.builtin "property.__get__")))
    (ptak_hits : PySem.W.takesIn K (.ref p_hits) = some true)
    (prec_hits : PySem.W.recIn K p_hits "property" = some (.ref f_hits :: rest_hits))
    (l_hits : K.lookup f_hits = some ⟨oc_hits, od_hits, .func (PySem.W.fnOf "hits" "Cache.hits" (defArgs sHits) (defBody sHits) (defScope sHits) .none kV_hits dc_hits pm_hits an_hits cd_hits ct_hits), sl_hits⟩)
    (c_hits : PySem.W.codeIn K cd_hits "Cache.hits" = true)
    (k_hits : PySem.W.keepIn K (.ref f_hits) = true)
    (pget_misses : PySem.W.specialIn K (.ref p_misses) "__get__" = some (some (.builtin "property.__get__")))
    (ptak_misses : PySem.W.takesIn K (.ref p_misses) = some true)
    (prec_misses : PySem.W.recIn K p_misses "property" = some (.ref f_misses :: rest_misses))
    (l_misses : K.lookup f_misses = some ⟨oc_misses, od_misses, .func (PySem.W.fnOf "misses" "Cache.misses" (defArgs sMisses) (defBody sMisses) (defScope sMisses) .none kV_misses dc_misses pm_misses an_misses cd_misses ct_misses), sl_misses⟩)
    (c_misses : PySem.W.codeIn K cd_misses "Cache.misses" = true)
    (k_misses : PySem.W.keepIn K (.ref f_misses) = true)
    (pget_by_set : PySem.W.specialIn K (.ref p_by_set) "__get__" = some (some (.builtin "property.__get__")))
    (ptak_by_set : PySem.W.takesIn K (.ref p_by_set) = some true)
    (prec_by_set : PySem.W.recIn K p_by_set "property" = some (.ref f_by_set :: rest_by_set))
    (l_by_set : K.lookup f_by_set = some ⟨oc_by_set, od_by_set, .func (PySem.W.fnOf "by_set" "CountingCache.by_set" (defArgs sBySet) (defBody sBySet) (defScope sBySet) .none kV_by_set dc_by_set pm_by_set an_by_set cd_by_set ct_by_set), sl_by_set⟩)
    (c_by_set : PySem.W.codeIn K cd_by_set "CountingCache.by_set" = true)
    (k_by_set : PySem.W.keepIn K (.ref f_by_set) = true)
    (pget_kept : PySem.W.specialIn K (.ref p_kept) "__get__" = some (some (.builtin "property.__get__")))
    (ptak_kept : PySem.W.takesIn K (.ref p_kept) = some true)
    (prec_kept : PySem.W.recIn K p_kept "property" = some (.ref f_kept :: rest_kept))
    (l_kept : K.lookup f_kept = some ⟨oc_kept, od_kept, .func (PySem.W.fnOf "kept" "KeepingCache.kept" (defArgs sKept) (defBody sKept) (defScope sKept) .none kV_kept dc_kept pm_kept an_kept cd_kept ct_kept), sl_kept⟩)
    (c_kept : PySem.W.codeIn K cd_kept "KeepingCache.kept" = true)
    (k_kept : PySem.W.keepIn K (.ref f_kept) = true)
    (l_init0 : K.lookup f_init0 = some ⟨oc_init0, od_init0, .func (PySem.W.fnOf "__init__" "Cache.__init__" (defArgs sInit) (defBody sInit) (defScope sInit) .none kV_init0 dc_init0 pm_init0 an_init0 cd_init0 ct_init0), sl_init0⟩)
    (c_init0 : PySem.W.codeIn K cd_init0 "Cache.__init__" = true)
    (k_init0 : PySem.W.keepIn K (.ref f_init0) = true)
    (i_init0 : PySem.W.isFn K (.ref f_init0) = true)
    (l_fresh0 : K.lookup f_fresh0 = some ⟨oc_fresh0, od_fresh0, .func (PySem.W.fnOf "fresh_twin" "Cache.fresh_twin" (defArgs sFresh0) (defBody sFresh0) (defScope sFresh0) .none kV_fresh0 dc_fresh0 pm_fresh0 an_fresh0 cd_fresh0 ct_fresh0), sl_fresh0⟩)
    (c_fresh0 : PySem.W.codeIn K cd_fresh0 "Cache.fresh_twin" = true)
    (k_fresh0 : PySem.W.keepIn K (.ref f_fresh0) = true)
    (i_fresh0 : PySem.W.isFn K (.ref f_fresh0) = true)
    (l_fresh1 : K.lookup f_fresh1 = some ⟨oc_fresh1, od_fresh1, .func (PySem.W.fnOf "fresh_twin" "CountingCache.fresh_twin" (defArgs sFresh1) (defBody sFresh1) (defScope sFresh1) .none kV_fresh1 dc_fresh1 pm_fresh1 an_fresh1 cd_fresh1 ct_fresh1), sl_fresh1⟩)
    (c_fresh1 : PySem.W.codeIn K cd_fresh1 "CountingCache.fresh_twin" = true)
    (k_fresh1 : PySem.W.keepIn K (.ref f_fresh1) = true)
    (i_fresh1 : PySem.W.isFn K (.ref f_fresh1) = true)
    (l_fresh2 : K.lookup f_fresh2 = some ⟨oc_fresh2, od_fresh2, .func (PySem.W.fnOf "fresh_twin" "KeepingCache.fresh_twin" (defArgs sFresh2) (defBody sFresh2) (defScope sFresh2) .none kV_fresh2 dc_fresh2 pm_fresh2 an_fresh2 cd_fresh2 ct_fresh2), sl_fresh2⟩)
    (c_fresh2 : PySem.W.codeIn K cd_fresh2 "KeepingCache.fresh_twin" = true)
    (k_fresh2 : PySem.W.keepIn K (.ref f_fresh2) = true)
    (i_fresh2 : PySem.W.isFn K (.ref f_fresh2) = true)
    (l_fresh3 : K.lookup f_fresh3 = some ⟨oc_fresh3, od_fresh3, .func (PySem.W.fnOf "fresh_twin" "CountingKeepingCache.fresh_twin" (defArgs sFresh3) (defBody sFresh3) (defScope sFresh3) .none kV_fresh3 dc_fresh3 pm_fresh3 an_fresh3 cd_fresh3 ct_fresh3), sl_fresh3⟩)
    (c_fresh3 : PySem.W.codeIn K cd_fresh3 "CountingKeepingCache.fresh_twin" = true)
    (k_fresh3 : PySem.W.keepIn K (.ref f_fresh3) = true)
    (i_fresh3 : PySem.W.isFn K (.ref f_fresh3) = true)
    (l_twin : K.lookup f_twin = some ⟨oc_twin, od_twin, .func (PySem.W.fnOf "twin" "Cache.twin" (defArgs sTwin) (defBody sTwin) (defScope sTwin) .none kV_twin dc_twin pm_twin an_twin cd_twin ct_twin), sl_twin⟩)
    (c_twin : PySem.W.codeIn K cd_twin "Cache.twin" = true)
    (k_twin : PySem.W.keepIn K (.ref f_twin) = true)
    (i_twin : PySem.W.isFn K (.ref f_twin) = true)
    (l_access : K.lookup f_access = some ⟨oc_access, od_access, .func (PySem.W.fnOf "access" "Cache.access" (defArgs sAccess) (defBody sAccess) (defScope sAccess) .none kV_access dc_access pm_access an_access cd_access ct_access), sl_access⟩)
    (c_access : PySem.W.codeIn K cd_access "Cache.access" = true)
    (k_access : PySem.W.keepIn K (.ref f_access) = true)
    (i_access : PySem.W.isFn K (.ref f_access) = true)
    (l_tried : K.lookup f_tried = some ⟨oc_tried, od_tried, .func (PySem.W.fnOf "tried" "Cache.tried" (defArgs sTried) (defBody sTried) (defScope sTried) .none kV_tried dc_tried pm_tried an_tried cd_tried ct_tried), sl_tried⟩)
    (c_tried : PySem.W.codeIn K cd_tried "Cache.tried" = true)
    (k_tried : PySem.W.keepIn K (.ref f_tried) = true)
    (i_tried : PySem.W.isFn K (.ref f_tried) = true)
    (l_undo : K.lookup f_undo = some ⟨oc_undo, od_undo, .func (PySem.W.fnOf "undo" "Cache.undo" (defArgs sUndo) (defBody sUndo) (defScope sUndo) .none kV_undo dc_undo pm_undo an_undo cd_undo ct_undo), sl_undo⟩)
    (c_undo : PySem.W.codeIn K cd_undo "Cache.undo" = true)
    (k_undo : PySem.W.keepIn K (.ref f_undo) = true)
    (i_undo : PySem.W.isFn K (.ref f_undo) = true)
    (l_len : K.lookup f_len = some ⟨oc_len, od_len, .func (PySem.W.fnOf "__len__" "Cache.__len__" (defArgs sLen) (defBody sLen) (defScope sLen) .none kV_len dc_len pm_len an_len cd_len ct_len), sl_len⟩)
    (c_len : PySem.W.codeIn K cd_len "Cache.__len__" = true)
    (k_len : PySem.W.keepIn K (.ref f_len) = true)
    (i_len : PySem.W.isFn K (.ref f_len) = true)
    (l_eq : K.lookup f_eq = some ⟨oc_eq, od_eq, .func (PySem.W.fnOf "__eq__" "Cache.__eq__" (defArgs sEq) (defBody sEq) (defScope sEq) .none kV_eq dc_eq pm_eq an_eq cd_eq ct_eq), sl_eq⟩)
    (c_eq : PySem.W.codeIn K cd_eq "Cache.__eq__" = true)
    (k_eq : PySem.W.keepIn K (.ref f_eq) = true)
    (i_eq : PySem.W.isFn K (.ref f_eq) = true)
    (fi_go : PySem.W.findIn K (.ref cw) "__init__" = some (some (.ref f_go)))
    (l_go : K.lookup f_go = some ⟨oc_go, od_go, .func (PySem.W.ksFn "__init__" "WouldGo.__init__" (defArgs sGo) (defBody sGo) (defScope sGo) .none kV_go dc_go pm_go an_go (.ref cda_go) ct_go cc_go), sl_go⟩)
    (c_go : PySem.W.codeIn K (.ref cda_go) "WouldGo.__init__" = true)
    (lc_go : K.lookup cda_go = some ⟨cdl_go, cdd_go, .fields vs_go, cds_go⟩)
    (hv_go : vs_go[2]? = some (.str file_go tf_go))
    (hf_go : ((P.main.file : Str) == file_go) = true)
    (lx_go : K.lookup cc_go = some ⟨ccl_go, ccd_go, .cell (some (.ref cw)), ccs_go⟩)
    (cx_go : PySem.W.clsIn K cw = some cls_go)
    (ty_go : PySem.W.typeIn K (.ref f_go) = some (.type "function"))
    (l_kinit : K.lookup f_kinit = some ⟨oc_kinit, od_kinit, .func (PySem.W.ksFn "__init__" "KeepingCache.__init__" (defArgs sKInit) (defBody sKInit) (defScope sKInit) .none kV_kinit dc_kinit pm_kinit an_kinit (.ref cda_kinit) ct_kinit cc_kinit), sl_kinit⟩)
    (c_kinit : PySem.W.codeIn K (.ref cda_kinit) "KeepingCache.__init__" = true)
    (lc_kinit : K.lookup cda_kinit = some ⟨cdl_kinit, cdd_kinit, .fields vs_kinit, cds_kinit⟩)
    (hv_kinit : vs_kinit[2]? = some (.str file_kinit tf_kinit))
    (hf_kinit : ((P.main.file : Str) == file_kinit) = true)
    (lx_kinit : K.lookup cc_kinit = some ⟨ccl_kinit, ccd_kinit, .cell (some (.ref c2)), ccs_kinit⟩)
    (cx_kinit : PySem.W.clsIn K c2 = some cls_kinit)
    (ty_kinit : PySem.W.typeIn K (.ref f_kinit) = some (.type "function"))
    (i_kinit : PySem.W.isFn K (.ref f_kinit) = true)
    (tp : (P.main.scope.names.lookup ("super" : Str)).isSome = false)
    (ta : PySem.W.nsIn K cStatics "thirdparty.any" = some none)
    (mr2 : PySem.W.mroIn K c2 (.ref c2) = some true)
    (su2 : PySem.W.ks_superIn K c2 c2 "__init__" = some (some (.ref f_init0)))
    (mr3 : PySem.W.mroIn K c3 (.ref c2) = some true)
    (su3 : PySem.W.ks_superIn K c3 c2 "__init__" = some (some (.ref f_init0)))
    (tyi : PySem.W.typeIn K (.ref f_init0) = some (.type "function"))
    (fni : PySem.W.fnIn K f_init0 = true)
    (xl : K.lookup cw = some (excClassObj xnm xq cw xN xbs xbm true xsn xsub xab xcol xdd xm0 xm1 xm2 xm3 xm5 "ValueError.__new__"))
    (xr : PySem.HandSPX.refsVE xbm = true)
    (xsa : PySem.W.findIn K (.ref cw) "__setattr__" = some (some (.builtin "object.__setattr__")))
    (xblk : PySem.W.findIn K (.ref cw) "block" = some none)
    (xmr : PySem.W.mroIn K cw (.ref cw) = some true)
    (xsu : PySem.W.ks_superIn K cw cw "__init__" = some (some (.builtin "ValueError.__init__")))
    (xve : PySem.W.subIn K (.ref cw) (.type "ValueError") = some true)
    (e1cw : PySem.W.subIn K (.ref cw) (.type "BaseException") = some true)
    (e2cw : PySem.W.typeIn K (.ref cw) = some (.type "type"))
    (e3cw : PySem.W.keepIn K (.ref cw) = true)
    (e4cw : PySem.W.subIn K (.ref cw) (.ref cg) = some true)
    (e1cn : PySem.W.subIn K (.ref cn) (.type "BaseException") = some true)
    (e2cn : PySem.W.typeIn K (.ref cn) = some (.type "type"))
    (e3cn : PySem.W.keepIn K (.ref cn) = true)
    (e4cn : PySem.W.subIn K (.ref cn) (.ref cg) = some true)
    (e5 : PySem.W.subIn K (.ref cg) (.type "BaseException") = some true)
    (e6 : PySem.W.isClsIn K cg = true)
    (e7 : PySem.W.typeIn K (.ref cg) = some (.type "type"))
    (nq_ : PySem.W.excIn K cn [.type "ValueError", .type "Exception", .type "BaseException", .type "object"] "ValueError.__new__" = true) :
    ∃ fd : FuncData, (∀ (s : Shared) (v : Value), BindsTo s fd ⟨[v], []⟩ [("_law_script", v)]) ∧ ∀ base : Heap, K.In base → base.Ns mainGlobals mg → FnOk P w K mg base CX0 14 fa fd ["_law_script"] (spLaw K) := by
  have e := hfa.symm.trans (PySem.W.mg_of X G a_law)
  cases e
  have B : Bi mg := ⟨PySem.W.mg_none_of X G b_isinstance, PySem.W.mg_none_of X G b_int, PySem.W.mg_none_of X G b_bool, PySem.W.mg_none_of X G b_list, PySem.W.mg_none_of X G b_tuple, PySem.W.mg_none_of X G b_len, PySem.W.mg_none_of X G b_all, PySem.W.mg_none_of X G b_sum, PySem.W.mg_none_of X G b_sorted, PySem.W.mg_none_of X G b_set, PySem.W.mg_none_of X G b_range, PySem.W.mg_none_of X G b_enumerate, PySem.W.mg_none_of X G b_min, PySem.W.mg_none_of X G b_super⟩
  have CT : Ct mg := ⟨⟨_, PySem.W.mg_of X G n_LEAST_PLACES⟩, ⟨_, PySem.W.mg_of X G n_MOST_PLACES⟩, ⟨_, PySem.W.mg_of X G n_MOST_BLOCK⟩⟩
  refine ⟨PySem.W.fnOf "law" "law" (defArgs sLaw) (defBody sLaw) (defScope sLaw) .none kV_law dc_law pm_law an_law cd_law ct_law, fun s v => .of_eq rfl, fun base _ _ => ?_⟩
  have Fii : FunD K "is_integer" "is_integer" (defArgs sIsInt) (defBody sIsInt) (defScope sIsInt) [.non, .non] [] f_isint _ := ⟨⟨_, _, _, _, _, _, _, _, _, _, rfl, l_ii, c_ii, .inr ⟨by simp, T_ii, _, [Value.none, Value.none], _, rfl, t_ii, rfl, .cons rfl (.cons rfl .nil)⟩, .inl rfl⟩, k_ii⟩
  have Oii := ok_isInt (P := P) (w := w) (base := base) B Fii
  have K1 : Fk P w K mg base CX0 1 "is_integer" spInt1 := by
    obtain ⟨ds, hd, hb⟩ := Fii.binds1 (ps := ["value", "least", "most"]) 1 0 (by simp) rfl fun T kV doc pm an cdv ct us its hl hi => (match us, its, hl, hi with | [_], [_, _], _, _ => ⟨_, rfl, rfl⟩)
    exact ⟨_, PySem.W.mg_of X G a_ii, k_ii, Oii.raw hb hd⟩
  have K3 : Fk P w K mg base CX0 1 "is_integer" spIsInt := by
    obtain ⟨ds, hd, hb⟩ := Fii.binds1 (ps := ["value", "least", "most"]) 3 2 (by simp) rfl fun T kV doc pm an cdv ct us its hl hi => (match us, its, hl, hi with | [_, _, _], [_, _], _, _ => ⟨_, rfl, rfl⟩)
    cases hd
    exact ⟨_, PySem.W.mg_of X G a_ii, k_ii, fnr_of Oii hb⟩
  have F_is_permutation_of := fun_mk (st := sIsPerm) l_is_permutation_of c_is_permutation_of k_is_permutation_of
  have K_is_permutation_of : Fk P w K mg base CX0 _ "is_permutation_of" _ := ⟨_, PySem.W.mg_of X G a_is_permutation_of, k_is_permutation_of, fnr_of (ok_isPerm (P := P) (w := w) (base := base) B K1 F_is_permutation_of) (F_is_permutation_of.binds (ps := ["value", "size"]) fun _ _ _ _ _ _ us hl => match us, hl with | [_, _], _ => rfl)⟩
  have F_is_block := fun_mk (st := sIsBlock) l_is_block c_is_block k_is_block
  have K_is_block : Fk P w K mg base CX0 _ "is_block" _ := ⟨_, PySem.W.mg_of X G a_is_block, k_is_block, fnr_of (ok_isBlock (P := P) (w := w) (base := base) CT K3 F_is_block) (F_is_block.binds (ps := ["value"]) fun _ _ _ _ _ _ us hl => match us, hl with | [_], _ => rfl)⟩
  have F_check_stream := fun_mk (st := sChkStream) l_check_stream c_check_stream k_check_stream
  have K_check_stream : Fk P w K mg base CX0 _ "check_stream" _ := ⟨_, PySem.W.mg_of X G a_check_stream, k_check_stream, fnr_of (ok_chkStream (P := P) (w := w) (base := base) B K_is_block F_check_stream) (F_check_stream.binds (ps := ["value"]) fun _ _ _ _ _ _ us hl => match us, hl with | [_], _ => rfl)⟩
  have F_check_rule := fun_mk (st := sChkRule) l_check_rule c_check_rule k_check_rule
  have K_check_rule : Fk P w K mg base CX0 _ "check_rule" _ := ⟨_, PySem.W.mg_of X G a_check_rule, k_check_rule, fnr_of (ok_chkRule (P := P) (w := w) (base := base) B CT K_is_permutation_of F_check_rule) (F_check_rule.binds (ps := ["value"]) fun _ _ _ _ _ _ us hl => match us, hl with | [_], _ => rfl)⟩
  have F_is_row := fun_mk (st := sIsRow) l_is_row c_is_row k_is_row
  have K_is_row : Fk P w K mg base CX0 _ "is_row" _ := ⟨_, PySem.W.mg_of X G a_is_row, k_is_row, fnr_of (ok_isRow (P := P) (w := w) (base := base) B K_is_block F_is_row) (F_is_row.binds (ps := ["rule", "value"]) fun _ _ _ _ _ _ us hl => match us, hl with | [_, _], _ => rfl)⟩
  have F_check_block := fun_mk (st := sChkBlock) l_check_block c_check_block k_check_block
  have K_check_block : Fk P w K mg base CX0 _ "check_block" _ := ⟨_, PySem.W.mg_of X G a_check_block, k_check_block, fnr_of (ok_chkBlock (P := P) (w := w) (base := base) K_is_block F_check_block) (F_check_block.binds (ps := ["value"]) fun _ _ _ _ _ _ us hl => match us, hl with | [_], _ => rfl)⟩
  have F_check_rows := fun_mk (st := sChkRows) l_check_rows c_check_rows k_check_rows
  have K_check_rows : Fk P w K mg base CX0 _ "check_rows" _ := ⟨_, PySem.W.mg_of X G a_check_rows, k_check_rows, fnr_of (ok_chkRows (P := P) (w := w) (base := base) B K_is_row F_check_rows) (F_check_rows.binds (ps := ["rule", "value"]) fun _ _ _ _ _ _ us hl => match us, hl with | [_, _], _ => rfl)⟩
  have F_moved := fun_mk (st := sMoved) l_moved c_moved k_moved
  have K_moved : Fk P w K mg base CX0 _ "moved" _ := ⟨_, PySem.W.mg_of X G a_moved, k_moved, fnr_of (ok_moved (P := P) (w := w) (base := base) B F_moved) (F_moved.binds (ps := ["permutation", "row"]) fun _ _ _ _ _ _ us hl => match us, hl with | [_, _], _ => rfl)⟩
  have F_row_after_hit := fun_mk (st := sHit) l_row_after_hit c_row_after_hit k_row_after_hit
  have K_row_after_hit : Fk P w K mg base CX0 _ "row_after_hit" _ := ⟨_, PySem.W.mg_of X G a_row_after_hit, k_row_after_hit, fnr_of (ok_hit (P := P) (w := w) (base := base) K_moved F_row_after_hit) (F_row_after_hit.binds (ps := ["rule", "row", "place"]) fun _ _ _ _ _ _ us hl => match us, hl with | [_, _, _], _ => rfl)⟩
  have F_row_after_miss := fun_mk (st := sMiss) l_row_after_miss c_row_after_miss k_row_after_miss
  have K_row_after_miss : Fk P w K mg base CX0 _ "row_after_miss" _ := ⟨_, PySem.W.mg_of X G a_row_after_miss, k_row_after_miss, fnr_of (ok_miss (P := P) (w := w) (base := base) F_row_after_miss) (F_row_after_miss.binds (ps := ["row", "block"]) fun _ _ _ _ _ _ us hl => match us, hl with | [_, _], _ => rfl)⟩
  have F_stepped := fun_mk (st := sStepped) l_stepped c_stepped k_stepped
  have K_stepped : Fk P w K mg base CX0 _ "stepped" _ := ⟨_, PySem.W.mg_of X G a_stepped, k_stepped, fnr_of (ok_stepped (P := P) (w := w) (base := base) K_row_after_hit K_row_after_miss F_stepped) (F_stepped.binds (ps := ["rule", "row", "block"]) fun _ _ _ _ _ _ us hl => match us, hl with | [_, _, _], _ => rfl)⟩
  have F_law_bag := fun_mk (st := sBag) l_law_bag c_law_bag k_law_bag
  have K_law_bag : Fk P w K mg base CX0 _ "_law_bag" _ := ⟨_, PySem.W.mg_of X G a_law_bag, k_law_bag, fnr_of (ok_bag (P := P) (w := w) (mg := mg) (base := base) F_law_bag) (F_law_bag.binds (ps := ["_law_cell", "_law_k"]) fun _ _ _ _ _ _ us hl => match us, hl with | [_, _], _ => rfl)⟩
  have F_law_draw := fun_mk (st := sDraw) l_law_draw c_law_draw k_law_draw
  have K_law_draw : Fk P w K mg base CX0 _ "_law_draw" _ := ⟨_, PySem.W.mg_of X G a_law_draw, k_law_draw, fnr_of (ok_draw (P := P) (w := w) (base := base) B F_law_draw) (F_law_draw.binds (ps := ["_law_bag_here", "_law_many"]) fun _ _ _ _ _ _ us hl => match us, hl with | [_, _], _ => rfl)⟩
  have F_law_shuffle := fun_mk (st := sShuffle) l_law_shuffle c_law_shuffle k_law_shuffle
  have K_law_shuffle : Fk P w K mg base CX0 _ "_law_shuffle" _ := ⟨_, PySem.W.mg_of X G a_law_shuffle, k_law_shuffle, fnr_of (ok_shuffle (P := P) (w := w) (base := base) B K_law_draw F_law_shuffle) (F_law_shuffle.binds (ps := ["_law_bag_here", "_law_many"]) fun _ _ _ _ _ _ us hl => match us, hl with | [_, _], _ => rfl)⟩
  have F_law_lifted := fun_mk (st := sLift) l_law_lifted c_law_lifted k_law_lifted
  have K_law_lifted : Fk P w K mg base CX0 _ "_law_lifted" _ := ⟨_, PySem.W.mg_of X G a_law_lifted, k_law_lifted, fnr_of (ok_lift (P := P) (w := w) (base := base) B F_law_lifted) (F_law_lifted.binds (ps := ["_law_aims"]) fun _ _ _ _ _ _ us hl => match us, hl with | [_], _ => rfl)⟩
  have F_law_some_rule := fun_mk (st := sRule) l_law_some_rule c_law_some_rule k_law_some_rule
  have K_law_some_rule : Fk P w K mg base CX0 _ "_law_some_rule" _ := ⟨_, PySem.W.mg_of X G a_law_some_rule, k_law_some_rule, fnr_of (ok_rule (P := P) (w := w) (base := base) B K_law_draw K_law_shuffle K_law_lifted F_law_some_rule) (F_law_some_rule.binds (ps := ["_law_bag_here", "_law_k"]) fun _ _ _ _ _ _ us hl => match us, hl with | [_, _], _ => rfl)⟩
  have F_law_moved := fun_mk (st := sLMoved) l_law_moved c_law_moved k_law_moved
  have K_law_moved : Fk P w K mg base CX0 _ "_law_moved" _ := ⟨_, PySem.W.mg_of X G a_law_moved, k_law_moved, fnr_of (ok_lmoved (P := P) (w := w) (base := base) B F_law_moved) (F_law_moved.binds (ps := ["_law_ways", "_law_line"]) fun _ _ _ _ _ _ us hl => match us, hl with | [_, _], _ => rfl)⟩
  have F_law_step := fun_mk (st := sLStep) l_law_step c_law_step k_law_step
  have K_law_step : Fk P w K mg base CX0 _ "_law_step" _ := ⟨_, PySem.W.mg_of X G a_law_step, k_law_step, fnr_of (ok_lstep (P := P) (w := w) (base := base) K_law_moved F_law_step) (F_law_step.binds (ps := ["_law_plan", "_law_line", "_law_item"]) fun _ _ _ _ _ _ us hl => match us, hl with | [_, _, _], _ => rfl)⟩
  have F_law_accessed := fun_mk (st := sAcc) l_law_accessed c_law_accessed k_law_accessed
  have K_law_accessed : Fk P w K mg base CX0 _ "_law_accessed" _ := ⟨_, PySem.W.mg_of X G a_law_accessed, k_law_accessed, fnr_of (ok_acc (P := P) (w := w) (base := base) B K_law_step F_law_accessed) (F_law_accessed.binds (ps := ["_law_plan", "_law_world", "_law_block", "_law_held"]) fun _ _ _ _ _ _ us hl => match us, hl with | [_, _, _, _], _ => rfl)⟩
  have GE : GeC K mg cg cw cn := ⟨PySem.W.mg_of X G gcg, exm_sub e5 e6 e7 e4cw, exm_sub e5 e6 e7 e4cn⟩
  have F_law_told := fun_mk (st := sTold) l_law_told c_law_told k_law_told
  have K_law_told : Fk P w K mg base CX0 _ "_law_told" _ := ⟨_, PySem.W.mg_of X G a_law_told, k_law_told, fnr_of (ok_told (P := P) (w := w) (base := base) B GE F_law_told) (F_law_told.binds (ps := ["_law_store", "_law_deed", "_law_blocks"]) fun _ _ _ _ _ _ us hl => match us, hl with | [_, _, _], _ => rfl)⟩
  have F_law_state_right := fun_mk (st := sState) l_law_state_right c_law_state_right k_law_state_right
  have K_law_state_right : Fk P w K mg base CX0 _ "_law_state_right" _ := ⟨_, PySem.W.mg_of X G a_law_state_right, k_law_state_right, fnr_of (ok_state (P := P) (w := w) (base := base) B F_law_state_right) (F_law_state_right.binds (ps := ["_law_store", "_law_kind", "_law_held", "_law_past"]) fun _ _ _ _ _ _ us hl => match us, hl with | [_, _, _, _], _ => rfl)⟩
  have F_law_trial_right := fun_mk (st := sTrial) l_law_trial_right c_law_trial_right k_law_trial_right
  have K_law_trial_right : Fk P w K mg base CX0 _ "_law_trial_right" _ := ⟨_, PySem.W.mg_of X G a_law_trial_right, k_law_trial_right, fnr_of (ok_trial (P := P) (w := w) (base := base) B K_law_draw K_law_accessed K_law_told F_law_trial_right) (F_law_trial_right.binds (ps := ["_law_bag_here", "_law_store", "_law_plan", "_law_held", "_law_past", "_law_pool"]) fun _ _ _ _ _ _ us hl => match us, hl with | [_, _, _, _, _, _], _ => rfl)⟩
  have F_law_call_right := fun_mk (st := sCall) l_law_call_right c_law_call_right k_law_call_right
  have K_law_call_right : Fk P w K mg base CX0 _ "_law_call_right" _ := ⟨_, PySem.W.mg_of X G a_law_call_right, k_law_call_right, fnr_of (ok_call (P := P) (w := w) (base := base) B K_law_draw K_law_accessed K_law_told F_law_call_right) (F_law_call_right.binds (ps := ["_law_bag_here", "_law_store", "_law_plan", "_law_held", "_law_past", "_law_pool"]) fun _ _ _ _ _ _ us hl => match us, hl with | [_, _, _, _, _, _], _ => rfl)⟩
  have s0 : SC K c0 := ⟨⟨pg0, hd0, po0, sa0⟩, nr0, np0, nq0, nk0⟩
  have s1 : SC K c1 := ⟨⟨pg1, hd1, po1, sa1⟩, nr1, np1, nq1, nk1⟩
  have s2 : SC K c2 := ⟨⟨pg2, hd2, po2, sa2⟩, nr2, np2, nq2, nk2⟩
  have s3 : SC K c3 := ⟨⟨pg3, hd3, po3, sa3⟩, nr3, np3, nq3, nk3⟩
  have F_rows := fun_mk (st := sRows) l_rows c_rows k_rows
  have R_rows := fnr_of (ok_rows (P := P) (w := w) (base := base) B F_rows) (F_rows.binds (ps := ["self"]) fun _ _ _ _ _ _ us hl => match us, hl with | [_], _ => rfl)
  have F_hits := fun_mk (st := sHits) l_hits c_hits k_hits
  have R_hits := fnr_of (ok_hits (P := P) (w := w) (base := base) B F_hits) (F_hits.binds (ps := ["self"]) fun _ _ _ _ _ _ us hl => match us, hl with | [_], _ => rfl)
  have F_misses := fun_mk (st := sMisses) l_misses c_misses k_misses
  have R_misses := fnr_of (ok_misses (P := P) (w := w) (base := base) B F_misses) (F_misses.binds (ps := ["self"]) fun _ _ _ _ _ _ us hl => match us, hl with | [_], _ => rfl)
  have F_by_set := fun_mk (st := sBySet) l_by_set c_by_set k_by_set
  have R_by_set := fnr_of (ok_bySet (P := P) (w := w) (base := base) B F_by_set) (F_by_set.binds (ps := ["self"]) fun _ _ _ _ _ _ us hl => match us, hl with | [_], _ => rfl)
  have F_kept := fun_mk (st := sKept) l_kept c_kept k_kept
  have R_kept := fnr_of (ok_kept (P := P) (w := w) (base := base) B F_kept) (F_kept.binds (ps := ["self"]) fun _ _ _ _ _ _ us hl => match us, hl with | [_], _ => rfl)
  have q0_rows : Pr2 P w K mg base 1 c0 "rows" _ := ⟨_, _, ⟨p0_rows, pget_rows, ptak_rows, _, prec_rows⟩, R_rows⟩
  have q0_hits : Pr2 P w K mg base 1 c0 "hits" _ := ⟨_, _, ⟨p0_hits, pget_hits, ptak_hits, _, prec_hits⟩, R_hits⟩
  have q0_misses : Pr2 P w K mg base 1 c0 "misses" _ := ⟨_, _, ⟨p0_misses, pget_misses, ptak_misses, _, prec_misses⟩, R_misses⟩
  have q1_rows : Pr2 P w K mg base 1 c1 "rows" _ := ⟨_, _, ⟨p1_rows, pget_rows, ptak_rows, _, prec_rows⟩, R_rows⟩
  have q1_hits : Pr2 P w K mg base 1 c1 "hits" _ := ⟨_, _, ⟨p1_hits, pget_hits, ptak_hits, _, prec_hits⟩, R_hits⟩
  have q1_misses : Pr2 P w K mg base 1 c1 "misses" _ := ⟨_, _, ⟨p1_misses, pget_misses, ptak_misses, _, prec_misses⟩, R_misses⟩
  have q1_by_set : Pr2 P w K mg base 1 c1 "by_set" _ := ⟨_, _, ⟨p1_by_set, pget_by_set, ptak_by_set, _, prec_by_set⟩, R_by_set⟩
  have q2_rows : Pr2 P w K mg base 1 c2 "rows" _ := ⟨_, _, ⟨p2_rows, pget_rows, ptak_rows, _, prec_rows⟩, R_rows⟩
  have q2_hits : Pr2 P w K mg base 1 c2 "hits" _ := ⟨_, _, ⟨p2_hits, pget_hits, ptak_hits, _, prec_hits⟩, R_hits⟩
  have q2_misses : Pr2 P w K mg base 1 c2 "misses" _ := ⟨_, _, ⟨p2_misses, pget_misses, ptak_misses, _, prec_misses⟩, R_misses⟩
  have q2_kept : Pr2 P w K mg base 1 c2 "kept" _ := ⟨_, _, ⟨p2_kept, pget_kept, ptak_kept, _, prec_kept⟩, R_kept⟩
  have q3_rows : Pr2 P w K mg base 1 c3 "rows" _ := ⟨_, _, ⟨p3_rows, pget_rows, ptak_rows, _, prec_rows⟩, R_rows⟩
  have q3_hits : Pr2 P w K mg base 1 c3 "hits" _ := ⟨_, _, ⟨p3_hits, pget_hits, ptak_hits, _, prec_hits⟩, R_hits⟩
  have q3_misses : Pr2 P w K mg base 1 c3 "misses" _ := ⟨_, _, ⟨p3_misses, pget_misses, ptak_misses, _, prec_misses⟩, R_misses⟩
  have q3_by_set : Pr2 P w K mg base 1 c3 "by_set" _ := ⟨_, _, ⟨p3_by_set, pget_by_set, ptak_by_set, _, prec_by_set⟩, R_by_set⟩
  have q3_kept : Pr2 P w K mg base 1 c3 "kept" _ := ⟨_, _, ⟨p3_kept, pget_kept, ptak_kept, _, prec_kept⟩, R_kept⟩
  have F_init0 := fun_mk (st := sInit) l_init0 c_init0 k_init0
  have O_init0 := ok_init (P := P) (w := w) (base := base) B K_check_rule K_check_rows F_init0
  have b_init0 := F_init0.binds (ps := ["self", "rule", "rows"]) fun _ _ _ _ _ _ us hl => match us, hl with | [_, _, _], _ => rfl
  have SF_go : SupD P K "__init__" "WouldGo.__init__" sGo cw f_go _ := ⟨⟨_, _, _, cda_go, cc_go, _, _, _, _, _, rfl, l_go, c_go, ⟨⟨_, _, _, _, _, l_go, rfl, rfl⟩, ⟨_, _, _, _, _, _, lc_go, hv_go, hf_go⟩, ⟨_, _, _, lx_go⟩, ⟨_, cx_go⟩, tp, ta⟩⟩⟩
  have SF_kinit : SupD P K "__init__" "KeepingCache.__init__" sKInit c2 f_kinit _ := ⟨⟨_, _, _, cda_kinit, cc_kinit, _, _, _, _, _, rfl, l_kinit, c_kinit, ⟨⟨_, _, _, _, _, l_kinit, rfl, rfl⟩, ⟨_, _, _, _, _, _, lc_kinit, hv_kinit, hf_kinit⟩, ⟨_, _, _, lx_kinit⟩, ⟨_, cx_kinit⟩, tp, ta⟩⟩⟩
  have GC : GoC K cw := ⟨⟨⟨_, _, _, _, _, _, _, _, _, _, _, _, _, _, _, xl, xr⟩, xsa, e1cw, e2cw, e3cw⟩, xblk, xmr, xsu, xve⟩
  have GO : GoMk P w K mg base cw := ⟨GC, PySem.W.mg_of X G gcw, _, _, fi_go, ty_go, ok_go (P := P) (w := w) (base := base) B.super GC SF_go, .all fun us hl => match us, hl with | [_, _], _ => rfl⟩
  have NU : NuC K mg cn := ⟨nq_, PySem.W.mg_of X G gcn, e3cn, e1cn, e2cn⟩
  have R_init0 := fnr_of O_init0 b_init0
  have O_kinit := ok_kinit (P := P) (w := w) (base := base) B R_init0 tyi fni K_check_stream SF_kinit
  have b_kinit : KBn K _ ["self", "rule", "rows", "kept"] 3 ["kept"] (fun us ws => us ++ ws) (fun vs zs => vs ++ zs) := ⟨fun s us ws _ h1 h2 => (match us, ws, h1, h2 with | [_, _, _], [_], _, _ => .of_eq (fd := PySem.W.ksFn "__init__" "KeepingCache.__init__" (defArgs sKInit) (defBody sKInit) (defScope sKInit) .none kV_kinit dc_kinit pm_kinit an_kinit (.ref cda_kinit) ct_kinit cc_kinit) rfl), fun r1 r2 => r1.append r2⟩
  have MP0 : MkP0 P w K mg base "Cache" c0 := ⟨PySem.W.mg_of X G g0, ⟨_, _, ⟨mk0, m0_init0, i_init0, kc0⟩, O_init0, b_init0⟩, q0_rows⟩
  have MP1 : MkP0 P w K mg base "CountingCache" c1 := ⟨PySem.W.mg_of X G g1, ⟨_, _, ⟨mk1, m1_init0, i_init0, kc1⟩, O_init0, b_init0⟩, q1_rows⟩
  have MP2 : MkK0 P w K mg base "KeepingCache" c2 := ⟨PySem.W.mg_of X G g2, ⟨c2, f_init0, _, _, mr2, su2, ⟨mk2, m2_kinit, i_kinit, kc2⟩, O_kinit, b_kinit⟩, q2_rows⟩
  have MP3 : MkK0 P w K mg base "CountingKeepingCache" c3 := ⟨PySem.W.mg_of X G g3, ⟨c2, f_init0, _, _, mr3, su3, ⟨mk3, m3_kinit, i_kinit, kc3⟩, O_kinit, b_kinit⟩, q3_rows⟩
  have MA : MkAll P w K mg base c0 c1 c2 c3 := ⟨MP0, MP1, MP2, MP3, s0, s1, s2, s3⟩
  have F_law_made := fun_mk (st := sMade) l_law_made c_law_made k_law_made
  have K_law_made : Fk P w K mg base CX0 _ "_law_made" _ := ⟨_, PySem.W.mg_of X G a_law_made, k_law_made, fnr_of (ok_made (P := P) (w := w) (base := base) MA F_law_made) (F_law_made.binds (ps := ["_law_kind", "_law_plan", "_law_lines", "_law_held"]) fun _ _ _ _ _ _ us hl => match us, hl with | [_, _, _, _], _ => rfl)⟩
  have F_fresh0 := fun_mk (st := sFresh0) l_fresh0 c_fresh0 k_fresh0
  have M_fresh0 : Mk2 P w K mg base CX0 8 c0 "fresh_twin" (spFresh K c0 true) := ⟨_, ⟨m0_fresh0, i_fresh0, k_fresh0⟩, ((fnr_of (ok_fresh0 (P := P) (w := w) (base := base) MP0 s0 F_fresh0) (F_fresh0.binds (ps := ["self"]) fun _ _ _ _ _ _ us hl => match us, hl with | [_], _ => rfl)).mono (by decide))⟩
  have F_fresh1 := fun_mk (st := sFresh1) l_fresh1 c_fresh1 k_fresh1
  have M_fresh1 : Mk2 P w K mg base CX0 8 c1 "fresh_twin" (spFresh K c1 true) := ⟨_, ⟨m1_fresh1, i_fresh1, k_fresh1⟩, ((fnr_of (ok_fresh1 (P := P) (w := w) (base := base) MP1 s1 F_fresh1) (F_fresh1.binds (ps := ["self"]) fun _ _ _ _ _ _ us hl => match us, hl with | [_], _ => rfl)).mono (by decide))⟩
  have F_fresh2 := fun_mk (st := sFresh2) l_fresh2 c_fresh2 k_fresh2
  have M_fresh2 : Mk2 P w K mg base CX0 8 c2 "fresh_twin" (spFresh K c2 false) := ⟨_, ⟨m2_fresh2, i_fresh2, k_fresh2⟩, (fnr_of (ok_fresh2 (P := P) (w := w) (base := base) B MP2 s2 F_fresh2) (F_fresh2.binds (ps := ["self"]) fun _ _ _ _ _ _ us hl => match us, hl with | [_], _ => rfl))⟩
  have F_fresh3 := fun_mk (st := sFresh3) l_fresh3 c_fresh3 k_fresh3
  have M_fresh3 : Mk2 P w K mg base CX0 8 c3 "fresh_twin" (spFresh K c3 false) := ⟨_, ⟨m3_fresh3, i_fresh3, k_fresh3⟩, (fnr_of (ok_fresh3 (P := P) (w := w) (base := base) B MP3 s3 F_fresh3) (F_fresh3.binds (ps := ["self"]) fun _ _ _ _ _ _ us hl => match us, hl with | [_], _ => rfl))⟩
  have F_twin := fun_mk (st := sTwin) l_twin c_twin k_twin
  have R_twin := fnr_of (ok_twin (P := P) (w := w) (mg := mg) (base := base) F_twin) (F_twin.binds (ps := ["self"]) fun _ _ _ _ _ _ us hl => match us, hl with | [_], _ => rfl)
  have F_access := fun_mk (st := sAccess) l_access c_access k_access
  have R_access := fnr_of (ok_access (P := P) (w := w) (base := base) B GO K_check_block K_stepped F_access) (F_access.binds (ps := ["self", "block"]) fun _ _ _ _ _ _ us hl => match us, hl with | [_, _], _ => rfl)
  have F_undo := fun_mk (st := sUndo) l_undo c_undo k_undo
  have R_undo := fnr_of (ok_undo (P := P) (w := w) (base := base) NU F_undo) (F_undo.binds (ps := ["self"]) fun _ _ _ _ _ _ us hl => match us, hl with | [_], _ => rfl)
  have F_len := fun_mk (st := sLen) l_len c_len k_len
  have R_len := fnr_of (ok_len (P := P) (w := w) (base := base) B F_len) (F_len.binds (ps := ["self"]) fun _ _ _ _ _ _ us hl => match us, hl with | [_], _ => rfl)
  have F_eq := fun_mk (st := sEq) l_eq c_eq k_eq
  have R_eq := fnr_of (ok_eq (P := P) (w := w) (base := base) B (PySem.W.mg_of X G g0) F_eq) (F_eq.binds (ps := ["self", "other"]) fun _ _ _ _ _ _ us hl => match us, hl with | [_, _], _ => rfl)
  have F_tried := fun_mk (st := sTried) l_tried c_tried k_tried
  have R_tried := ok_tried (P := P) (w := w) (mg := mg) (base := base) (cw := cw) F_tried
  have tl0 : TlC P w K mg base c0 cw cn true := ⟨⟨M_fresh0, ⟨_, ⟨m0_twin, i_twin, k_twin⟩, R_twin⟩, ⟨_, ⟨m0_access, i_access, k_access⟩, R_access⟩⟩, ⟨_, ⟨m0_tried, i_tried, k_tried⟩, R_tried⟩, ⟨_, ⟨m0_undo, i_undo, k_undo⟩, R_undo⟩⟩
  have ca0 : ClsAll P w K mg base c0 cw cn c0 true false false := ⟨tl0, ⟨q0_rows, q0_hits, q0_misses, ⟨_, m0_len, i_len, R_len⟩, (fun z => nomatch z), (fun z => nomatch z)⟩, ⟨⟨_, _, ⟨ki0, ⟨_, rfl⟩, kg0, by decide +kernel⟩⟩, fun e => .base (.ins e s0.cls cl0 oc1_ oc2_ mo0), kit_sub ic0 ty0 sb0⟩, ⟨_, ⟨m0_eq, i_eq, ne0, mo0⟩, R_eq⟩⟩
  have tl1 : TlC P w K mg base c1 cw cn true := ⟨⟨M_fresh1, ⟨_, ⟨m1_twin, i_twin, k_twin⟩, R_twin⟩, ⟨_, ⟨m1_access, i_access, k_access⟩, R_access⟩⟩, ⟨_, ⟨m1_tried, i_tried, k_tried⟩, R_tried⟩, ⟨_, ⟨m1_undo, i_undo, k_undo⟩, R_undo⟩⟩
  have ca1 : ClsAll P w K mg base c0 cw cn c1 true true false := ⟨tl1, ⟨q1_rows, q1_hits, q1_misses, ⟨_, m1_len, i_len, R_len⟩, fun _ => q1_by_set, (fun z => nomatch z)⟩, ⟨⟨_, _, ⟨ki1, ⟨_, rfl⟩, kg1, by decide +kernel⟩⟩, fun e => .base (.ins e s1.cls cl1 oc1_ oc2_ mo1), kit_sub ic0 ty0 sb1⟩, ⟨_, ⟨m1_eq, i_eq, ne1, mo1⟩, R_eq⟩⟩
  have tl2 : TlC P w K mg base c2 cw cn false := ⟨⟨M_fresh2, ⟨_, ⟨m2_twin, i_twin, k_twin⟩, R_twin⟩, ⟨_, ⟨m2_access, i_access, k_access⟩, R_access⟩⟩, ⟨_, ⟨m2_tried, i_tried, k_tried⟩, R_tried⟩, ⟨_, ⟨m2_undo, i_undo, k_undo⟩, R_undo⟩⟩
  have ca2 : ClsAll P w K mg base c0 cw cn c2 false false true := ⟨tl2, ⟨q2_rows, q2_hits, q2_misses, ⟨_, m2_len, i_len, R_len⟩, (fun z => nomatch z), fun _ => q2_kept⟩, ⟨⟨_, _, ⟨ki2, ⟨_, rfl⟩, kg2, by decide +kernel⟩⟩, fun e => .base (.ins e s2.cls cl2 oc1_ oc2_ mo2), kit_sub ic0 ty0 sb2⟩, ⟨_, ⟨m2_eq, i_eq, ne2, mo2⟩, R_eq⟩⟩
  have tl3 : TlC P w K mg base c3 cw cn false := ⟨⟨M_fresh3, ⟨_, ⟨m3_twin, i_twin, k_twin⟩, R_twin⟩, ⟨_, ⟨m3_access, i_access, k_access⟩, R_access⟩⟩, ⟨_, ⟨m3_tried, i_tried, k_tried⟩, R_tried⟩, ⟨_, ⟨m3_undo, i_undo, k_undo⟩, R_undo⟩⟩
  have ca3 : ClsAll P w K mg base c0 cw cn c3 false true true := ⟨tl3, ⟨q3_rows, q3_hits, q3_misses, ⟨_, m3_len, i_len, R_len⟩, fun _ => q3_by_set, fun _ => q3_kept⟩, ⟨⟨_, _, ⟨ki3, ⟨_, rfl⟩, kg3, by decide +kernel⟩⟩, fun e => .base (.ins e s3.cls cl3 oc1_ oc2_ mo3), kit_sub ic0 ty0 sb3⟩, ⟨_, ⟨m3_eq, i_eq, ne3, mo3⟩, R_eq⟩⟩
  have CA : ∀ {kd C pl cnt kpg}, Knd c0 c1 c2 c3 kd C pl cnt kpg → ClsAll P w K mg base c0 cw cn C pl cnt kpg := fun {kd C pl cnt kpg} KD => by
    rcases KD with ⟨rfl, rfl, rfl, rfl, rfl⟩ | ⟨rfl, rfl, rfl, rfl, rfl⟩ | ⟨rfl, rfl, rfl, rfl, rfl⟩ | ⟨rfl, rfl, rfl, rfl, rfl⟩
    · exact ca0
    · exact ca1
    · exact ca2
    · exact ca3
  have F_law_right := fun_mk (st := sRight) l_law_right c_law_right k_law_right
  have K_law_right : Fk P w K mg base CX0 _ "_law_right" _ := ⟨_, PySem.W.mg_of X G a_law_right, k_law_right, fnr_of (ok_right (P := P) (w := w) (base := base) B K_law_draw K_law_shuffle K_law_some_rule K_law_made K_law_call_right K_law_trial_right K_law_state_right K_law_told CA F_law_right) (F_law_right.binds (ps := ["_law_bag_here"]) fun _ _ _ _ _ _ us hl => match us, hl with | [_], _ => rfl)⟩
  exact ok_law B K_law_bag K_law_right (fun_mk (st := sLaw) l_law c_law k_law)
theorem walk {l : PySem.W.OpenLaw} {q : Program} {loose : List Str} {XP : (Str → Option Value) → Heap → Prop} {YP : World → Heap → Prop} {d : DefRec} {K : Params → PySem.W.Frag} (hn : l.most = some 63) (hdf : d.params.defaults = [])
    (hY : ∀ (w : World) (h : Heap), YP w h → (K w.params).In h)
    (F : ∀ (w : World) (mg : Str → Option Value) (fa : Addr) (h : Heap), (K w.params).In h → h.Ns mainGlobals mg → mg d.name = some (.ref fa) →
      ∃ fd : FuncData, (∀ (s : Shared) (u : Value), BindsTo s fd ⟨[u], []⟩ [("_law_script", u)]) ∧ ∀ base : Heap, (K w.params).In base → base.Ns mainGlobals mg → FnOk l.prog w (K w.params) mg base CX0 14 fa fd ["_law_script"] (spLaw (K w.params))) :
    PySem.W.WalkO q loose XP YP l.row.toRowW d [] (fun f vs => PySem.call f vs) :=
  L2.walk_of (n := 63) (k := 14) (x := "_law_script") (CX := fun _ => CX0) (sp := fun w => spLaw (K w.params)) hn (by decide) hdf ⟨rfl, by decide, by decide⟩ hY F (fun _ _ a ns hl _ hS => ⟨a, ns, rfl, hS, hl, fun _ => rfl⟩) fun _ _ _ _ _ z => z
end GN

/-! part Top -/
set_option Elab.async false
set_option maxRecDepth 100000
open PySem PySem.W PyProof.Rows
set_option maxHeartbeats 0
open_top head for PySem.Challenge.rw_goesnext_k81_whole_caches

/-! the end -/
set_option Elab.async false
set_option maxRecDepth 100000
open PySem PySem.W PyProof.Rows
set_option maxHeartbeats 0 in
theorem PySem.Challenge.cw_goesnext_k81_whole_caches_holds : PySem.Challenge.rw_goesnext_k81_whole_caches.Holds := by
  refine head ?_
  k_fill
  refine GN.walk (l := PySem.Challenge.rw_goesnext_k81_whole_caches) rfl rfl (fun w h Y => PySem.W.kIn_of Y) ?F
  case F =>
    intro w mg fa h KX G hmg
    refine' GN.all_mk KX G hmg ?a_is_permutation_of ?l_is_permutation_of ?c_is_permutation_of ?k_is_permutation_of ?a_check_rule ?l_check_rule ?c_check_rule ?k_check_rule ?a_is_block ?l_is_block ?c_is_block ?k_is_block ?a_is_row ?l_is_row ?c_is_row ?k_is_row ?a_check_stream ?l_check_stream ?c_check_stream ?k_check_stream ?a_moved ?l_moved ?c_moved ?k_moved ?a_row_after_hit ?l_row_after_hit ?c_row_after_hit ?k_row_after_hit ?a_row_after_miss ?l_row_after_miss ?c_row_after_miss ?k_row_after_miss ?a_stepped ?l_stepped ?c_stepped ?k_stepped ?a_check_rows ?l_check_rows ?c_check_rows ?k_check_rows ?a_check_block ?l_check_block ?c_check_block ?k_check_block ?a_law_bag ?l_law_bag ?c_law_bag ?k_law_bag ?a_law_draw ?l_law_draw ?c_law_draw ?k_law_draw ?a_law_shuffle ?l_law_shuffle ?c_law_shuffle ?k_law_shuffle ?a_law_lifted ?l_law_lifted ?c_law_lifted ?k_law_lifted ?a_law_some_rule ?l_law_some_rule ?c_law_some_rule ?k_law_some_rule ?a_law_moved ?l_law_moved ?c_law_moved ?k_law_moved ?a_law_step ?l_law_step ?c_law_step ?k_law_step ?a_law_accessed ?l_law_accessed ?c_law_accessed ?k_law_accessed ?a_law_told ?l_law_told ?c_law_told ?k_law_told ?a_law_state_right ?l_law_state_right ?c_law_state_right ?k_law_state_right ?a_law_trial_right ?l_law_trial_right ?c_law_trial_right ?k_law_trial_right ?a_law_call_right ?l_law_call_right ?c_law_call_right ?k_law_call_right ?a_law_made ?l_law_made ?c_law_made ?k_law_made ?a_law_right ?l_law_right ?c_law_right ?k_law_right ?a_law ?l_law ?c_law ?k_law ?a_ii ?l_ii ?c_ii ?k_ii ?t_ii ?b_isinstance ?b_int ?b_bool ?b_list ?b_tuple ?b_len ?b_all ?b_sum ?b_sorted ?b_set ?b_range ?b_enumerate ?b_min ?b_super ?n_LEAST_PLACES ?n_MOST_PLACES ?n_MOST_BLOCK ?g0 ?g1 ?g2 ?g3 ?gcg ?gcw ?gcn ?pg0 ?hd0 ?po0 ?sa0 ?nr0 ?np0 ?nq0 ?nk0 ?ki0 ?kg0 ?cl0 ?mo0 ?mk0 ?kc0 ?sb0 ?m0_init0 ?m0_fresh0 ?m0_twin ?m0_access ?m0_tried ?m0_undo ?m0_len ?m0_eq ?ne0 ?p0_rows ?p0_hits ?p0_misses ?pg1 ?hd1 ?po1 ?sa1 ?nr1 ?np1 ?nq1 ?nk1 ?ki1 ?kg1 ?cl1 ?mo1 ?mk1 ?kc1 ?sb1 ?m1_init0 ?m1_fresh1 ?m1_twin ?m1_access ?m1_tried ?m1_undo ?m1_len ?m1_eq ?ne1 ?p1_rows ?p1_hits ?p1_misses ?p1_by_set ?pg2 ?hd2 ?po2 ?sa2 ?nr2 ?np2 ?nq2 ?nk2 ?ki2 ?kg2 ?cl2 ?mo2 ?mk2 ?kc2 ?sb2 ?m2_kinit ?m2_fresh2 ?m2_twin ?m2_access ?m2_tried ?m2_undo ?m2_len ?m2_eq ?ne2 ?p2_rows ?p2_hits ?p2_misses ?p2_kept ?pg3 ?hd3 ?po3 ?sa3 ?nr3 ?np3 ?nq3 ?nk3 ?ki3 ?kg3 ?cl3 ?mo3 ?mk3 ?kc3 ?sb3 ?m3_kinit ?m3_fresh3 ?m3_twin ?m3_access ?m3_tried ?m3_undo ?m3_len ?m3_eq ?ne3 ?p3_rows ?p3_hits ?p3_misses ?p3_by_set ?p3_kept ?oc1_ ?oc2_ ?ic0 ?ty0 ?pget_rows ?ptak_rows ?prec_rows ?l_rows ?c_rows ?k_rows ?pget_hits ?ptak_hits ?prec_hits ?l_hits ?c_hits ?k_hits ?pget_misses ?ptak_misses ?prec_misses ?l_misses ?c_misses ?k_misses ?pget_by_set ?ptak_by_set ?prec_by_set ?l_by_set ?c_by_set ?k_by_set ?pget_kept ?ptak_kept ?prec_kept ?l_kept ?c_kept ?k_kept ?l_init0 ?c_init0 ?k_init0 ?i_init0 ?l_fresh0 ?c_fresh0 ?k_fresh0 ?i_fresh0 ?l_fresh1 ?c_fresh1 ?k_fresh1 ?i_fresh1 ?l_fresh2 ?c_fresh2 ?k_fresh2 ?i_fresh2 ?l_fresh3 ?c_fresh3 ?k_fresh3 ?i_fresh3 ?l_twin ?c_twin ?k_twin ?i_twin ?l_access ?c_access ?k_access ?i_access ?l_tried ?c_tried ?k_tried ?i_tried ?l_undo ?c_undo ?k_undo ?i_undo ?l_len ?c_len ?k_len ?i_len ?l_eq ?c_eq ?k_eq ?i_eq ?fi_go ?l_go ?c_go ?lc_go ?hv_go ?hf_go ?lx_go ?cx_go ?ty_go ?l_kinit ?c_kinit ?lc_kinit ?hv_kinit ?hf_kinit ?lx_kinit ?cx_kinit ?ty_kinit ?i_kinit ?tp ?ta ?mr2 ?su2 ?mr3 ?su3 ?tyi ?fni ?xl ?xr ?xsa ?xblk ?xmr ?xsu ?xve ?e1cw ?e2cw ?e3cw ?e4cw ?e1cn ?e2cn ?e3cn ?e4cn ?e5 ?e6 ?e7 ?nq_
    (case a_is_permutation_of => k_is)
    (case l_is_permutation_of => k_is)
    (case c_is_permutation_of => k_is)
    (case k_is_permutation_of => k_is)
    (case a_check_rule => k_is)
    (case l_check_rule => k_is)
    (case c_check_rule => k_is)
    (case k_check_rule => k_is)
    (case a_is_block => k_is)
    (case l_is_block => k_is)
    (case c_is_block => k_is)
    (case k_is_block => k_is)
    (case a_is_row => k_is)
    (case l_is_row => k_is)
    (case c_is_row => k_is)
    (case k_is_row => k_is)
    (case a_check_stream => k_is)
    (case l_check_stream => k_is)
    (case c_check_stream => k_is)
    (case k_check_stream => k_is)
    (case a_moved => k_is)
    (case l_moved => k_is)
    (case c_moved => k_is)
    (case k_moved => k_is)
    (case a_row_after_hit => k_is)
    (case l_row_after_hit => k_is)
    (case c_row_after_hit => k_is)
    (case k_row_after_hit => k_is)
    (case a_row_after_miss => k_is)
    (case l_row_after_miss => k_is)
    (case c_row_after_miss => k_is)
    (case k_row_after_miss => k_is)
    (case a_stepped => k_is)
    (case l_stepped => k_is)
    (case c_stepped => k_is)
    (case k_stepped => k_is)
    (case a_check_rows => k_is)
    (case l_check_rows => k_is)
    (case c_check_rows => k_is)
    (case k_check_rows => k_is)
    (case a_check_block => k_is)
    (case l_check_block => k_is)
    (case c_check_block => k_is)
    (case k_check_block => k_is)
    (case a_law_bag => k_is)
    (case l_law_bag => k_is)
    (case c_law_bag => k_is)
    (case k_law_bag => k_is)
    (case a_law_draw => k_is)
    (case l_law_draw => k_is)
    (case c_law_draw => k_is)
    (case k_law_draw => k_is)
    (case a_law_shuffle => k_is)
    (case l_law_shuffle => k_is)
    (case c_law_shuffle => k_is)
    (case k_law_shuffle => k_is)
    (case a_law_lifted => k_is)
    (case l_law_lifted => k_is)
    (case c_law_lifted => k_is)
    (case k_law_lifted => k_is)
    (case a_law_some_rule => k_is)
    (case l_law_some_rule => k_is)
    (case c_law_some_rule => k_is)
    (case k_law_some_rule => k_is)
    (case a_law_moved => k_is)
    (case l_law_moved => k_is)
    (case c_law_moved => k_is)
    (case k_law_moved => k_is)
    (case a_law_step => k_is)
    (case l_law_step => k_is)
    (case c_law_step => k_is)
    (case k_law_step => k_is)
    (case a_law_accessed => k_is)
    (case l_law_accessed => k_is)
    (case c_law_accessed => k_is)
    (case k_law_accessed => k_is)
    (case a_law_told => k_is)
    (case l_law_told => k_is)
    (case c_law_told => k_is)
    (case k_law_told => k_is)
    (case a_law_state_right => k_is)
    (case l_law_state_right => k_is)
    (case c_law_state_right => k_is)
    (case k_law_state_right => k_is)
    (case a_law_trial_right => k_is)
    (case l_law_trial_right => k_is)
    (case c_law_trial_right => k_is)
    (case k_law_trial_right => k_is)
    (case a_law_call_right => k_is)
    (case l_law_call_right => k_is)
    (case c_law_call_right => k_is)
    (case k_law_call_right => k_is)
    (case a_law_made => k_is)
    (case l_law_made => k_is)
    (case c_law_made => k_is)
    (case k_law_made => k_is)
    (case a_law_right => k_is)
    (case l_law_right => k_is)
    (case c_law_right => k_is)
    (case k_law_right => k_is)
    (case a_law => k_is)
    (case l_law => k_is)
    (case c_law => k_is)
    (case k_law => k_is)
    (case a_ii => k_is)
    (case l_ii => k_is)
    (case c_ii => k_is)
    (case k_ii => k_is)
    (case t_ii => k_is)
    (case b_isinstance => k_is)
    (case b_int => k_is)
    (case b_bool => k_is)
    (case b_list => k_is)
    (case b_tuple => k_is)
    (case b_len => k_is)
    (case b_all => k_is)
    (case b_sum => k_is)
    (case b_sorted => k_is)
    (case b_set => k_is)
    (case b_range => k_is)
    (case b_enumerate => k_is)
    (case b_min => k_is)
    (case b_super => k_is)
    (case n_LEAST_PLACES => k_is)
    (case n_MOST_PLACES => k_is)
    (case n_MOST_BLOCK => k_is)
    (case g0 => k_is)
    (case g1 => k_is)
    (case g2 => k_is)
    (case g3 => k_is)
    (case gcg => k_is)
    (case gcw => k_is)
    (case gcn => k_is)
    (case pg0 => k_is)
    (case hd0 => k_is)
    (case po0 => k_is)
    (case sa0 => k_is)
    (case nr0 => k_is)
    (case np0 => k_is)
    (case nq0 => k_is)
    (case nk0 => k_is)
    (case ki0 => k_is)
    (case kg0 => k_is)
    (case cl0 => k_is)
    (case mo0 => k_is)
    (case mk0 => k_is)
    (case kc0 => k_is)
    (case sb0 => first | k_is | rfl)
    (case m0_init0 => k_is)
    (case m0_fresh0 => k_is)
    (case m0_twin => k_is)
    (case m0_access => k_is)
    (case m0_tried => k_is)
    (case m0_undo => k_is)
    (case m0_len => k_is)
    (case m0_eq => k_is)
    (case ne0 => k_is)
    (case p0_rows => k_is)
    (case p0_hits => k_is)
    (case p0_misses => k_is)
    (case pg1 => k_is)
    (case hd1 => k_is)
    (case po1 => k_is)
    (case sa1 => k_is)
    (case nr1 => k_is)
    (case np1 => k_is)
    (case nq1 => k_is)
    (case nk1 => k_is)
    (case ki1 => k_is)
    (case kg1 => k_is)
    (case cl1 => k_is)
    (case mo1 => k_is)
    (case mk1 => k_is)
    (case kc1 => k_is)
    (case sb1 => first | k_is | rfl)
    (case m1_init0 => k_is)
    (case m1_fresh1 => k_is)
    (case m1_twin => k_is)
    (case m1_access => k_is)
    (case m1_tried => k_is)
    (case m1_undo => k_is)
    (case m1_len => k_is)
    (case m1_eq => k_is)
    (case ne1 => k_is)
    (case p1_rows => k_is)
    (case p1_hits => k_is)
    (case p1_misses => k_is)
    (case p1_by_set => k_is)
    (case pg2 => k_is)
    (case hd2 => k_is)
    (case po2 => k_is)
    (case sa2 => k_is)
    (case nr2 => k_is)
    (case np2 => k_is)
    (case nq2 => k_is)
    (case nk2 => k_is)
    (case ki2 => k_is)
    (case kg2 => k_is)
    (case cl2 => k_is)
    (case mo2 => k_is)
    (case mk2 => k_is)
    (case kc2 => k_is)
    (case sb2 => first | k_is | rfl)
    (case m2_kinit => k_is)
    (case m2_fresh2 => k_is)
    (case m2_twin => k_is)
    (case m2_access => k_is)
    (case m2_tried => k_is)
    (case m2_undo => k_is)
    (case m2_len => k_is)
    (case m2_eq => k_is)
    (case ne2 => k_is)
    (case p2_rows => k_is)
    (case p2_hits => k_is)
    (case p2_misses => k_is)
    (case p2_kept => k_is)
    (case pg3 => k_is)
    (case hd3 => k_is)
    (case po3 => k_is)
    (case sa3 => k_is)
    (case nr3 => k_is)
    (case np3 => k_is)
    (case nq3 => k_is)
    (case nk3 => k_is)
    (case ki3 => k_is)
    (case kg3 => k_is)
    (case cl3 => k_is)
    (case mo3 => k_is)
    (case mk3 => k_is)
    (case kc3 => k_is)
    (case sb3 => first | k_is | rfl)
    (case m3_kinit => k_is)
    (case m3_fresh3 => k_is)
    (case m3_twin => k_is)
    (case m3_access => k_is)
    (case m3_tried => k_is)
    (case m3_undo => k_is)
    (case m3_len => k_is)
    (case m3_eq => k_is)
    (case ne3 => k_is)
    (case p3_rows => k_is)
    (case p3_hits => k_is)
    (case p3_misses => k_is)
    (case p3_by_set => k_is)
    (case p3_kept => k_is)
    (case oc1_ => k_is)
    (case oc2_ => k_is)
    (case ic0 => k_is)
    (case ty0 => k_is)
    (case pget_rows => k_is)
    (case ptak_rows => k_is)
    (case prec_rows => k_is)
    (case l_rows => k_is)
    (case c_rows => k_is)
    (case k_rows => k_is)
    (case pget_hits => k_is)
    (case ptak_hits => k_is)
    (case prec_hits => k_is)
    (case l_hits => k_is)
    (case c_hits => k_is)
    (case k_hits => k_is)
    (case pget_misses => k_is)
    (case ptak_misses => k_is)
    (case prec_misses => k_is)
    (case l_misses => k_is)
    (case c_misses => k_is)
    (case k_misses => k_is)
    (case pget_by_set => k_is)
    (case ptak_by_set => k_is)
    (case prec_by_set => k_is)
    (case l_by_set => k_is)
    (case c_by_set => k_is)
    (case k_by_set => k_is)
    (case pget_kept => k_is)
    (case ptak_kept => k_is)
    (case prec_kept => k_is)
    (case l_kept => k_is)
    (case c_kept => k_is)
    (case k_kept => k_is)
    (case l_init0 => k_is)
    (case c_init0 => k_is)
    (case k_init0 => k_is)
    (case i_init0 => k_is)
    (case l_fresh0 => k_is)
    (case c_fresh0 => k_is)
    (case k_fresh0 => k_is)
    (case i_fresh0 => k_is)
    (case l_fresh1 => k_is)
    (case c_fresh1 => k_is)
    (case k_fresh1 => k_is)
    (case i_fresh1 => k_is)
    (case l_fresh2 => k_is)
    (case c_fresh2 => k_is)
    (case k_fresh2 => k_is)
    (case i_fresh2 => k_is)
    (case l_fresh3 => k_is)
    (case c_fresh3 => k_is)
    (case k_fresh3 => k_is)
    (case i_fresh3 => k_is)
    (case l_twin => k_is)
    (case c_twin => k_is)
    (case k_twin => k_is)
    (case i_twin => k_is)
    (case l_access => k_is)
    (case c_access => k_is)
    (case k_access => k_is)
    (case i_access => k_is)
    (case l_tried => k_is)
    (case c_tried => k_is)
    (case k_tried => k_is)
    (case i_tried => k_is)
    (case l_undo => k_is)
    (case c_undo => k_is)
    (case k_undo => k_is)
    (case i_undo => k_is)
    (case l_len => k_is)
    (case c_len => k_is)
    (case k_len => k_is)
    (case i_len => k_is)
    (case l_eq => k_is)
    (case c_eq => k_is)
    (case k_eq => k_is)
    (case i_eq => k_is)
    (case fi_go => k_is)
    (case l_go => k_is)
    (case c_go => k_is)
    (case lc_go => k_is)
    (case hv_go => rfl)
    (case hf_go => decide +kernel)
    (case lx_go => k_is)
    (case cx_go => k_is)
    (case ty_go => k_is)
    (case l_kinit => k_is)
    (case c_kinit => k_is)
    (case lc_kinit => k_is)
    (case hv_kinit => rfl)
    (case hf_kinit => decide +kernel)
    (case lx_kinit => k_is)
    (case cx_kinit => k_is)
    (case ty_kinit => k_is)
    (case i_kinit => k_is)
    (case tp => decide +kernel)
    (case ta => k_is)
    (case mr2 => k_is)
    (case su2 => ks_is)
    (case mr3 => k_is)
    (case su3 => ks_is)
    (case tyi => k_is)
    (case fni => k_is)
    (case xl => k_is)
    (case xr => decide +kernel)
    (case xsa => k_is)
    (case xblk => k_is)
    (case xmr => k_is)
    (case xsu => ks_is)
    (case xve => k_is)
    (case e1cw => k_is)
    (case e2cw => k_is)
    (case e3cw => k_is)
    (case e4cw => k_is)
    (case e1cn => k_is)
    (case e2cn => k_is)
    (case e3cn => k_is)
    (case e4cn => k_is)
    (case e5 => k_is)
    (case e6 => k_is)
    (case e7 => k_is)
    (case nq_ => k_exc)
