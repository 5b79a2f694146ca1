import PyProof.Rows.All
import Wide.All
import OpenK.AllK
import Wide.FinOn
import HandS.Base
import HandS.Call
import HandS.List
import HandS.Comp
import HandS.Iter
import HandS.Walk
import HandS.Words
import HandS.WordsList
import HandS.IsInst
import HandS.Strs
import HandS.TupSets
import HandS.TupAny
import HandS.Conv
import HandS.Style
import HandS.SortInts
import KE.DataMinMax
import KE.GoesMore
import KE.GoesEnum
import HandS.Ends
import KE.SortData
import HandS.Sort
import PySem.Challenge.RW_rateflows_k61_whole_least_forms
set_option Elab.async false
set_option linter.all false
set_option maxRecDepth 100000
set_option maxHeartbeats 4000000
/-! The plain side: orders of boxes, pipes named anew, sorted. -/
namespace K61

/-! ### all orders -/
def boxes (n : Nat) : List Int := (List.range n).map fun k : Nat => (k : Int)
theorem boxes_length (n : Nat) : (boxes n).length = n := by simp [boxes]
theorem mem_boxes {n : Nat} {b : Int} : b ∈ boxes n ↔ 0 ≤ b ∧ b < n := by
  unfold boxes
  rw [List.mem_map]
  constructor
  · rintro ⟨k, hk, rfl⟩
    have := List.mem_range.mp hk
    omega
  · rintro ⟨h0, h1⟩
    exact ⟨b.toNat, List.mem_range.mpr (by omega), by omega⟩
theorem boxes_succ (n : Nat) : boxes (n + 1) = boxes n ++ [(n : Int)] := by
  unfold boxes
  rw [List.range_succ, List.map_append]
  rfl
/-- one order made longer by each box below m that is not in it -/
def ext (m : Nat) (one : List Int) : List (List Int) := ((boxes m).filter fun b => decide (b ∉ one)).map fun b => one ++ [b]
theorem ext_zero (one : List Int) : ext 0 one = [] := rfl
theorem ext_in {m : Nat} {one : List Int} (h : (m : Int) ∈ one) : ext (m + 1) one = ext m one := by
  unfold ext
  rw [boxes_succ, List.filter_append, List.map_append]
  have e : List.filter (fun b => decide (b ∉ one)) [(m : Int)] = [] := by simp [h]
  rw [e]
  simp
theorem ext_out {m : Nat} {one : List Int} (h : (m : Int) ∉ one) : ext (m + 1) one = ext m one ++ [one ++ [(m : Int)]] := by
  unfold ext
  rw [boxes_succ, List.filter_append, List.map_append]
  have e : List.filter (fun b => decide (b ∉ one)) [(m : Int)] = [(m : Int)] := by simp [h]
  rw [e]
  rfl
theorem ext_length (m : Nat) (one : List Int) : (ext m one).length ≤ m := by
  unfold ext
  rw [List.length_map]
  exact Nat.le_trans (List.length_filter_le _ _) (Nat.le_of_eq (boxes_length m))
theorem mem_ext {m : Nat} {one l : List Int} : l ∈ ext m one ↔ ∃ b : Int, (0 ≤ b ∧ b < m) ∧ b ∉ one ∧ l = one ++ [b] := by
  unfold ext
  rw [List.mem_map]
  constructor
  · rintro ⟨b, hb, rfl⟩
    obtain ⟨h1, h2⟩ := List.mem_filter.mp hb
    exact ⟨b, mem_boxes.mp h1, of_decide_eq_true h2, rfl⟩
  · rintro ⟨b, h1, h2, rfl⟩
    exact ⟨b, List.mem_filter.mpr ⟨mem_boxes.mpr h1, decide_eq_true h2⟩, rfl⟩
def ordStep (n : Nat) (found : List (List Int)) : List (List Int) := found.flatMap (ext n)
theorem step_nil (n : Nat) : ordStep n [] = [] := rfl
theorem step_snoc (n : Nat) (f : List (List Int)) (one : List Int) : ordStep n (f ++ [one]) = ordStep n f ++ ext n one := by
  unfold ordStep
  rw [List.flatMap_append]
  simp
theorem step_length (n : Nat) : ∀ f : List (List Int), (ordStep n f).length ≤ f.length * n
  | [] => Nat.zero_le _
  | one :: f => by
    have ih := step_length n f
    have h := ext_length n one
    show (ext n one ++ ordStep n f).length ≤ (f.length + 1) * n
    rw [List.length_append, Nat.add_mul]
    omega
def ordAt (n : Nat) : Nat → List (List Int)
  | 0 => [[]]
  | k + 1 => ordStep n (ordAt n k)
theorem ordAt_length (n : Nat) : ∀ k, (ordAt n k).length ≤ n ^ k
  | 0 => Nat.le_refl _
  | k + 1 => by
    have ih := ordAt_length n k
    have h := step_length n (ordAt n k)
    show (ordStep n (ordAt n k)).length ≤ n ^ (k + 1)
    rw [Nat.pow_succ]
    exact Nat.le_trans h (Nat.mul_le_mul_right n ih)
/-- a row of k unlike boxes -/
def Row (n k : Nat) (l : List Int) : Prop := l.length = k ∧ l.Nodup ∧ ∀ b ∈ l, 0 ≤ b ∧ b < (n : Int)
theorem mem_ordAt (n : Nat) : ∀ (k : Nat) (l : List Int), l ∈ ordAt n k ↔ Row n k l
  | 0, l => by
    show l ∈ [[]] ↔ _
    constructor
    · intro h
      have e : l = [] := by simpa using h
      subst e
      exact ⟨rfl, List.nodup_nil, by simp⟩
    · rintro ⟨h, _⟩
      simp [List.eq_nil_of_length_eq_zero h]
  | k + 1, l => by
    show l ∈ (ordAt n k).flatMap (ext n) ↔ _
    rw [List.mem_flatMap]
    constructor
    · rintro ⟨one, h1, h2⟩
      obtain ⟨hl, hn, hb⟩ := (mem_ordAt n k one).mp h1
      obtain ⟨b, c1, c2, rfl⟩ := mem_ext.mp h2
      refine ⟨by rw [List.length_append, hl]; rfl, ?_, ?_⟩
      · rw [List.nodup_append]
        refine ⟨hn, by simp, ?_⟩
        intro a ha c hc e
        have hc' : c = b := by simpa using hc
        subst hc'
        subst e
        exact c2 ha
      · intro a ha
        rcases List.mem_append.mp ha with h | h
        · exact hb a h
        · have e : a = b := by simpa using h
          subst e
          exact c1
    · rintro ⟨hl, hn, hb⟩
      have hne : l ≠ [] := by
        intro e
        subst e
        simp at hl
      have e : l.dropLast ++ [l.getLast hne] = l := List.dropLast_concat_getLast hne
      rw [← e] at hn hb
      rw [List.nodup_append] at hn
      obtain ⟨n1, _, n3⟩ := hn
      refine ⟨l.dropLast, (mem_ordAt n k _).mpr ⟨by rw [List.length_dropLast, hl]; rfl, n1, fun b h => hb b (List.mem_append_left _ h)⟩, mem_ext.mpr ⟨l.getLast hne, hb (l.getLast hne) (List.mem_append_right _ (by simp)), ?_, e.symm⟩⟩
      intro h
      exact n3 _ h _ (by simp) rfl
def orders (n : Nat) : List (List Int) := ordAt n n
theorem mem_orders {n : Nat} {l : List Int} : l ∈ orders n ↔ Row n n l := mem_ordAt n n l
theorem boxes_row (n : Nat) : Row n n (boxes n) := by
  refine ⟨boxes_length n, ?_, fun b h => mem_boxes.mp h⟩
  unfold boxes
  rw [List.nodup_iff_pairwise_ne, List.pairwise_map]
  have h := List.nodup_range (n := n)
  rw [List.nodup_iff_pairwise_ne] at h
  exact h.imp fun {a b} hab e => hab (by omega)
theorem orders_ne (n : Nat) : orders n ≠ [] := fun e => by
  have h := mem_orders.mpr (boxes_row n)
  rw [e] at h
  cases h
/-- each box is in a whole row -/
theorem Row.full {n : Nat} {l : List Int} (h : Row n n l) {b : Int} (h0 : 0 ≤ b) (h1 : b < n) : b ∈ l := by
  obtain ⟨hl, hn, hb⟩ := h
  by_cases hm : b ∈ l
  · exact hm
  · have q := List.Nodup.length_le_of_subset (l₁ := b :: l) (l₂ := boxes n) (List.nodup_cons.mpr ⟨hm, hn⟩) (by
      intro x hx
      rcases List.mem_cons.mp hx with e | hx
      · subst e
        exact mem_boxes.mpr ⟨h0, h1⟩
      · exact mem_boxes.mpr (hb x hx))
    rw [List.length_cons, boxes_length, hl] at q
    omega

/-! ### the place of a box in an order -/
def idx (q : List Int) (b : Int) : Int := (q.idxOf b : Nat)
theorem Row.idx_lt {n : Nat} {q : List Int} (h : Row n n q) {b : Int} (h0 : 0 ≤ b) (h1 : b < n) : q.idxOf b < n := by
  have e := List.idxOf_lt_length_iff.mpr (h.full h0 h1)
  rw [h.1] at e
  exact e
theorem Row.idx_bd {n : Nat} {q : List Int} (h : Row n n q) {b : Int} (h0 : 0 ≤ b) (h1 : b < n) : 0 ≤ idx q b ∧ idx q b < n := by
  have e := h.idx_lt h0 h1
  unfold idx
  omega
/-- the row q read through p -/
def comp (p q : List Int) : List Int := q.map fun j => p.getD j.toNat 0
theorem comp_row {n : Nat} {p q : List Int} (hp : Row n n p) (hq : Row n n q) : Row n n (comp p q) := by
  refine ⟨by unfold comp; rw [List.length_map]; exact hq.1, ?_, ?_⟩
  · unfold comp
    rw [List.nodup_iff_pairwise_ne, List.pairwise_map]
    refine (List.nodup_iff_pairwise_ne.mp hq.2.1).imp_of_mem ?_
    intro a b ha hb hab e
    obtain ⟨a0, a1⟩ := hq.2.2 a ha
    obtain ⟨b0, b1⟩ := hq.2.2 b hb
    have la : a.toNat < p.length := by rw [hp.1]; omega
    have lb : b.toNat < p.length := by rw [hp.1]; omega
    rw [List.getD_eq_getElem?_getD, List.getD_eq_getElem?_getD, List.getElem?_eq_getElem la, List.getElem?_eq_getElem lb] at e
    have e' : p[a.toNat] = p[b.toNat] := e
    have i := hp.2.1.idxOf_getElem a.toNat la
    have j := hp.2.1.idxOf_getElem b.toNat lb
    rw [e'] at i
    omega
  · intro c hc
    obtain ⟨j, hj, rfl⟩ := List.mem_map.mp hc
    obtain ⟨j0, j1⟩ := hq.2.2 j hj
    have lj : j.toNat < p.length := by rw [hp.1]; omega
    rw [List.getD_eq_getElem?_getD, List.getElem?_eq_getElem lj]
    exact hp.2.2 _ (List.getElem_mem lj)
theorem idx_comp {n : Nat} {p q : List Int} (hp : Row n n p) (hq : Row n n q) {a : Int} (h0 : 0 ≤ a) (h1 : a < n) : idx (comp p q) a = idx q (idx p a) := by
  obtain ⟨b0, b1⟩ := hp.idx_bd h0 h1
  have li := hq.idx_lt b0 b1
  have lq : q.idxOf (idx p a) < q.length := by rw [hq.1]; exact li
  have lc : q.idxOf (idx p a) < (comp p q).length := by rw [(comp_row hp hq).1]; exact li
  have e1 : q[q.idxOf (idx p a)] = idx p a := List.getElem_idxOf lq
  have lp : p.idxOf a < p.length := by rw [hp.1]; exact hp.idx_lt h0 h1
  have e2 : (comp p q)[q.idxOf (idx p a)] = a := by
    have e0 : (comp p q)[q.idxOf (idx p a)] = p.getD (q[q.idxOf (idx p a)]).toNat 0 := by
      unfold comp
      exact List.getElem_map ..
    rw [e0, e1]
    have e3 : (idx p a).toNat = p.idxOf a := by unfold idx; omega
    rw [e3, List.getD_eq_getElem?_getD, List.getElem?_eq_getElem lp]
    exact List.getElem_idxOf lp
  have e4 := (comp_row hp hq).2.1.idxOf_getElem _ lc
  rw [e2] at e4
  unfold idx at e4 ⊢
  rw [e4]
/-- the row that p must be read by to be r -/
def back (p r : List Int) : List Int := r.map (idx p)
theorem back_row {n : Nat} {p r : List Int} (hp : Row n n p) (hr : Row n n r) : Row n n (back p r) := by
  refine ⟨by unfold back; rw [List.length_map]; exact hr.1, ?_, ?_⟩
  · unfold back
    rw [List.nodup_iff_pairwise_ne, List.pairwise_map]
    refine (List.nodup_iff_pairwise_ne.mp hr.2.1).imp_of_mem ?_
    intro a b ha hb hab e
    obtain ⟨a0, a1⟩ := hr.2.2 a ha
    obtain ⟨b0, b1⟩ := hr.2.2 b hb
    have la : p.idxOf a < p.length := by rw [hp.1]; exact hp.idx_lt a0 a1
    have lb : p.idxOf b < p.length := by rw [hp.1]; exact hp.idx_lt b0 b1
    have e' : p.idxOf a = p.idxOf b := by unfold idx at e; omega
    have i : p[p.idxOf a] = a := List.getElem_idxOf la
    have j : p[p.idxOf b] = b := List.getElem_idxOf lb
    have k : p[p.idxOf a] = p[p.idxOf b] := by simp only [e']
    exact hab (i.symm.trans (k.trans j))
  · intro c hc
    obtain ⟨b, hb, rfl⟩ := List.mem_map.mp hc
    obtain ⟨b0, b1⟩ := hr.2.2 b hb
    exact hp.idx_bd b0 b1
theorem comp_back {n : Nat} {p r : List Int} (hp : Row n n p) (hr : Row n n r) : comp p (back p r) = r := by
  unfold comp back
  rw [List.map_map]
  have e : r.map ((fun j : Int => p.getD j.toNat 0) ∘ idx p) = r.map id := by
    refine List.map_congr_left fun b hb => ?_
    obtain ⟨b0, b1⟩ := hr.2.2 b hb
    have lb : p.idxOf b < p.length := by rw [hp.1]; exact hp.idx_lt b0 b1
    show p.getD (idx p b).toNat 0 = b
    have e3 : (idx p b).toNat = p.idxOf b := by unfold idx; omega
    rw [e3, List.getD_eq_getElem?_getD, List.getElem?_eq_getElem lb]
    exact List.getElem_idxOf lb
  rw [e, List.map_id]

/-! ### pipes -/
def PipeOk (n : Nat) (p : List Int) : Prop := ∃ a b g e s : Int, p = [a, b, g, e, s] ∧ (0 ≤ a ∧ a < n) ∧ (0 ≤ b ∧ b < n) ∧ (1 ≤ g ∧ g ≤ 999) ∧ (1 ≤ e ∧ e ≤ 999) ∧ (0 ≤ s ∧ s ≤ 99999)
def rn (q : List Int) : List Int → List Int
  | a :: b :: r => idx q a :: idx q b :: r
  | l => l
theorem rn_ok {n : Nat} {q p : List Int} (hq : Row n n q) (hp : PipeOk n p) : PipeOk n (rn q p) := by
  obtain ⟨a, b, g, e, s, rfl, ha, hb, h⟩ := hp
  exact ⟨idx q a, idx q b, g, e, s, rfl, hq.idx_bd ha.1 ha.2, hq.idx_bd hb.1 hb.2, h⟩
theorem rn_comp {n : Nat} {p q x : List Int} (hp : Row n n p) (hq : Row n n q) (hx : PipeOk n x) : rn q (rn p x) = rn (comp p q) x := by
  obtain ⟨a, b, g, e, s, rfl, ha, hb, h⟩ := hx
  show [idx q (idx p a), idx q (idx p b), g, e, s] = [idx (comp p q) a, idx (comp p q) b, g, e, s]
  rw [idx_comp hp hq ha.1 ha.2, idx_comp hp hq hb.1 hb.2]
theorem PipeOk.bd {n : Nat} {p : List Int} (hn : n ≤ 8) (h : PipeOk n p) : p.length = 5 ∧ TS.Bd 100000 p := by
  obtain ⟨a, b, g, e, s, rfl, ha, hb, hg, he, hs⟩ := h
  refine ⟨rfl, fun m hm => ?_⟩
  have hm' : m = a ∨ m = b ∨ m = g ∨ m = e ∨ m = s := by simpa using hm
  rcases hm' with rfl | rfl | rfl | rfl | rfl <;> omega
theorem code5 (a b c d e : Int) : TS.code 100000 [a, b, c, d, e] = a * 100000000000000000000 + b * 1000000000000000 + c * 10000000000 + d * 100000 + e := by
  show a * 100000 ^ 4 + (b * 100000 ^ 3 + (c * 100000 ^ 2 + (d * 100000 ^ 1 + (e * 100000 ^ 0 + 0)))) = _
  omega
theorem code_inj {n : Nat} {p q : List Int} (hn : n ≤ 8) (hp : PipeOk n p) (hq : PipeOk n q) (h : TS.code 100000 p = TS.code 100000 q) : p = q := by
  obtain ⟨a, b, g, e, s, rfl, ha, hb, hg, he, hs⟩ := hp
  obtain ⟨a', b', g', e', s', rfl, ha', hb', hg', he', hs'⟩ := hq
  rw [code5, code5] at h
  have e1 : a = a' := by omega
  have e2 : b = b' := by omega
  have e3 : g = g' := by omega
  have e4 : e = e' := by omega
  have e5 : s = s' := by omega
  rw [e1, e2, e3, e4, e5]
def leC (x y : List Int) : Bool := decide (TS.code 100000 x ≤ TS.code 100000 y)
def srt (ps : List (List Int)) : List (List Int) := ps.mergeSort leC
theorem srt_perm (ps : List (List Int)) : (srt ps).Perm ps := List.mergeSort_perm ps leC
theorem srt_up (ps : List (List Int)) : (srt ps).Pairwise fun x y => TS.code 100000 x ≤ TS.code 100000 y := by
  have h := List.pairwise_mergeSort (le := leC) (fun a b c h1 h2 => by
    have h1' := of_decide_eq_true h1
    have h2' := of_decide_eq_true h2
    exact decide_eq_true (Int.le_trans h1' h2')) (fun a b => by
    unfold leC
    rcases Int.le_total (TS.code 100000 a) (TS.code 100000 b) with h | h
    · simp [h]
    · simp [h]) ps
  exact h.imp fun {a b} z => of_decide_eq_true z
def AllOk (n : Nat) (ps : List (List Int)) : Prop := ∀ p ∈ ps, PipeOk n p
/-- the sorted row is the only one -/
theorem srt_one {n : Nat} {ps qs : List (List Int)} (hn : n ≤ 8) (ok : AllOk n ps) (hp : qs.Perm ps) (hs : qs.Pairwise fun x y => TS.code 100000 x ≤ TS.code 100000 y) : qs = srt ps := by
  have h := hp.trans (srt_perm ps).symm
  refine List.Perm.eq_of_pairwise (le := fun x y => TS.code 100000 x ≤ TS.code 100000 y) ?_ hs (srt_up ps) h
  intro a b ha hb h1 h2
  exact code_inj hn (ok a (hp.mem_iff.mp ha)) (ok b ((srt_perm ps).mem_iff.mp hb)) (Int.le_antisymm h1 h2)
theorem srt_ok {n : Nat} {ps : List (List Int)} (ok : AllOk n ps) : AllOk n (srt ps) := fun p hp => ok p ((srt_perm ps).mem_iff.mp hp)
theorem srt_same {n : Nat} {ps qs : List (List Int)} (hn : n ≤ 8) (ok : AllOk n ps) (h : qs.Perm ps) : srt qs = srt ps := srt_one hn ok ((srt_perm qs).trans h) (srt_up qs)
/-- the pipes of a flow named anew -/
def nm (q : List Int) (ps : List (List Int)) : List (List Int) := srt (ps.map (rn q))
theorem map_ok {n : Nat} {q : List Int} {ps : List (List Int)} (hq : Row n n q) (ok : AllOk n ps) : AllOk n (ps.map (rn q)) := fun p hp => by
  obtain ⟨x, hx, rfl⟩ := List.mem_map.mp hp
  exact rn_ok hq (ok x hx)
theorem nm_ok {n : Nat} {q : List Int} {ps : List (List Int)} (hq : Row n n q) (ok : AllOk n ps) : AllOk n (nm q ps) := srt_ok (map_ok hq ok)
theorem nm_length (q : List Int) (ps : List (List Int)) : (nm q ps).length = ps.length := by
  unfold nm
  rw [(srt_perm _).length_eq, List.length_map]
theorem nm_nm {n : Nat} {p q : List Int} {ps : List (List Int)} (hn : n ≤ 8) (hp : Row n n p) (hq : Row n n q) (ok : AllOk n ps) : nm q (nm p ps) = nm (comp p q) ps := by
  unfold nm
  refine srt_same hn (map_ok (comp_row hp hq) ok) ?_
  have h := ((srt_perm (ps.map (rn p))).map (rn q))
  rw [List.map_map] at h
  have e : ps.map (rn q ∘ rn p) = ps.map (rn (comp p q)) := List.map_congr_left fun x hx => rn_comp hp hq (ok x hx)
  rw [e] at h
  exact h
/-- a flow and the flow named anew have the same forms -/
theorem forms_same {n : Nat} {p : List Int} {ps : List (List Int)} (hn : n ≤ 8) (hp : Row n n p) (ok : AllOk n ps) (x : List (List Int)) :
    x ∈ (orders n).map (fun q => nm q (nm p ps)) ↔ x ∈ (orders n).map (fun q => nm q ps) := by
  rw [List.mem_map, List.mem_map]
  constructor
  · rintro ⟨q, hq, rfl⟩
    have hq' := mem_orders.mp hq
    exact ⟨comp p q, mem_orders.mpr (comp_row hp hq'), (nm_nm hn hp hq' ok).symm⟩
  · rintro ⟨r, hr, rfl⟩
    have hr' := mem_orders.mp hr
    refine ⟨back p r, mem_orders.mpr (back_row hp hr'), ?_⟩
    rw [nm_nm hn hp (back_row hp hr') ok, comp_back hp hr']
end K61

/-! Own rules over the layer: min of nested data, tuple.index of ints, sorted of a tuple of ints, enumerate of a tuple. -/
namespace K61
open PySem PySem.Spec PyProof.Rows L2
section
variable {X : Cx}
/-! ### min(xs), xs a list of data that are alike -/
/-- min(xs): the items' data are d :: ds, and the answer stands at a place whose datum is the least -/
def rMinD (K : PySem.W.Frag) : List V → Hp → VK → Prop := fun args H Q => ∃ (l : Addr) (items : List V) (d : PyData) (ds : List PyData), args = [V.ref l] ∧ SqL K H l items ∧ DpAll K H items (d :: ds) ∧ PySem.W.AlikeAll (d :: ds) ∧ PyData.depthAll (d :: ds) ≤ 16 ∧
  ∀ (i : Nat) (v : V), items[i]? = some v → (d :: ds)[i]? = some (PySem.W.minD d ds) → Q v H
theorem foldl_mem {α : Type} (f : α → α → Bool) : ∀ (xs : List α) (x : α), xs.foldl (fun a y => if f y a then y else a) x ∈ x :: xs
  | [], x => List.mem_cons_self
  | y :: ys, x => by
    have h := foldl_mem f ys (if f y x then y else x)
    show ys.foldl _ (if f y x then y else x) ∈ x :: y :: ys
    rcases List.mem_cons.mp h with e | h
    · rw [e]
      split
      · exact List.mem_cons_of_mem _ List.mem_cons_self
      · exact List.mem_cons_self
    · exact List.mem_cons_of_mem _ (List.mem_cons_of_mem _ h)
theorem minD_mem (d : PyData) (ds : List PyData) : PySem.W.minD d ds ∈ d :: ds := foldl_mem _ ds d
theorem dpAll_len {K : PySem.W.Frag} {H : Hp} : ∀ {xs : List V} {ds : List PyData}, DpAll K H xs ds → xs.length = ds.length
  | _, _, .nil => rfl
  | _, _, .cons _ t => congrArg (· + 1) (dpAll_len t)
theorem cr_minD (calm : X.calm = true) (room : X.A.units + 64 < cLine) : CallR X (.builtin "min") (rMinD X.K) := by
  intro pins s σ H args us Q I hargs hr
  obtain ⟨l, items, d, ds, rfl, hseq, hdat, hal, hdep, hq⟩ := hr
  rw [Vals.ref1 hargs]
  obtain ⟨its, hv, hlist, _⟩ := I.list hseq
  obtain ⟨as, hread⟩ := Dp.readsAll I _ _ _ hdat hv
  have hread' : ReadsAll s.heap its.toArray.toList (d :: ds) as := by simpa using hread
  refine PySem.W.min_list_data (I.ok.hd calm) hlist.isList hread' hal (by omega) fun i v h' tk bs at_i reads_i keep => ?_
  obtain ⟨_, first, inside, member, _⟩ := PySem.W.readsAll_atA hread' i v at_i
  have least : (d :: ds).getD i .none = PySem.W.minD d ds :=
    PySem.W.alike_unique _ _ _ _ _ (hal.1 _ member _ (minD_mem d ds)) (PySem.W.reads_keeps keep first) reads_i
  have len := dpAll_len hdat
  have here : items[i]? = some (items[i]'(by omega)) := List.getElem?_eq_getElem _
  obtain ⟨u, at_u, rel⟩ := hv.get here
  have same : v = u := Option.some.inj ((show some v = its[i]? by simpa using at_i.symm).trans at_u)
  subst same
  refine ⟨items[i]'(by omega), H, I.kept keep, rel, hq i _ here ?_⟩
  rw [← least, List.getD_eq_getElem?_getD, List.getElem?_eq_getElem inside]
  rfl
/-! ### t.index(n), t a tuple of ints -/
theorem paired_at2 {α β : Type} {F : α → β → Prop} : ∀ {xs : List α} {ys : List β} {i : Nat} {y : β}, Paired F xs ys → ys[i]? = some y → ∃ x, xs[i]? = some x ∧ F x y
  | _, _, _, _, .nil, h => by simp at h
  | _, _, 0, y, .cons r _, h => by
    have e := Option.some.inj (show some _ = some y from h)
    subst e
    exact ⟨_, rfl, r⟩
  | _, _, i + 1, y, .cons _ t, h => paired_at2 (i := i) t h
theorem flat_ints (ys : List Int) : (ys.map V.int).all flatV = true := by simp [flatV]
theorem int_vals {ns : List Int} {its : List Value} {m : Nat} {u : Value} (r : Vals (ns.map V.int) its) (h : its[m]? = some u) : ∃ n t, ns[m]? = some n ∧ u = .int n t := by
  obtain ⟨x, hx, rel⟩ := paired_at2 r h
  rw [List.getElem?_map] at hx
  cases e : ns[m]? with
  | none =>
    rw [e] at hx
    cases hx
  | some n =>
    rw [e] at hx
    cases hx
    obtain ⟨t, rfl⟩ := rel
    exact ⟨n, t, rfl, rfl⟩
/-- the first place j of k -/
def rTupIx (K : PySem.W.Frag) : V → List V → Hp → VK → Prop := fun recv args H Q => ∃ p, ∃ ns : List Int, ∃ k j, recv = .ref p ∧ args = [.int k] ∧ SqT K H p (ns.map V.int) ∧ ns[j]? = some k ∧ (∀ m, m < j → ns[m]? ≠ some k) ∧ Q (.int (j : Nat)) H
theorem mt_tup_indexI : MtR X "tuple.index" (rTupIx X.K) := by
  intro pins s σ H recv args v us Q I hrecv hargs hr
  obtain ⟨p, ns, k, j, rfl, rfl, hseq, hat, hfirst, hq⟩ := hr
  cases hrecv
  obtain ⟨_, rfl, tk, rfl⟩ := vals1 hargs
  obtain ⟨its, hv, ⟨⟨c, d, da, sl⟩, hget, hcls, cap, hdat⟩, _⟩ := I.tuple hseq
  obtain rfl : c = .type "tuple" := hcls
  obtain rfl : da = .seq its.toArray cap := hdat
  have test : ∀ m (hm : m < its.toArray.size), ∃ n, ns[m]? = some n ∧ eqU (.int k) its.toArray[m] = (n == k) := fun m hm => by
    obtain ⟨n, t, h1, h2⟩ := int_vals (m := m) (u := its.toArray[m]) hv (by simp)
    exact ⟨n, h1, by rw [h2]; rfl⟩
  have hj : j < its.toArray.size := by
    have h1 := (List.getElem?_eq_some_iff.mp hat).1
    have h2 := hv.length
    rw [List.length_map] at h2
    rw [List.size_toArray]
    omega
  have yes : eqU (.int k) its.toArray[j] = true := by
    obtain ⟨n, h1, h2⟩ := test j hj
    cases h1.symm.trans hat
    rw [h2]
    exact beq_self_eq_true k
  have no : ∀ m (hm : m < its.toArray.size), m < j → eqU (.int k) its.toArray[m] = false := fun m hm hmj => by
    obtain ⟨n, h1, h2⟩ := test m hm
    rw [h2]
    refine beq_eq_false_iff_ne.mpr ?_
    rintro rfl
    exact hfirst m hmj h1
  exact call_meets PySem.F.slot_tuple_index ⟨_, hget, rfl⟩ PySem.F.entry_tuple_index (PySem.F.args_tuple_index_2 _ _)
    (TI.tuple_indexAt p its.toArray cap d sl (.int k tk) (eqU (.int k)) j hj yes no)
    ⟨hget, fun w hw => mem_eqAt (x := .int k) ⟨tk, rfl⟩ rfl hv (flat_ints ns) w (List.mem_toArray.mp hw), .int (j : Nat), H, I.tok _, ⟨_, rfl⟩, hq⟩
end
end K61
namespace K61
open PySem PySem.Spec PyProof.Rows L2
/-! ### sorted(t), t a tuple of ints -/
/-- the heap behind sorted: the items in a new list, that list in its order -/
abbrev srtHeap (h : Heap) (vs out : List Value) : Heap := sortedHeap (h.push (seqObj "list" vs.toArray 0)) h.objs.size vs out.toArray
theorem srt_tuple {prog : Program} {w : World} {A : Around} {E : Value → Shared → Prop} {s : Shared} {t : Addr} {vs : List Value} {ns : List Int} {Q : Value → Shared → Prop}
    (ht : IsTup s.heap t vs.toArray) (hsz : vs.length ≤ sizeLine) (hi : IntsAre vs ns)
    (q : ∀ (h' : Heap) (out : List Value), (∀ b o, s.heap.get? b = some o → h'.get? b = some o) → IntsAre out (out.map SrtO.iv) → (out.map SrtO.iv).Perm ns → (out.map SrtO.iv).Pairwise (· ≤ ·) → Q (.ref h'.objs.size) { s with heap := srtHeap h' vs out }) :
    wpAny (model prog w) A (call (.builtin "sorted") [.ref t]) Q E s := by
  have ⟨o, ho, hc, n, hd⟩ := ht
  have made : ∀ h' : Heap, (h'.push (seqObj "list" vs.toArray 0)).get? h'.objs.size = some (seqObj "list" vs.toArray 0) := fun h' => Heap.get?_push_size _ rfl
  have back : vs.toArray.toList.toArray = vs.toArray := by simp
  have body : ∀ A', wpAny (model prog w) A' (Builtin.«sorted» ⟨[.ref t], []⟩) (fun f s' => ∃ v, f = .done (.ret v) ∧ Q v s') E s := fun A' => by
    unfold Builtin.«sorted»
    refine wpAny_bind (m := checkCount "sorted" 1 1 _) (wpAny_pure (wpAny_bind (wpAny_collect_seq t (.inr rfl) ho hc hd (fun h' keep => wpAny_bind (wpAny_newList ?_ (by simpa using hsz))) (by rw [List.size_toArray]; exact hsz))))
    show wpAny _ _ _ _ _ { s with heap := h'.push (seqObj "list" vs.toArray.toList.toArray 0) }
    rw [back]
    have fin : ∀ out : List Value, SrtO.Srtd SrtO.ltIv out → SrtO.Stb SrtO.ltIv out vs → Q (.ref h'.objs.size) { s with heap := srtHeap h' vs out } := fun out h1 h2 =>
      have ⟨a1, a2, a3⟩ := SrtO.ints_out hi h1 h2
      q h' out keep a1 a2 a3
    exact wpAny_bind (wpAny_holding (wpAny_call_entry slot_list_sort ⟨_, made h', rfl⟩ entry_list_sort
      (SrtO.list_sort_ord (s := { s with heap := h'.push (seqObj "list" vs.toArray 0) }) SrtO.swo_int (made h') hsz (fun two => SrtO.ints_sortable hi two) fun out h1 h2 => ⟨_, rfl, wpAny_pure ⟨_, rfl, fin out h1 h2⟩⟩) (args_list_sort _)))
  exact Calls.call_function_entry kind_sorted plain_sorted entry_sorted (args_sorted1 _) (body _)
/-- sorted(t): a new list of the ints in their order -/
def rSortedTI (K : PySem.W.Frag) : List V → Hp → VK → Prop := fun args H Q => ∃ (t : Addr) (ns : List Int), args = [V.ref t] ∧ SqT K H t (ns.map V.int) ∧
  ∀ (up : List Int) (l : Addr), up.Perm ns → up.Pairwise (· ≤ ·) → H l = none → Q (.ref l) (upd H l (.lst (up.map V.int)))
theorem cr_sortedTI {X : Cx} : CallR X (.builtin "sorted") (rSortedTI X.K) := by
  intro pins s σ H args us Q I hargs hr
  obtain ⟨t, ns, rfl, hseq, hq⟩ := hr
  obtain ⟨its, hv, hobj, hlen⟩ := I.tuple hseq
  rw [Vals.ref1 hargs]
  refine srt_tuple hobj (by rw [← hv.length]; exact hlen) hv.ints fun h' out keep a1 a2 a3 => ?_
  have hl : (h'.push (seqObj "list" its.toArray 0)).get? h'.objs.size = some (seqObj "list" its.toArray 0) := Heap.get?_push_size _ rfl
  obtain ⟨ep, at_l⟩ := PyProof.Rows.sortedHeap_at (vs := its) (out := out.toArray) hl
  have I' : Inv X pins σ H { s with heap := h' } := I.kept (t' := s.toks) keep
  have small : ((out.map SrtO.iv).map V.int).length ≤ sizeLine := by
    have e := a2.length_eq
    rw [List.length_map] at hlen ⊢
    omega
  have olds : ∀ b o, h'.get? b = some o → (srtHeap h' its out).get? b = some o := fun b o e => by
    have lt := Heap.lt_size e
    unfold srtHeap
    have ne : b ≠ h'.objs.size := Nat.ne_of_lt lt
    have in_ : b < (h'.push (seqObj "list" its.toArray 0)).objs.size := by
      rw [Heap.size_push]
      exact Nat.lt_succ_of_lt lt
    exact (PyProof.Rows.sortedHeap_old ne in_).trans (Heap.get?_push_of_some _ e)
  exact ⟨.ref _, _, I'.laid (t' := s.toks) olds (Nat.le_refl _) (o := .lst ((out.map SrtO.iv).map V.int)) ⟨small, out, ep, vals_of_ints a1, at_l⟩, rfl, hq _ _ a2 a3 (I'.hok.fresh (Nat.le_refl _))⟩
end K61
namespace K61
open PySem
/-! ### enumerate(v): v told by how its iterator begins -/
/-- the heap behind enumerate(v): the iterator o, the enumerate object over it -/
abbrev enHeap (h : Heap) (o : Obj) : Heap := (h.push o).push { cls := .type "enumerate", data := .fields #[.none, .bool false, .ref h.objs.size, rawInt 0, .none, .none] }
theorem en_made (h : Heap) (o : Obj) : IsEnum (enHeap h o) (h.objs.size + 1) h.objs.size 0 .none := by
  have z : (h.push o).objs.size = h.objs.size + 1 := Heap.size_push ..
  have q : (enHeap h o).get? (h.push o).objs.size = some _ := Heap.get?_push_size (h.push o) rfl
  rw [z] at q
  exact q
theorem en_new {v : Value} {o : Obj} {H : Heap → Prop} (B : Begins v o H) : Meets (Builtin.«enumerate.__new__» ⟨[.type "enumerate", v], []⟩)
    (fun _ R s => H s.heap ∧ R (.ok (.ret (.ref (s.heap.push o).objs.size))) { s with heap := enHeap s.heap o }) := by
  refine .of_wp fun prog w A R s hyp => ?_
  have ⟨h1, h2⟩ := hyp
  have sub := sub_enumerate
  have begin_ : ∀ {A' : Around} {E Q : Value → Shared → Prop}, Q (.ref s.heap.objs.size) { s with heap := s.heap.push o } → wpAny (model prog w) A' (pyIter v) Q E s := fun q => B.iter prog w _ _ s _ h1 q
  cases s
  wp_walk using begin_
  refine wpAny_stack_any fun _ => wpAny_pure ?_
  split
  · rename_i c _ _ _ _ _
    by_cases z : (c == Value.type "enumerate") = true
    all_goals
      wp_walk using begin_
      exact ⟨_, rfl, h2⟩
  · wp_walk using begin_
    exact ⟨_, rfl, h2⟩
theorem en_call {prog : Program} {w : World} {A : Around} {E : Value → Shared → Prop} {s : Shared} {v : Value} {o : Obj} {H : Heap → Prop} {Q : Value → Shared → Prop} (B : Begins v o H) (h1 : H s.heap)
    (q : Q (.ref (s.heap.objs.size + 1)) { s with heap := enHeap s.heap o }) : wpAny (model prog w) A (call (.type "enumerate") [v]) Q E s := by
  have z : (s.heap.push o).objs.size = s.heap.objs.size + 1 := Heap.size_push ..
  have made : IsEnum (enHeap s.heap o) (s.heap.push o).objs.size s.heap.objs.size 0 .none := by
    rw [z]
    exact en_made s.heap o
  exact callType_new F.called_enumerate (by decide) (F.typeCall_enumerate_1 _) (F.newCall_enumerate_1 _) (fun x => F.args_object_init_2 x _) F.entry_enumerate_new (en_new B) ⟨h1, ⟨_, made, rfl⟩, by rw [z]; exact q⟩
end K61
namespace K61
open PySem PySem.Spec PyProof.Rows L2
/-! ### for k, x in enumerate(t), t a tuple -/
/-- each turn gives a new pair of the place and the item -/
def EnT (K : PySem.W.Frag) (t : Addr) : It where
  go i H := ∃ (items : List V) (x : V), SqT K H t items ∧ items[i]? = some x
  yld i H v H' := ∃ (c : Addr) (x : V), v = .ref c ∧ H c = none ∧ H' = upd H c (.tup [.int (i : Nat), x]) ∧ ∀ items, SqT K H t items → items[i]? = some x
  stop i H := ∃ items : List V, SqT K H t items ∧ items.length = i
/-- the enumerate object e over the iterator r of the tuple t, ahead of turn i -/
structure EnAt (t e r : Addr) (i : Nat) (h : Heap) : Prop where
  enum : ∃ last, IsEnum h e r ((i : Nat) : Int) last
  iter : h.IsTupleIter r t i
  two : e ≠ r
theorem in_two {e r b : Addr} (h : b ∈ [e, r]) : b = e ∨ b = r := (List.mem_cons.mp h).imp_right fun z => List.mem_singleton.mp z
/-- objects of two classes are two -/
theorem cls_ne {h : Heap} {x y : Addr} {ox oy : Obj} {n m : String} (hx : h.get? x = some ox) (hy : h.get? y = some oy) (cx : ox.cls = .type n) (cy : oy.cls = .type m) (ne : n ≠ m) : x ≠ y := fun z => by
  subst z
  have e : ox = oy := Option.some.inj (hx.symm.trans hy)
  subst e
  have c : Value.type n = Value.type m := cx.symm.trans cy
  injection c with c
  exact ne c
theorem turn_enT {P : Program} {w : World} {K : PySem.W.Frag} {elts : List Expr} {kk : Nat} {tpos : Pos} (t e r : Addr) : Turn P w K (.Tuple elts kk tpos) (EnT K t) [e, r] e (EnAt t e r) := by
  refine ⟨List.mem_cons_self, fun i h st b hb => ?_, fun i h h' st k => ?_, ?_, ?_, fun A i s Q E st q => ?_⟩
  · obtain ⟨⟨_, he⟩, ⟨o, ho, _, hd⟩, _⟩ := st
    rcases in_two hb with rfl | rfl
    · exact ⟨_, he, fun _ z => by cases z⟩
    · exact ⟨o, ho, fun _ z => by cases hd.symm.trans z⟩
  · obtain ⟨⟨last, he⟩, hi, ne⟩ := st
    exact ⟨⟨last, k e List.mem_cons_self _ he⟩, hi.at fun o z => k r (List.mem_cons_of_mem _ List.mem_cons_self) o z, ne⟩
  · rintro X rfl rfl rfl calm i pins s σ H E I free ⟨⟨last, he⟩, hi, ne⟩ ⟨items, x, hseq, hx⟩
    obtain ⟨its, hv, ht, _⟩ := I.tuple hseq
    obtain ⟨u, hu, rel⟩ := hv.get hx
    have tup : s.heap.IsTuple t its.toArray := ht
    have ⟨ot, got, ct, _⟩ := tup
    have ⟨oi, goi, ci, _⟩ := hi
    have tr : t ≠ r := cls_ne got goi ct ci (by decide)
    have et : e ≠ t := cls_ne (n := "enumerate") (m := "tuple") he got rfl ct (by decide)
    have e_old : e < s.heap.objs.size := Heap.lt_size he
    have r_old : r < s.heap.objs.size := Heap.lt_size goi
    have room : i < its.toArray.size := by
      have := (List.getElem?_eq_some_iff.mp hu).1
      simpa using this
    have noE : e ∉ [r, t] := fun z => (in_two z).elim ne et
    refine wpAny_pyNext_enum_itemD (Draws.tuple (A := X.A.in1) (I.ok.hd calm) r t tr its.toArray) he ⟨hi, tup⟩ room ne noE fun y h1 tk hy out st1 pair _ olds => ?_
    have same : y = u := Option.some.inj ((show some y = its[i]? by simpa using hy.symm).trans hu)
    subst same
    refine ⟨_, rfl, wpAny_letOwnedTupleGo_enum (s := { s with heap := h1, toks := tk + 1 }) out fun h2 he2 but => ?_⟩
    have pair2 : h2.get? s.heap.objs.size = some { cls := .type "tuple", data := .seq #[.int i tk, y] } := (but.2 _ (Nat.ne_of_gt e_old)).trans pair
    have cell : ObjOk X.prog X.w (upd H s.heap.objs.size (.tup [.int (i : Nat), x])) h2 s.heap.objs.size (.tup [.int (i : Nat), x]) := by
      refine ⟨by show 2 ≤ sizeLine; decide, [.int i tk, y], ?_, _, pair2, rfl, _, rfl⟩
      exact .cons ⟨_, rfl⟩ (.cons rel .nil)
    have grown : ∀ b o, b ∉ [e, r] → s.heap.get? b = some o → h2.get? b = some o := fun b o nb z => by
      have be : b ≠ e := fun q => nb (q ▸ List.mem_cons_self)
      have br : b ≠ r := fun q => nb (q ▸ List.mem_cons_of_mem _ List.mem_cons_self)
      exact (but.2 b be).trans (olds b o be br z)
    have I2 := I.turnedNew (t' := tk + 1) (ch := [e, r]) grown free (Nat.le_refl _) cell
    refine ⟨.ref s.heap.objs.size, _, I2, rfl, ⟨_, x, rfl, I.hok.fresh (Nat.le_refl _), rfl, fun zs hz => ?_⟩, ⟨⟨y, ?_⟩, st1.1.at fun o z => (but.2 r ne.symm).trans z, ne⟩, fun b hb => ?_⟩
    · cases I.tuple_inj hz hseq
      exact hx
    · rw [Int.natCast_succ]
      exact he2
    · have old : b < s.heap.objs.size := (in_two hb).elim (fun z => z ▸ e_old) fun z => z ▸ r_old
      exact (upd_ne (Nat.ne_of_lt old)).trans (free b hb).1
  · rintro X rfl rfl rfl calm i pins s σ H E I free ⟨⟨last, he⟩, hi, ne⟩ ⟨items, hseq, hx⟩
    obtain ⟨its, hv, ht, _⟩ := I.tuple hseq
    have tup : s.heap.IsTuple t its.toArray := ht
    have ⟨ot, got, ct, _⟩ := tup
    have ⟨oi, goi, ci, _⟩ := hi
    have tr : t ≠ r := cls_ne got goi ct ci (by decide)
    have len : its.toArray.size = i := by
      have := hv.length
      rw [List.size_toArray]
      omega
    have ⟨f0, f1, _, f3, f4, f5⟩ := free r (List.mem_cons_of_mem _ List.mem_cons_self)
    exact wpAny_pyNext_enum_endD (Draws.tuple (A := X.A.in1) (I.ok.hd calm) r t tr its.toArray) he ⟨len.symm ▸ hi, tup⟩ fun h1 but => ⟨rfl, I.turned (t' := s.toks) (fun b o nb z => but b o nb z) f0 f1 f3 f4 f5⟩
  · obtain ⟨⟨_, he⟩, _⟩ := st
    exact wpAny_pyIter_enum he q
/-- the pairs that a loop over enumerate(t) gets -/
def iEnT (K : PySem.W.Frag) (ta : TA) : TI := fun σ H R => ta σ H fun args H1 => ∃ (t : Addr) (items : List V), args = [.ref t] ∧ SqT K H1 t items ∧ R (EnT K t) H1
theorem pi_enumT {X : Cx} {a : Expr} {ta : TA} {p pos tpos : Pos} {elts : List Expr} {kk : Nat} (glob : Gl X "enumerate") (own : X.mg "enumerate" = none) (ha : PA X [a] ta) (one : starEach [a] X.env = [(false, eval a X.env)] := by rfl) :
    PI X (.Tuple elts kk tpos) (.Call (.Name "enumerate" p) [a] [] pos) (iEnT X.K ta) := by
  constructor
  intro pins s σ H R I q
  refine Call_ (ld_blt I glob own boot_enumerate (PyProof.Rows.callWith_type1 (thn (ha.run pos pins s σ H _ I q) ?_) one rfl))
  rintro us s1 ⟨args, H1, I1, rel, t, items, rfl, hseq, q1⟩
  obtain ⟨u, rfl, ru⟩ := vals1 rel
  cases ru
  obtain ⟨its, _, ht, _⟩ := I1.tuple hseq
  have B := begins_tuple t its.toArray
  refine en_call B (show s1.heap.IsTuple t its.toArray from ht) (wpAny_pyIter_enum (en_made s1.heap _) ?_)
  have r_at : (enHeap s1.heap { cls := .type "tuple_iterator", data := .fields #[.ref t, .int 0 0] }).get? s1.heap.objs.size = some { cls := .type "tuple_iterator", data := .fields #[.ref t, .int 0 0] } :=
    Heap.get?_push_of_some _ (Heap.get?_push_size _ B.free)
  have olds : ∀ b o, s1.heap.get? b = some o → (enHeap s1.heap { cls := .type "tuple_iterator", data := .fields #[.ref t, .int 0 0] }).get? b = some o := fun b o z => Heap.get?_push_of_some _ (Heap.get?_push_of_some _ z)
  have newer : ∀ b, b ∈ [s1.heap.objs.size + 1, s1.heap.objs.size] → s1.heap.objs.size ≤ b := fun b hb => (in_two hb).elim (fun z => z ▸ Nat.le_succ _) fun z => z ▸ Nat.le_refl _
  exact ⟨_, _, _, _, H1, rfl, I1.kept (t' := s1.toks) olds, turn_enT t (s1.heap.objs.size + 1) s1.heap.objs.size, ⟨⟨.none, en_made s1.heap _⟩, ⟨_, r_at, rfl, rfl⟩, Nat.succ_ne_self _⟩,
    fun b hb => I1.fpOk (newer b hb) (I1.hok.fresh (newer b hb)), q1⟩
theorem walk_enumT {K : PySem.W.Frag} {t : Addr} {items : List V} : Walk (EnT K t) items.length (fun H => SqT K H t items) (YPair (fun i => some (.int (i : Nat))) (fun i => items[i]?)) := by
  constructor
  · exact fun i _ lt z => ⟨items, items[i], z, List.getElem?_eq_getElem lt⟩
  · exact fun _ z => ⟨items, z, rfl⟩
  · rintro i H v H' _ z ⟨c, x, e1, e2, e3, e4⟩
    exact ⟨c, _, x, e1, e2, e3, rfl, e4 items z⟩
end K61

/-! The text by places, heaps, what stands where. -/
namespace K61
open PySem PySem.Spec PyProof.Rows L2
def topS (i : Nat) : Stmt := PySem.Challenge.pw_rateflows_k61_whole_least_forms.main.body.getD i (.Pass ⟨0, 0, 0, 0⟩)
abbrev sIsIn : Stmt := topS 6
abbrev sIsPipe : Stmt := topS 12
abbrev sNeed : Stmt := topS 13
abbrev sNamed : Stmt := topS 16
abbrev sRenamed : Stmt := topS 17
abbrev sAllOrd : Stmt := topS 18
abbrev sLeast : Stmt := topS 19
abbrev sTaken : Stmt := topS 21
abbrev sPick : Stmt := topS 22
abbrev sAny : Stmt := topS 23
abbrev sGcd : Stmt := topS 24
abbrev sFlow : Stmt := topS 25
abbrev sOrder : Stmt := topS 26
abbrev sOrders : Stmt := topS 27
abbrev sAlike : Stmt := topS 28
abbrev sLaw : Stmt := topS 29
theorem scIsIn : FnScope ["value", "least", "most"] ["value", "least", "most"] (defScope sIsIn) := ⟨rfl, rfl, rfl, by decide +kernel, rfl, by decide +kernel, by decide +kernel⟩
theorem scIsPipe : FnScope ["value", "boxes"] ["value", "boxes"] (defScope sIsPipe) := ⟨rfl, rfl, rfl, by decide +kernel, rfl, by decide +kernel, by decide +kernel⟩
theorem scNeed : FnScope ["flow", "index", "pipe"] ["flow"] (defScope sNeed) := ⟨rfl, rfl, rfl, by decide +kernel, rfl, by decide +kernel, by decide +kernel⟩
theorem scNamed : FnScope ["flow", "order", "names", "k", "box", "pipe"] ["flow", "order"] (defScope sNamed) := ⟨rfl, rfl, rfl, by decide +kernel, rfl, by decide +kernel, by decide +kernel⟩
theorem scRenamed : FnScope ["flow", "order", "box"] ["flow", "order"] (defScope sRenamed) := ⟨rfl, rfl, rfl, by decide +kernel, rfl, by decide +kernel, by decide +kernel⟩
theorem scAllOrd : FnScope ["many", "found", "turn", "more", "one", "box"] ["many"] (defScope sAllOrd) := ⟨rfl, rfl, rfl, by decide +kernel, rfl, by decide +kernel, by decide +kernel⟩
theorem scLeast : FnScope ["flow", "order"] ["flow"] (defScope sLeast) := ⟨rfl, rfl, rfl, by decide +kernel, rfl, by decide +kernel, by decide +kernel⟩
theorem scTaken : FnScope ["_law_row", "_law_many", "_law_found", "_law_cell"] ["_law_row", "_law_many"] (defScope sTaken) := ⟨rfl, rfl, rfl, by decide +kernel, rfl, by decide +kernel, by decide +kernel⟩
theorem scPick : FnScope ["_law_row", "_law_things"] ["_law_row", "_law_things"] (defScope sPick) := ⟨rfl, rfl, rfl, by decide +kernel, rfl, by decide +kernel, by decide +kernel⟩
theorem scAny : FnScope ["_law_row", "_law_many", "_law_pipes", "_law_turn"] ["_law_row"] (defScope sAny) := ⟨rfl, rfl, rfl, by decide +kernel, rfl, by decide +kernel, by decide +kernel⟩
theorem scGcd : FnScope ["_law_one", "_law_other"] ["_law_one", "_law_other"] (defScope sGcd) := ⟨rfl, rfl, rfl, by decide +kernel, rfl, by decide +kernel, by decide +kernel⟩
theorem scFlow : FnScope ["_law_row", "_law_most", "_law_top", "_law_many", "_law_way", "_law_pipes", "_law_k", "_law_counts", "_law_pair", "_law_turn", "_law_found", "_law_one", "_law_other", "_law_common", "_law_more"] ["_law_row", "_law_most", "_law_top"] (defScope sFlow) := ⟨rfl, rfl, rfl, by decide +kernel, rfl, by decide +kernel, by decide +kernel⟩
theorem scOrder : FnScope ["_law_row", "_law_many", "_law_left", "_law_found", "_law_turn", "_law_at"] ["_law_row", "_law_many"] (defScope sOrder) := ⟨rfl, rfl, rfl, by decide +kernel, rfl, by decide +kernel, by decide +kernel⟩
theorem scOrders : FnScope ["_law_many", "_law_found", "_law_turn", "_law_more", "_law_one", "_law_k"] ["_law_many"] (defScope sOrders) := ⟨rfl, rfl, rfl, by decide +kernel, rfl, by decide +kernel, by decide +kernel⟩
theorem scAlike : FnScope ["_law_found", "_law_due", "_law_k"] ["_law_found", "_law_due"] (defScope sAlike) := ⟨rfl, rfl, rfl, by decide +kernel, rfl, by decide +kernel, by decide +kernel⟩
theorem scLaw : FnScope ["_law_script", "_law_row", "_law_flow_here", "_law_found", "_law_order_here", "_law_pipes", "_law_pipe"] ["_law_script"] (defScope sLaw) := ⟨rfl, rfl, rfl, by decide +kernel, rfl, by decide +kernel, by decide +kernel⟩
/-- the built-in names that the text leaves alone -/
structure Bn (mg : Str → Option Value) : Prop where
  isi : mg "isinstance" = none
  int : mg "int" = none
  bool : mg "bool" = none
  tuple : mg "tuple" = none
  list : mg "list" = none
  str : mg "str" = none
  len : mg "len" = none
  enum : mg "enumerate" = none
  dict : mg "dict" = none
  sorted : mg "sorted" = none
  range : mg "range" = none
  min : mg "min" = none
  abs : mg "abs" = none
/-- a def of the text, as callers see it -/
structure Df (K : PySem.W.Frag) (mg : Str → Option Value) (x : Str) (st : Stmt) (ps : List Str) (f : Addr) (fd : FuncData) : Prop where
  F : Fun K x x st f fd
  b : Binds K fd ps []
  g : mg x = some (.ref f)
/-! ### heaps -/
theorem same_upd {H : Hp} {p : Addr} (o : HO) (h : H p = none) : Same H (upd H p o) := fun b x e => by
  rw [upd_ne (ne_of_none e h)]
  exact e
/-- all but what stands at r -/
def Sb (r : Addr) (H H' : Hp) : Prop := ∀ b o, b ≠ r → H b = some o → H' b = some o
theorem Sb.refl (r : Addr) (H : Hp) : Sb r H H := fun _ _ _ h => h
theorem Sb.trans {r : Addr} {H H1 H2 : Hp} (a : Sb r H H1) (b : Sb r H1 H2) : Sb r H H2 := fun c o n h => b c o n (a c o n h)
theorem same_sb {r : Addr} {H H' : Hp} (h : Same H H') : Sb r H H' := fun b o _ e => h b o e
theorem Sb.upd {r : Addr} {H : Hp} (o : HO) : Sb r H (upd H r o) := fun b x n e => by
  rw [upd_ne n]
  exact e
/-- what never changes: tuples, and what is known to the object -/
structure Kp (H H' : Hp) : Prop where
  tups : ∀ c items, H c = some (.tup items) → H' c = some (.tup items)
  frzs : ∀ c ob u, H c = some (.frz ob u) → H' c = some (.frz ob u)
theorem Kp.refl (H : Hp) : Kp H H := ⟨fun _ _ h => h, fun _ _ _ h => h⟩
theorem Kp.trans {H H1 H2 : Hp} (a : Kp H H1) (b : Kp H1 H2) : Kp H H2 := ⟨fun c xs h => b.tups c xs (a.tups c xs h), fun c o u h => b.frzs c o u (a.frzs c o u h)⟩
theorem same_kp {H H' : Hp} (h : Same H H') : Kp H H' := ⟨fun b xs e => h b _ e, fun b o u e => h b _ e⟩
theorem Sb.kp {r : Addr} {H H' : Hp} {xs : List V} (h : Sb r H H') (hr : H r = some (.lst xs)) : Kp H H' :=
  ⟨fun b ys e => h b _ (ne_of e hr (by intro z; cases z)) e, fun b o u e => h b _ (ne_of e hr (by intro z; cases z)) e⟩
theorem Kp.new {H : Hp} {p : Addr} (o : HO) (h : H p = none) : Kp H (upd H p o) := same_kp (same_upd o h)
theorem Kp.lst {H : Hp} {p : Addr} {xs ys : List V} (h : H p = some (.lst xs)) : Kp H (upd H p (.lst ys)) := Sb.kp (Sb.upd _) h
theorem Kp.free {H H' : Hp} {xs : List V} {p : Addr} (k : Same H H') (h : H' p = none) : H p = none := k.free h
/-! ### flows -/
def PipeAt (H : Hp) (v : V) (p : List Int) : Prop := ∃ t, v = .ref t ∧ H t = some (.tup (p.map V.int))
def PipesAt (H : Hp) (vs : List V) (ps : List (List Int)) : Prop := Paired (PipeAt H) vs ps
def FlowAt (H : Hp) (v : V) (n : Nat) (ps : List (List Int)) : Prop := ∃ t pt vs, v = .ref t ∧ H t = some (.tup [.int n, .ref pt]) ∧ H pt = some (.tup vs) ∧ PipesAt H vs ps
theorem PipeAt.kp {H H' : Hp} {v : V} {p : List Int} (k : Kp H H') (h : PipeAt H v p) : PipeAt H' v p := by
  obtain ⟨t, e, h⟩ := h
  exact ⟨t, e, k.tups _ _ h⟩
theorem PipesAt.kp {H H' : Hp} {vs : List V} {ps : List (List Int)} (k : Kp H H') (h : PipesAt H vs ps) : PipesAt H' vs ps := Paired.mapP h fun _ _ x => x.kp k
theorem FlowAt.kp {H H' : Hp} {v : V} {n : Nat} {ps : List (List Int)} (k : Kp H H') (h : FlowAt H v n ps) : FlowAt H' v n ps := by
  obtain ⟨t, pt, vs, e, h1, h2, h3⟩ := h
  exact ⟨t, pt, vs, e, k.tups _ _ h1, k.tups _ _ h2, h3.kp k⟩
theorem paired_at {α β : Type} {F : α → β → Prop} : ∀ {xs : List α} {ys : List β} {i : Nat} {x : α}, Paired F xs ys → xs[i]? = some x → ∃ y, ys[i]? = some y ∧ F x y
  | _, _, _, _, .nil, h => by simp at h
  | _, _, 0, x, .cons r _, h => by
    have e := Option.some.inj (show some _ = some x from h)
    subst e
    exact ⟨_, rfl, r⟩
  | _, _, i + 1, x, .cons _ t, h => paired_at (i := i) t h
theorem paired_len {α β : Type} {F : α → β → Prop} : ∀ {xs : List α} {ys : List β}, Paired F xs ys → xs.length = ys.length
  | _, _, .nil => rfl
  | _, _, .cons _ t => congrArg (· + 1) (paired_len t)
theorem paired_mem {α β : Type} {F : α → β → Prop} : ∀ {xs : List α} {ys : List β} {x : α}, Paired F xs ys → x ∈ xs → ∃ y, y ∈ ys ∧ F x y
  | _, _, _, .nil, h => by cases h
  | _, _, x, .cons r t, h => by
    rcases List.mem_cons.mp h with e | h
    · subst e
      exact ⟨_, List.mem_cons_self, r⟩
    · obtain ⟨y, h1, h2⟩ := paired_mem t h
      exact ⟨y, List.mem_cons_of_mem _ h1, h2⟩
theorem paired_take {α β : Type} {F : α → β → Prop} : ∀ {xs : List α} {ys : List β} (i : Nat), Paired F xs ys → Paired F (xs.take i) (ys.take i)
  | _, _, 0, _ => .nil
  | _, _, _ + 1, .nil => .nil
  | _, _, i + 1, .cons r t => .cons r (paired_take i t)
theorem paired_app {α β : Type} {F : α → β → Prop} : ∀ {xs : List α} {ys : List β} {xs' : List α} {ys' : List β}, Paired F xs ys → Paired F xs' ys' → Paired F (xs ++ xs') (ys ++ ys')
  | _, _, _, _, .nil, h => h
  | _, _, _, _, .cons r t, h => .cons r (paired_app t h)
/-- a flow that need not be looked at again -/
structure FlowOk (n : Nat) (ps : List (List Int)) : Prop where
  n1 : 1 ≤ n
  n5 : n ≤ 5
  few : ps.length ≤ 16
  ok : AllOk n ps
/-! ### the row of draws -/
/-- the script's list, which nothing here changes -/
def StL (K : PySem.W.Frag) (H : Hp) (a : Addr) (xs : List V) : Prop := (∃ o, H a = some (.frz o (.lst xs))) ∨ ∀ H', SqL K H' a xs
theorem StL.seq {K : PySem.W.Frag} {H : Hp} {a : Addr} {xs : List V} (h : StL K H a xs) : SqL K H a xs := by
  rcases h with ⟨o, h⟩ | h
  · exact .inl (.inr ⟨o, h⟩)
  · exact h H
theorem StL.kp {K : PySem.W.Frag} {H H' : Hp} {a : Addr} {xs : List V} (k : Kp H H') (h : StL K H a xs) : StL K H' a xs := by
  rcases h with ⟨o, h⟩ | h
  · exact .inl ⟨o, k.frzs _ _ _ h⟩
  · exact .inr h
def RowOk (K : PySem.W.Frag) (H : Hp) (r : Addr) : Prop := ∃ (a : Addr) (ns : List Int) (i x c : Int), H r = some (.lst [.ref a, .int i, .int x, .int c]) ∧ 0 ≤ i ∧ StL K H a (ns.map V.int)
theorem RowOk.lst {K : PySem.W.Frag} {H : Hp} {r : Addr} (h : RowOk K H r) : ∃ xs, H r = some (.lst xs) := by
  obtain ⟨a, ns, i, x, c, e, _⟩ := h
  exact ⟨_, e⟩
theorem RowOk.kp {K : PySem.W.Frag} {H H' : Hp} {r : Addr} (k : Kp H H') (hr : ∀ o, H r = some o → H' r = some o) (h : RowOk K H r) : RowOk K H' r := by
  obtain ⟨a, ns, i, x, c, e, h0, hs⟩ := h
  exact ⟨a, ns, i, x, c, hr _ e, h0, hs.kp k⟩
theorem RowOk.same {K : PySem.W.Frag} {H H' : Hp} {r : Addr} (k : Same H H') (h : RowOk K H r) : RowOk K H' r := h.kp (same_kp k) fun o e => k _ _ e
theorem RowOk.sbkp {K : PySem.W.Frag} {H H' : Hp} {r : Addr} (h : RowOk K H r) (k : Sb r H H') : Kp H H' := by
  obtain ⟨xs, e⟩ := h.lst
  exact k.kp e
/-- another list is changed -/
theorem RowOk.other {K : PySem.W.Frag} {H : Hp} {r p : Addr} {xs ys : List V} (h : RowOk K H r) (hp : H p = some (.lst xs)) (ne : p ≠ r) : RowOk K (upd H p (.lst ys)) r :=
  h.kp (Kp.lst hp) fun o e => by
    rw [upd_ne ne.symm]
    exact e
/-! ### built-in names -/
theorem bt_isi : bootBuiltins "isinstance" = some (.builtin "isinstance") := by decide +kernel
theorem bt_int : bootBuiltins "int" = some (.type "int") := by decide +kernel
theorem bt_bool : bootBuiltins "bool" = some (.type "bool") := by decide +kernel
theorem bt_tuple : bootBuiltins "tuple" = some (.type "tuple") := by decide +kernel
theorem bt_list : bootBuiltins "list" = some (.type "list") := by decide +kernel
theorem bt_str : bootBuiltins "str" = some (.type "str") := by decide +kernel
theorem bt_dict : bootBuiltins "dict" = some (.type "dict") := by decide +kernel
theorem bt_len : bootBuiltins "len" = some (.builtin "len") := by decide +kernel
theorem bt_sorted : bootBuiltins "sorted" = some (.builtin "sorted") := by decide +kernel
theorem bt_min : bootBuiltins "min" = some (.builtin "min") := by decide +kernel
theorem bt_abs : bootBuiltins "abs" = some (.builtin "abs") := by decide +kernel
theorem pty {X : Cx} {x : Str} {n : String} {pos : Pos} (hm : X.mg x = none) (hv : bootBuiltins x = some (.type n)) (hg : Gl X x := by rfl) (hn : x ≠ "__name__" := by decide) (hd : (x == ("__debug__" : Str)) = false := by decide) : PE X (.Name x pos) (tC (.ty n)) :=
  pe_bltn hg hm hv (show RelV (.ty n) (.type n) from rfl) hn hd
/-- a constant of the module, an int -/
theorem pgi {X : Cx} {x : Str} {i : Int} {t : Tok} {pos : Pos} (hm : X.mg x = some (.int i t)) (hg : Gl X x := by rfl) (hd : (x == ("__debug__" : Str)) = false := by decide) : PE X (.Name x pos) (tC (.int i)) :=
  pe_glob hg hm (show RelV (.int i) (.int i t) from ⟨t, rfl⟩) hd
/-- isinstance(e, T) -/
theorem pisi {X : Cx} {x : Str} {n : String} {e : Expr} {te : TE} {p pos pos2 : Pos} (hi : X.mg "isinstance" = none) (hm : X.mg x = none) (hv : bootBuiltins x = some (.type n)) (he : PE X e te) (hg : Gl X "isinstance" := by rfl) (hg2 : Gl X x := by rfl) (hn : x ≠ "__name__" := by decide) (hd : (x == ("__debug__" : Str)) = false := by decide)
    (hs : starEach [e, .Name x pos2] X.env = (false, eval e X.env) :: starEach [.Name x pos2] X.env := by rfl) (hpl : (backTo pos (starEach [.Name x pos2] X.env)).any (·.1) = false := by rfl) :
    PE X (.Call (.Name "isinstance" p) [e, .Name x pos2] [] pos) (tCB (rIsi X.K) (tCons te (tCons (tC (.ty n)) tNil))) :=
  pe_callB call_isi hg hi bt_isi (pa_cons he (pa_cons (pty hm hv hg2 hn hd) pa_nil) hs) (he := hs) (hpl := hpl)
theorem ky_ii {K : PySem.W.Frag} : PySem.W.kitOne K (.type "int") (.type "int") = some true := kit_ty (by decide +kernel)
theorem ky_ib {K : PySem.W.Frag} : PySem.W.kitOne K (.type "int") (.type "bool") = some false := kit_ty (by decide +kernel)
theorem ky_is {K : PySem.W.Frag} : PySem.W.kitOne K (.type "int") (.type "str") = some false := kit_ty (by decide +kernel)
theorem ky_it {K : PySem.W.Frag} : PySem.W.kitOne K (.type "int") (.type "tuple") = some false := kit_ty (by decide +kernel)
theorem ky_il {K : PySem.W.Frag} : PySem.W.kitOne K (.type "int") (.type "list") = some false := kit_ty (by decide +kernel)
theorem ky_tt {K : PySem.W.Frag} : PySem.W.kitOne K (.type "tuple") (.type "tuple") = some true := kit_ty (by decide +kernel)
theorem ky_tl {K : PySem.W.Frag} : PySem.W.kitOne K (.type "tuple") (.type "list") = some false := kit_ty (by decide +kernel)
/-- the answer of isinstance for an int, for a tuple that is tracked -/
theorem isi_int {K : PySem.W.Frag} {H : Hp} {Q : VK} {i : Int} {n : String} {b : Bool} (h : PySem.W.kitOne K (.type "int") (.type n) = some b) (q : Q (.bl b) H) : rIsi K [.int i, .ty n] H Q :=
  ⟨_, .ty n, _, _, b, rfl, .ty n, .base (.int i), h, q⟩
theorem isi_tup {K : PySem.W.Frag} {H : Hp} {Q : VK} {t : Addr} {xs : List V} {n : String} {b : Bool} (ht : H t = some (.tup xs)) (h : PySem.W.kitOne K (.type "tuple") (.type n) = some b) (q : Q (.bl b) H) : rIsi K [.ref t, .ty n] H Q :=
  ⟨_, .ty n, _, _, b, rfl, .ty n, .base (.tup ht), h, q⟩
end K61

namespace K61
open PySem PySem.Spec PyProof.Rows L2
section
variable {P : Program} {w : World} {K : PySem.W.Frag} {mg : Str → Option Value} {base : Heap} {f f1 f2 f3 : Addr} {fd fd1 fd2 fd3 : FuncData}
/-! ### is_in -/
def spIsIn : Sp := fun vs H Q _ => ∃ v lo hi : Int, vs = [.int v, .int lo, .int hi] ∧ Q (.bl (decide (lo ≤ v ∧ v ≤ hi))) H
theorem ok_is_in (F : Fun K "is_in" "is_in" sIsIn f fd) (B : Bn mg) : FnOk P w K mg base CX0 1 f fd ["value", "least", "most"] spIsIn := by
  refine F.ok scIsIn (fun vs H Q E h => ?_) (fun cdv A outer s H vs Q E hr h => ?_)
  · obtain ⟨v, lo, hi, rfl, _⟩ := h
    rfl
  · obtain ⟨v, lo, hi, rfl, q⟩ := h
    refine ⟨_, pss_one (ps_ret (pe_and (pisi B.isi B.int bt_int (pv 0))
      (pe_and (pe_not (pisi B.isi B.bool bt_bool (pv 0)))
      (pe_one (pe_chain op_le op_le (pv 1) (pv 0) (pv 2)))))), ?_⟩
    refine ⟨_, rfl, _, .ty "int", _, _, _, rfl, .ty "int", .base (.int v), ky_ii, _, rfl, iteT ?_⟩
    refine ⟨_, rfl, _, .ty "bool", _, _, _, rfl, .ty "bool", .base (.int v), ky_ib, _, rfl, _, rfl, iteT ?_⟩
    refine ⟨_, rfl, _, rfl, lo, v, rfl, rfl, _, rfl, ite2 (fun c => ?_) (fun c => ?_)⟩
    · have c1 : lo ≤ v := of_decide_eq_true c
      refine ⟨_, rfl, v, hi, rfl, rfl, ?_⟩
      have e : decide (v ≤ hi) = decide (lo ≤ v ∧ v ≤ hi) := decide_eq_decide.mpr ⟨fun z => ⟨c1, z⟩, fun z => z.2⟩
      show Q (.bl (decide (v ≤ hi))) H
      rw [e]
      exact q
    · have c1 : ¬ lo ≤ v := of_decide_eq_false (Bool.eq_false_iff.mpr c)
      have e : decide (lo ≤ v ∧ v ≤ hi) = false := decide_eq_false fun z => c1 z.1
      rw [e] at q
      exact q
/-- the module's constants -/
structure Cn (mg : Str → Option Value) : Prop where
  boxes : ∃ t, mg "MOST_BOXES" = some (.int 8 t)
  pipes : ∃ t, mg "MOST_PIPES" = some (.int 16 t)
  rate : ∃ t, mg "MOST_RATE" = some (.int 999 t)
  tokens : ∃ t, mg "MOST_TOKENS" = some (.int 99999 t)
  names : ∃ t, mg "MOST_NAMES" = some (.int 6 t)
/-! ### is_pipe -/
def spIsPipe : Sp := fun vs H Q _ => ∃ (t : Addr) (n : Nat) (p : List Int), vs = [.ref t, .int n] ∧ H t = some (.tup (p.map V.int)) ∧ PipeOk n p ∧ Q (.bl true) H
theorem ok_is_pipe (F : Fun K "is_pipe" "is_pipe" sIsPipe f fd) (B : Bn mg) (C : Cn mg) (D1 : Df K mg "is_in" sIsIn ["value", "least", "most"] f1 fd1) : FnOk P w K mg base CX0 2 f fd ["value", "boxes"] spIsPipe := by
  have G1 : FnOk P w K mg base CX0 1 f1 fd1 ["value", "least", "most"] spIsIn := ok_is_in D1.F B
  obtain ⟨tr, hrate⟩ := C.rate
  obtain ⟨tt, htok⟩ := C.tokens
  refine F.ok scIsPipe (fun vs H Q E h => ?_) (fun cdv A outer s H vs Q E hr h => ?_)
  · obtain ⟨t, n, p, rfl, _⟩ := h
    rfl
  · obtain ⟨t, n, p, rfl, ht, hp, q⟩ := h
    obtain ⟨a, b, g, e, c, rfl, ha, hb, hg, he, hc⟩ := hp
    refine ⟨_, pss_cons (ps_if (PW.pt (pw_or (pt_not (pt_val (pisi B.isi B.tuple bt_tuple (pv 0)))) (pw_or1 (pt_cmpR op_ne (pe_callB call_len_seq rfl B.len bt_len (pa_cons (pv 0) pa_nil)) pe_int (nomark _)))))
        (pss_one (ps_ret pe_bl)) pss_nil)
      (pss_cons (ps_if (PW.pt (pw_or (pt_not (pt_val (pe_call G1 hr rfl D1.g D1.F.kp D1.b .nil pass0 (pa_cons (pe_ix ix_tup (pv 0) pe_int (fun _ _ => rfl)) (pa_cons pe_int (pa_cons (pe_op op_sub (pv 1) pe_int) pa_nil))))))
          (pw_or1 (pt_not (pt_val (pe_call G1 hr rfl D1.g D1.F.kp D1.b .nil pass0 (pa_cons (pe_ix ix_tup (pv 0) pe_int (fun _ _ => rfl)) (pa_cons pe_int (pa_cons (pe_op op_sub (pv 1) pe_int) pa_nil)))))))))
        (pss_one (ps_ret pe_bl)) pss_nil)
      (pss_cons (ps_if (PW.pt (pw_or (pt_not (pt_val (pe_call G1 hr rfl D1.g D1.F.kp D1.b .nil pass0 (pa_cons (pe_ix ix_tup (pv 0) pe_int (fun _ _ => rfl)) (pa_cons pe_int (pa_cons (pgi hrate) pa_nil))))))
          (pw_or1 (pt_not (pt_val (pe_call G1 hr rfl D1.g D1.F.kp D1.b .nil pass0 (pa_cons (pe_ix ix_tup (pv 0) pe_int (fun _ _ => rfl)) (pa_cons pe_int (pa_cons (pgi hrate) pa_nil)))))))))
        (pss_one (ps_ret pe_bl)) pss_nil)
      (pss_one (ps_ret (pe_call G1 hr rfl D1.g D1.F.kp D1.b .nil pass0 (pa_cons (pe_ix ix_tup (pv 0) pe_int (fun _ _ => rfl)) (pa_cons pe_int (pa_cons (pgi htok) pa_nil)))))))), ?_⟩
    -- not isinstance(value, tuple) or len(value) != 5
    refine ⟨_, rfl, _, .ty "tuple", _, _, _, rfl, .ty "tuple", .base (.tup ht), ky_tt, _, rfl, iteF ?_⟩
    refine ⟨_, rfl, t, _, rfl, .inr (SqT.of ht), rfl, _, rfl, iteNS rfl ?_⟩
    -- the two boxes
    refine ⟨_, rfl, t, _, 0, .int a, rfl, rfl, SqT.of ht, rfl, _, rfl, n, 1, rfl, rfl, a, 0, (n : Int) - 1, rfl, _, rfl, iteNS ⟨ha.1, by omega⟩ ?_⟩
    refine ⟨_, rfl, t, _, 1, .int b, rfl, rfl, SqT.of ht, rfl, _, rfl, n, 1, rfl, rfl, b, 0, (n : Int) - 1, rfl, _, rfl, iteNS ⟨hb.1, by omega⟩ ?_⟩
    -- the two rates
    refine ⟨_, rfl, t, _, 2, .int g, rfl, rfl, SqT.of ht, rfl, g, 1, 999, rfl, _, rfl, iteNS hg ?_⟩
    refine ⟨_, rfl, t, _, 3, .int e, rfl, rfl, SqT.of ht, rfl, e, 1, 999, rfl, _, rfl, iteNS he ?_⟩
    -- the tokens
    refine ⟨_, rfl, t, _, 4, .int c, rfl, rfl, SqT.of ht, rfl, c, 0, 99999, rfl, ?_⟩
    rw [decide_eq_true hc]
    exact q
/-! ### need_flow -/
def spNeed : Sp := fun vs H Q _ => ∃ (v : V) (n : Nat) (ps : List (List Int)), vs = [v] ∧ FlowAt H v n ps ∧ FlowOk n ps ∧ ∀ H', Same H H' → Q .non H'
theorem ok_need (F : Fun K "need_flow" "need_flow" sNeed f fd) (B : Bn mg) (C : Cn mg) (D1 : Df K mg "is_in" sIsIn ["value", "least", "most"] f1 fd1) (D2 : Df K mg "is_pipe" sIsPipe ["value", "boxes"] f2 fd2) : FnOk P w K mg base CX0 3 f fd ["flow"] spNeed := by
  have G1 : FnOk P w K mg base CX0 2 f1 fd1 ["value", "least", "most"] spIsIn := (ok_is_in D1.F B).mono (by decide)
  have G2 : FnOk P w K mg base CX0 2 f2 fd2 ["value", "boxes"] spIsPipe := ok_is_pipe D2.F B C D1
  obtain ⟨t8, h8⟩ := C.boxes
  obtain ⟨t16, h16⟩ := C.pipes
  refine F.ok scNeed (fun vs H Q E h => ?_) (fun cdv A outer s H vs Q E hr h => ?_)
  · obtain ⟨v, n, ps, rfl, _⟩ := h
    rfl
  · obtain ⟨v, n, ps, rfl, ⟨t, pt, vs, rfl, ht, hpt, hps⟩, ok, q⟩ := h
    refine ⟨_, pss_cons (ps_if (PW.pt (pw_or (pt_not (pt_val (pisi B.isi B.tuple bt_tuple (pv 0))))
          (pw_or (pt_cmpR op_ne (pe_callB call_len_seq rfl B.len bt_len (pa_cons (pv 0) pa_nil)) pe_int (nomark _))
          (pw_or1 (pt_not (pt_val (pe_call G1 hr rfl D1.g D1.F.kp D1.b .nil pass0 (pa_cons (pe_ix ix_tup (pv 0) pe_int (fun _ _ => rfl)) (pa_cons pe_int (pa_cons (pgi h8) pa_nil))))))))))
        (pss_one ps_never) pss_nil)
      (pss_cons (ps_if (PW.pt (pw_or (pt_not (pt_val (pisi B.isi B.tuple bt_tuple (pe_ix ix_tup (pv 0) pe_int (fun _ _ => rfl)))))
          (pw_or1 (pt_cmpR op_gt (pe_callB call_len_seq rfl B.len bt_len (pa_cons (pe_ix ix_tup (pv 0) pe_int (fun _ _ => rfl)) pa_nil)) (pgi h16) (nomark _)))))
        (pss_one ps_never) pss_nil)
      (pss_one (ps_for PassesOwn.never rfl (pi_enumT rfl B.enum (pa_cons (pe_ix ix_tup (pv 0) pe_int (fun _ _ => rfl)) pa_nil))
          (pg_tup rfl (pgs_cons (pg_name (i := 1) scNeed.nd rfl (.inl rfl)) (pgs_cons (pg_name (i := 2) scNeed.nd rfl (.inl rfl)) pgs_nil)))
        (pss_one (ps_if (pt_not (pt_val (pe_call G2 hr rfl D2.g D2.F.kp D2.b .nil pass0 (pa_cons (pv 2) (pa_cons (pe_ix ix_tup (pv 0) pe_int (fun _ _ => rfl)) pa_nil))))) (pss_one ps_never) pss_nil))))), ?_⟩
    have hl := paired_len hps
    have n8 : (n : Int) ≤ 8 := by have := ok.n5; omega
    have n1 : (1 : Int) ≤ n := by have := ok.n1; omega
    -- not isinstance(flow, tuple) or len(flow) != 2 or not is_in(flow[0], 1, MOST_BOXES)
    refine ⟨_, rfl, _, .ty "tuple", _, _, _, rfl, .ty "tuple", .base (.tup ht), ky_tt, _, rfl, iteF ?_⟩
    refine ⟨_, rfl, t, _, rfl, .inr (SqT.of ht), rfl, _, rfl, iteNS rfl ?_⟩
    refine ⟨_, rfl, t, _, 0, .int n, rfl, rfl, SqT.of ht, rfl, n, 1, 8, rfl, _, rfl, iteNS ⟨n1, n8⟩ ?_⟩
    -- not isinstance(flow[1], tuple) or len(flow[1]) > MOST_PIPES
    refine ⟨_, rfl, t, _, 1, .ref pt, rfl, rfl, SqT.of ht, rfl, _, .ty "tuple", _, _, _, rfl, .ty "tuple", .base (.tup hpt), ky_tt, _, rfl, iteF ?_⟩
    refine ⟨_, rfl, t, _, 1, .ref pt, rfl, rfl, SqT.of ht, rfl, pt, vs, rfl, .inr (SqT.of hpt), vs.length, 16, rfl, rfl, _, rfl, ite2 (fun c => ?_) (fun _ => ?_)⟩
    · have c1 : (16 : Int) < (vs.length : Int) := of_decide_eq_true c
      have := ok.few
      exact absurd c1 (by omega)
    -- for index, pipe in enumerate(flow[1])
    refine ⟨_, rfl, t, _, 1, .ref pt, rfl, rfl, SqT.of ht, rfl, pt, vs, rfl, SqT.of hpt, for_it walk_enumT (fun i σ H' => ∃ y1 y2, σ = [some (.ref t), y1, y2] ∧ Same H H') ⟨none, none, rfl, Same.refl H⟩
      (fun i σ H' _ ⟨_, _, _, k⟩ => SqT.of (k _ _ hpt)) (fun i x σ H1 H2 hi hP hY => ?_) (fun σ H' ⟨_, _, _, k⟩ => q H' k)⟩
    obtain ⟨y1, y2, rfl, k⟩ := hP
    obtain ⟨T, x1, x2, rfl, nT, rfl, e1, e2⟩ := hY
    have e1' : x1 = .int (i : Nat) := (Option.some.inj e1).symm
    obtain ⟨p, hp1, hp2⟩ := paired_at hps e2
    obtain ⟨u, rfl, hu⟩ := hp2
    have k2 : Same H (upd H1 T (.tup [x1, .ref u])) := k.trans (same_upd _ nT)
    have okp : PipeOk n p := ok.ok p (List.mem_of_getElem? hp1)
    refine ⟨T, [x1, .ref u], rfl, SqT.of upd_same, rfl, x1, [.ref u], rfl, .ref u, [], rfl, rfl, ?_⟩
    refine ⟨_, rfl, _, rfl, t, _, 0, .int n, rfl, rfl, SqT.of (k2 _ _ ht), rfl, u, n, p, rfl, k2 _ _ hu, okp, _, rfl, iteF ?_⟩
    exact ⟨_, _, rfl, k2⟩
end
end K61

namespace K61
open PySem PySem.Spec PyProof.Rows L2
section
variable {P : Program} {w : World} {K : PySem.W.Frag} {mg : Str → Option Value} {base : Heap} {f f1 f2 f3 : Addr} {fd fd1 fd2 fd3 : FuncData}
/-! ### _law_taken -/
def spTaken (K : PySem.W.Frag) : Sp := fun vs H Q _ => ∃ (r : Addr) (m : Int), vs = [.ref r, .int m] ∧ (1 ≤ m ∧ m < 1073741824) ∧ RowOk K H r ∧ ∀ y H', (0 ≤ y ∧ y < m) → Sb r H H' → RowOk K H' r → Q (.int y) H'
theorem emod_bd (x : Int) {m : Int} (h : 1 ≤ m) : 0 ≤ x % m ∧ x % m < m := ⟨Int.emod_nonneg x (by omega), Int.emod_lt_of_pos x (by omega)⟩
theorem ok_taken (F : Fun K "_law_taken" "_law_taken" sTaken f fd) (B : Bn mg) : FnOk P w K mg base CX0 1 f fd ["_law_row", "_law_many"] (spTaken K) := by
  refine F.ok scTaken (fun vs H Q E h => ?_) (fun cdv A outer s H vs Q E hr h => ?_)
  · obtain ⟨r, m, rfl, _⟩ := h
    rfl
  · obtain ⟨r, m, rfl, hm, ⟨a, ns, i, x, c, e, hi, hs⟩, q⟩ := h
    refine ⟨_, pss_cons (ps_if (pt_cmpR op_gt (pe_ix ix_list (pv 0) pe_int (fun _ _ => rfl)) pe_int (nomark _))
        (pss_cons (ps_set (i := 2) scTaken.nd rfl (.inl rfl) (pe_op op_mod (pe_callTy call_int1 rfl B.int bt_int (pa_cons (pe_ix ix_list (pv 0) pe_int (fun _ _ => rfl)) pa_nil)) (pv 1)))
        (pss_cons (ps_asg (pe_op op_fdiv (pe_ix ix_list (pv 0) pe_int (fun _ _ => rfl)) (pv 1)) (pg_sub (pv 0) pe_int set_list))
        (pss_one (ps_ret (pv 2))))) pss_nil)
      (pss_cons (ps_asg (pe_op op_add (pe_ix ix_list (pv 0) pe_int (fun _ _ => rfl)) pe_int) (pg_sub (pv 0) pe_int set_list))
      (pss_cons (ps_if (pt_cmpR op_gt (pe_ix ix_list (pv 0) pe_int (fun _ _ => rfl)) (pe_callB call_len_seq rfl B.len bt_len (pa_cons (pe_ix ix_list (pv 0) pe_int (fun _ _ => rfl)) pa_nil)) (nomark _))
        (pss_cons (ps_asg (pe_op op_mod (pe_callTy call_int1 rfl B.int bt_int (pa_cons (pe_op op_add (pe_op op_mul (pe_ix ix_list (pv 0) pe_int (fun _ _ => rfl)) pe_int) pe_int) pa_nil)) pe_int) (pg_sub (pv 0) pe_int set_list))
        (pss_one (ps_ret (pe_op op_mod (pe_callTy call_int1 rfl B.int bt_int (pa_cons (pe_op op_fdiv (pe_ix ix_list (pv 0) pe_int (fun _ _ => rfl)) pe_int) pa_nil)) (pv 1))))) pss_nil)
      (pss_cons (ps_set (i := 3) scTaken.nd rfl (.inl rfl) (pe_ix ix_list (pe_ix ix_list (pv 0) pe_int (fun _ _ => rfl)) (pe_op op_sub (pe_ix ix_list (pv 0) pe_int (fun _ _ => rfl)) pe_int) (fun _ _ => rfl)))
      (pss_cons (ps_asg (pe_op op_mod (pe_callTy call_int1 rfl B.int bt_int (pa_cons (pe_op op_add (pe_op op_add (pe_op op_mul (pe_ix ix_list (pv 0) pe_int (fun _ _ => rfl)) pe_int) (pv 3)) pe_int) pa_nil)) pe_int) (pg_sub (pv 0) pe_int set_list))
      (pss_cons (ps_if (pt_cmpR op_ge (pv 3) (pe_op op_pow pe_int pe_int) (nomark _))
        (pss_one (ps_asg (pe_op op_fdiv (pv 3) (pv 1)) (pg_sub (pv 0) pe_int set_list))) pss_nil)
      (pss_one (ps_ret (pe_op op_mod (pe_callTy call_int1 rfl B.int bt_int (pa_cons (pv 3) pa_nil)) (pv 1))))))))), ?_⟩
    have m0 : (0 : Int) < m := by omega
    refine ⟨_, rfl, r, _, 3, .int c, rfl, rfl, SqL.of e, rfl, c, 0, rfl, rfl, _, rfl, ite2 (fun _ => ?_) (fun _ => ?_)⟩
    · refine ⟨_, rfl, r, _, 3, .int c, rfl, rfl, SqL.of e, rfl, .inl ⟨c, rfl, _, rfl, c, m, rfl, rfl, m0, ?_⟩⟩
      refine ⟨_, rfl, r, _, 3, .int c, rfl, rfl, SqL.of e, rfl, _, rfl, c, m, rfl, rfl, ⟨m0, hm.2⟩, _, rfl, r, _, 3, 3, rfl, rfl, e, rfl, ?_⟩
      refine ⟨_, rfl, q _ _ (emod_bd c hm.1) (Sb.upd _) ⟨a, ns, i, x, c / m, upd_same, hi, hs.kp (Kp.lst e)⟩⟩
    · -- _law_row[1] = _law_row[1] + 1
      refine ⟨_, rfl, r, _, 1, .int i, rfl, rfl, SqL.of e, rfl, i, 1, rfl, rfl, _, rfl, r, _, 1, 1, rfl, rfl, e, rfl, ?_⟩
      obtain ⟨H1, hH1⟩ : ∃ H1, H1 = upd H r (.lst ([V.ref a, .int i, .int x, .int c].set 1 (.int (i + 1)))) := ⟨_, rfl⟩
      have e1 : H1 r = some (.lst [.ref a, .int (i + 1), .int x, .int c]) := by rw [hH1]; exact upd_same
      have b1 : Sb r H H1 := by rw [hH1]; exact Sb.upd _
      have s1 : StL K H1 a (ns.map V.int) := hs.kp (b1.kp e)
      rw [← hH1]
      clear hH1
      refine ⟨_, rfl, r, _, 1, .int (i + 1), rfl, rfl, SqL.of e1, rfl, _, rfl, r, _, 0, .ref a, rfl, rfl, SqL.of e1, rfl, a, _, rfl, .inl s1.seq, i + 1, ((ns.map V.int).length : Nat), rfl, rfl, _, rfl, ite2 (fun _ => ?_) (fun hlt => ?_)⟩
      · refine ⟨_, rfl, r, _, 2, .int x, rfl, rfl, SqL.of e1, rfl, x, 48271, rfl, rfl, .inr ⟨by decide, by decide⟩, _, 11, rfl, rfl, .inl ⟨_, rfl, _, 2147483647, rfl, rfl, (show (0 : Int) < 2147483647 by decide), _, rfl, r, _, 2, 2, rfl, rfl, e1, rfl, ?_⟩⟩
        refine ⟨_, rfl, r, _, 2, .int ((x * 48271 + 11) % 2147483647), rfl, rfl, SqL.of upd_same, rfl, _, 7, rfl, rfl, ⟨by decide, by decide⟩, .inl ⟨_, rfl, _, rfl, _, m, rfl, rfl, m0, ?_⟩⟩
        exact q _ _ (emod_bd _ hm.1) (b1.trans (Sb.upd _)) ⟨a, ns, i + 1, _, c, upd_same, by omega, s1.kp (Kp.lst e1)⟩
      · have h1 : ¬ (((ns.map V.int).length : Nat) : Int) < i + 1 := of_decide_eq_false (Bool.eq_false_iff.mpr hlt)
        rw [List.length_map] at h1
        have hk : i.toNat < ns.length := by omega
        obtain ⟨z, hz⟩ : ∃ z, ns[i.toNat]? = some z := ⟨_, List.getElem?_eq_getElem hk⟩
        have hat : atI (ns.map V.int) (i + 1 - 1) = some (.int z) := at_of (j := i.toNat) (by omega) (by rw [List.getElem?_map, hz]; rfl)
        refine ⟨_, rfl, r, _, 0, .ref a, rfl, rfl, SqL.of e1, rfl, _, rfl, r, _, 1, .int (i + 1), rfl, rfl, SqL.of e1, rfl, i + 1, 1, rfl, rfl, a, _, i + 1 - 1, .int z, rfl, rfl, s1.seq, hat, ?_⟩
        refine ⟨_, rfl, r, _, 2, .int x, rfl, rfl, SqL.of e1, rfl, x, 48271, rfl, rfl, .inr ⟨by decide, by decide⟩, _, rfl, _, z, rfl, rfl, _, 11, rfl, rfl, .inl ⟨_, rfl, _, 2147483647, rfl, rfl, (show (0 : Int) < 2147483647 by decide), _, rfl, r, _, 2, 2, rfl, rfl, e1, rfl, ?_⟩⟩
        obtain ⟨H2, hH2⟩ : ∃ H2, H2 = upd H1 r (.lst ([V.ref a, .int (i + 1), .int x, .int c].set 2 (.int ((x * 48271 + z + 11) % 2147483647)))) := ⟨_, rfl⟩
        have e2 : H2 r = some (.lst [.ref a, .int (i + 1), .int ((x * 48271 + z + 11) % 2147483647), .int c]) := by rw [hH2]; exact upd_same
        have b2 : Sb r H H2 := by rw [hH2]; exact b1.trans (Sb.upd _)
        have s2 : StL K H2 a (ns.map V.int) := hs.kp (b2.kp e)
        rw [← hH2]
        clear hH2
        refine ⟨_, rfl, 10, 18, rfl, rfl, ⟨by decide, by decide, by decide⟩, z, _, rfl, rfl, _, rfl, ite2 (fun _ => ?_) (fun _ => ?_)⟩
        · refine ⟨_, rfl, _, rfl, z, m, rfl, rfl, ⟨m0, hm.2⟩, _, rfl, r, _, 3, 3, rfl, rfl, e2, rfl, ?_⟩
          refine ⟨_, rfl, .inl ⟨_, rfl, _, rfl, z, m, rfl, rfl, m0, ?_⟩⟩
          exact q _ _ (emod_bd _ hm.1) (b2.trans (Sb.upd _)) ⟨a, ns, i + 1, _, z / m, upd_same, by omega, s2.kp (Kp.lst e2)⟩
        · refine ⟨_, rfl, .inl ⟨_, rfl, _, rfl, z, m, rfl, rfl, m0, ?_⟩⟩
          exact q _ _ (emod_bd _ hm.1) b2 ⟨a, ns, i + 1, _, c, e2, by omega, s2⟩
/-! ### _law_pick -/
def spPick (K : PySem.W.Frag) : Sp := fun vs H Q _ => ∃ (r l : Addr) (xs : List V), vs = [.ref r, .ref l] ∧ RowOk K H r ∧ H l = some (.lst xs) ∧ l ≠ r ∧ (1 ≤ xs.length ∧ xs.length < 1000) ∧ ∀ y H', y ∈ xs → Sb r H H' → RowOk K H' r → Q y H'
theorem ok_pick (F : Fun K "_law_pick" "_law_pick" sPick f fd) (B : Bn mg) (D1 : Df K mg "_law_taken" sTaken ["_law_row", "_law_many"] f1 fd1) : FnOk P w K mg base CX0 2 f fd ["_law_row", "_law_things"] (spPick K) := by
  have G1 : FnOk P w K mg base CX0 1 f1 fd1 ["_law_row", "_law_many"] (spTaken K) := ok_taken D1.F B
  refine F.ok scPick (fun vs H Q E h => ?_) (fun cdv A outer s H vs Q E hr h => ?_)
  · obtain ⟨r, l, xs, rfl, _⟩ := h
    rfl
  · obtain ⟨r, l, xs, rfl, hrow, hl, ne, hlen, q⟩ := h
    refine ⟨_, pss_one (ps_ret (pe_ix ix_list (pv 1) (pe_call G1 hr rfl D1.g D1.F.kp D1.b .nil pass0 (pa_cons (pv 0) (pa_cons (pe_callB call_len_seq rfl B.len bt_len (pa_cons (pv 1) pa_nil)) pa_nil))) (fun _ _ => rfl))), ?_⟩
    refine ⟨_, rfl, _, rfl, _, rfl, l, xs, rfl, .inl (SqL.of hl), r, xs.length, rfl, ⟨by omega, by omega⟩, hrow, fun y H' hy sb ro => ?_⟩
    have hk : y.toNat < xs.length := by omega
    obtain ⟨v, hv⟩ : ∃ v, xs[y.toNat]? = some v := ⟨_, List.getElem?_eq_getElem hk⟩
    exact ⟨l, xs, y, v, rfl, rfl, SqL.of (sb _ _ ne hl), at_of (j := y.toNat) (by omega) hv, q v H' (List.mem_of_getElem? hv) sb ro⟩
end
end K61

namespace K61
open PySem PySem.Spec PyProof.Rows L2
section
variable {P : Program} {w : World} {K : PySem.W.Frag} {mg : Str → Option Value} {base : Heap} {f f1 f2 f3 : Addr} {fd fd1 fd2 fd3 : FuncData}
/-! ### _law_any -/
def spAny (K : PySem.W.Frag) : Sp := fun vs H Q _ => ∃ (r : Addr), vs = [.ref r] ∧ RowOk K H r ∧ ∀ v H' n ps, Sb r H H' → RowOk K H' r → FlowAt H' v n ps → FlowOk n ps → Q v H'
theorem small_le {n : Nat} (h : n ≤ 1000) : n ≤ sizeLine := Nat.le_of_lt (small1000 h)
theorem ok_any (F : Fun K "_law_any" "_law_any" sAny f fd) (B : Bn mg) (D1 : Df K mg "_law_taken" sTaken ["_law_row", "_law_many"] f1 fd1) : FnOk P w K mg base CX0 2 f fd ["_law_row"] (spAny K) := by
  have G1 : FnOk P w K mg base CX0 1 f1 fd1 ["_law_row", "_law_many"] (spTaken K) := ok_taken D1.F B
  refine F.ok scAny (fun vs H Q E h => ?_) (fun cdv A outer s H vs Q E hr h => ?_)
  · obtain ⟨r, rfl, _⟩ := h
    rfl
  · obtain ⟨r, rfl, hrow, q⟩ := h
    refine ⟨_, pss_cons (ps_set (i := 1) scAny.nd rfl (.inl rfl) (pe_op op_add pe_int (pe_call G1 hr rfl D1.g D1.F.kp D1.b .nil pass0 (pa_cons (pv 0) (pa_cons pe_int pa_nil)))))
      (pss_cons (ps_set (i := 2) scAny.nd rfl (.inl rfl) (pe_lst pa_nil))
      (pss_cons (ps_for PassesOwn.never rfl (pi_range1 rfl B.range (pa_cons (pe_call G1 hr rfl D1.g D1.F.kp D1.b .nil pass0 (pa_cons (pv 0) (pa_cons pe_int pa_nil))) pa_nil)) (pg_name (i := 3) scAny.nd rfl (.inl rfl))
        (pss_one (ps_expr (pe_bm PySem.F.plainAttrs_list PySem.F.slot_list_append PySem.F.type_list_append mt_append (pv 2) (pa_cons (pe_tup
          (pa_cons (pe_call G1 hr rfl D1.g D1.F.kp D1.b .nil pass0 (pa_cons (pv 0) (pa_cons (pv 1) pa_nil)))
          (pa_cons (pe_call G1 hr rfl D1.g D1.F.kp D1.b .nil pass0 (pa_cons (pv 0) (pa_cons (pv 1) pa_nil)))
          (pa_cons (pe_op op_add pe_int (pe_call G1 hr rfl D1.g D1.F.kp D1.b .nil pass0 (pa_cons (pv 0) (pa_cons pe_int pa_nil))))
          (pa_cons (pe_op op_add pe_int (pe_call G1 hr rfl D1.g D1.F.kp D1.b .nil pass0 (pa_cons (pv 0) (pa_cons pe_int pa_nil))))
          (pa_cons (pe_call G1 hr rfl D1.g D1.F.kp D1.b .nil pass0 (pa_cons (pv 0) (pa_cons pe_int pa_nil))) pa_nil)))))) pa_nil)))))
      (pss_one (ps_ret (pe_tup (pa_cons (pv 1) (pa_cons (pe_callTy call_tuple_of rfl B.tuple bt_tuple (pa_cons (pv 2) pa_nil)) pa_nil))))))), ?_⟩
    -- _law_many = 1 + _law_taken(_law_row, 5)
    refine ⟨_, rfl, r, 5, rfl, ⟨by decide, by decide⟩, hrow, fun y0 H1 hy0 sb1 ro1 => ⟨1, y0, rfl, rfl, ?_⟩⟩
    obtain ⟨n, hn⟩ : ∃ n : Nat, (1 : Int) + y0 = (n : Int) := ⟨(1 + y0).toNat, by omega⟩
    rw [show (fun i j : Int => V.int (i + j)) 1 y0 = V.int n from congrArg V.int hn]
    have n1 : 1 ≤ n := by omega
    have n5 : n ≤ 5 := by omega
    -- _law_pipes = []
    refine ⟨Nat.zero_le _, fun p np => ?_⟩
    obtain ⟨xr, er⟩ := ro1.lst
    have npr : p ≠ r := (ne_of_none er np).symm
    have sm2 : Same H1 (upd H1 p (.lst [])) := same_upd _ np
    have ro2 : RowOk K (upd H1 p (.lst [])) r := ro1.same sm2
    -- range(_law_taken(_law_row, 7))
    refine ⟨_, rfl, r, 7, rfl, ⟨by decide, by decide⟩, ro2, fun y1 H3 hy1 sb3 ro3 => ⟨y1, rfl, by omega, by omega, ?_⟩⟩
    have e3 : H3 p = some (.lst []) := sb3 _ _ npr upd_same
    have sbH : Sb r H H3 := sb1.trans ((same_sb sm2).trans sb3)
    refine for_range (lo := 0) (n := y1.toNat) (fun i σ H' => ∃ vs ps y3, σ = [some (.ref r), some (.int n), some (.ref p), y3] ∧ Sb r H H' ∧ RowOk K H' r ∧ H' p = some (.lst vs) ∧ PipesAt H' vs ps ∧ ps.length = i ∧ AllOk n ps)
      ⟨[], [], none, rfl, sbH, ro3, e3, .nil, rfl, fun _ h => by cases h⟩ ?_ ?_
    · rintro i σ H4 hi ⟨vs, ps, y3, rfl, sb4, ro4, e4, hps, hl, hok⟩
      have hvl := paired_len hps
      refine ⟨.ref p, rfl, .inl ⟨rfl, _, SqL.of e4⟩, ?_⟩
      refine ⟨_, rfl, _, rfl, r, n, rfl, ⟨by omega, by omega⟩, ro4, fun a Ha ha sba roa => ?_⟩
      refine ⟨_, rfl, _, rfl, r, n, rfl, ⟨by omega, by omega⟩, roa, fun b Hb hb sbb rob => ?_⟩
      refine ⟨_, rfl, r, 3, rfl, ⟨by decide, by decide⟩, rob, fun g Hg hg sbg rog => ⟨1, g, rfl, rfl, ?_⟩⟩
      refine ⟨_, rfl, r, 3, rfl, ⟨by decide, by decide⟩, rog, fun e He he sbe roe => ⟨1, e, rfl, rfl, ?_⟩⟩
      refine ⟨_, rfl, r, 6, rfl, ⟨by decide, by decide⟩, roe, fun c Hc hc sbc roc => ?_⟩
      have sbx : Sb r H4 Hc := sba.trans (sbb.trans (sbg.trans (sbe.trans sbc)))
      have ec : Hc p = some (.lst vs) := sbx _ _ npr e4
      refine ⟨by show 5 ≤ sizeLine; decide, fun T nT => ?_⟩
      have smT : Same Hc (upd Hc T (.tup [.int a, .int b, .int (1 + g), .int (1 + e), .int c])) := same_upd _ nT
      have nTp : p ≠ T := ne_of_none ec nT
      have ecT := smT _ _ ec
      have roT := roc.same smT
      refine ⟨p, vs, _, rfl, rfl, ecT, small1000 (by omega), ?_⟩
      have kpT : Kp H4 (upd Hc T (.tup [.int a, .int b, .int (1 + g), .int (1 + e), .int c])) := (ro4.sbkp sbx).trans (same_kp smT)
      refine ⟨vs ++ [.ref T], ps ++ [[a, b, 1 + g, 1 + e, c]], _, rfl, ?_, roT.other ecT npr, upd_same, ?_, by rw [List.length_append, hl]; rfl, ?_⟩
      · intro b' o nb eb
        have h1 := smT _ _ (sbx _ _ nb (sb4 _ _ nb eb))
        have nbp : b' ≠ p := by
          intro z
          subst z
          have h0 := sb1 _ _ nb eb
          rw [np] at h0
          cases h0
        rw [upd_ne nbp]
        exact h1
      · refine paired_app ((hps.kp kpT).kp (Kp.lst ecT)) (.cons ⟨T, rfl, ?_⟩ .nil)
        rw [upd_ne nTp.symm, upd_same]
        rfl
      · intro x hx
        rcases List.mem_append.mp hx with h | h
        · exact hok x h
        · have ex : x = [a, b, 1 + g, 1 + e, c] := by simpa using h
          subst ex
          exact ⟨a, b, 1 + g, 1 + e, c, rfl, by omega, by omega, by omega, by omega, by omega⟩
    · rintro σ H4 ⟨vs, ps, y3, rfl, sb4, ro4, e4, hps, hl, hok⟩
      refine ⟨_, rfl, _, rfl, p, vs, rfl, .inl ⟨SqL.of e4, fun T nT => ?_⟩⟩
      have sT : Same H4 (upd H4 T (.tup vs)) := same_upd _ nT
      refine ⟨by show 2 ≤ sizeLine; decide, fun T2 nT2 => ?_⟩
      have sT2 : Same (upd H4 T (.tup vs)) (upd (upd H4 T (.tup vs)) T2 (.tup [.int n, .ref T])) := same_upd _ nT2
      have sA := sT.trans sT2
      refine q _ _ n ps (sb4.trans (same_sb sA)) (ro4.same sA) ⟨T2, T, vs, rfl, upd_same, sT2 _ _ upd_same, hps.kp (same_kp sA)⟩ ⟨n1, n5, by omega, hok⟩
/-! ### _law_gcd -/
def spGcd : Sp := fun vs H Q _ => ∃ a b : Int, vs = [.int a, .int b] ∧ 1 ≤ a ∧ 1 ≤ b ∧ ∀ g : Int, 1 ≤ g → g ≤ a → g ≤ b → Q (.int g) H
theorem dvd_back {d x y : Int} (h1 : d ∣ y) (h2 : d ∣ x % y) : d ∣ x := by
  have e := Int.mul_ediv_add_emod x y
  rw [← e]
  exact Int.dvd_add (Int.dvd_mul_of_dvd_left h1) h2
theorem ok_gcd (F : Fun K "_law_gcd" "_law_gcd" sGcd f fd) (B : Bn mg) : FnOk P w K mg base CX0 1 f fd ["_law_one", "_law_other"] spGcd := by
  refine F.ok scGcd (fun vs H Q E h => ?_) (fun cdv A outer s H vs Q E hr h => ?_)
  · obtain ⟨a, b, rfl, _⟩ := h
    rfl
  · obtain ⟨a, b, rfl, ha, hb, q⟩ := h
    refine ⟨_, pss_cons (ps_par (i := 0) (j := 1) rfl scGcd.nd rfl rfl (by decide) rfl rfl (pa_cons (pe_callB call_abs rfl B.abs bt_abs (pa_cons (pv 0) pa_nil)) (pa_cons (pe_callB call_abs rfl B.abs bt_abs (pa_cons (pv 1) pa_nil)) pa_nil)) (by rfl))
      (pss_cons (ps_while PassesOwn.never (pt_cmpR op_ne (pv 1) pe_int (nomark _))
        (pss_one (ps_par (i := 0) (j := 1) rfl scGcd.nd rfl rfl (by decide) rfl rfl (pa_cons (pv 1) (pa_cons (pe_op op_mod (pe_callTy call_int1 rfl B.int bt_int (pa_cons (pv 0) pa_nil)) (pv 1)) pa_nil)) (by rfl))))
      (pss_one (ps_ret (pv 0)))), ?_⟩
    refine ⟨_, rfl, a, rfl, _, rfl, b, rfl, _, _, rfl, ?_⟩
    have ea : (if a < 0 then -a else a) = a := if_neg (by omega)
    have eb : (if b < 0 then -b else b) = b := if_neg (by omega)
    rw [ea, eb]
    refine ⟨fun m σ H' => ∃ x y : Int, σ = [some (.int x), some (.int y)] ∧ H' = H ∧ m = y.toNat ∧ 1 ≤ x ∧ 0 ≤ y ∧ ∀ d : Int, d ∣ x → d ∣ y → d ∣ a ∧ d ∣ b,
      ⟨b.toNat, a, b, rfl, rfl, rfl, ha, by omega, fun d h1 h2 => ⟨h1, h2⟩⟩, ?_⟩
    rintro m σ H' ⟨x, y, rfl, rfl, rfl, hx, hy, hd⟩
    refine ⟨_, rfl, rfl, _, rfl, ite2 (fun c => ?_) (fun c => ?_)⟩
    · have c1 : y ≠ 0 := fun z => by
        subst z
        exact absurd c (by decide)
      have y0 : (0 : Int) < y := by omega
      have hm := emod_bd x (m := y) (by omega)
      refine ⟨fun σ' H'' => σ' = [some (.int y), some (.int (x % y))] ∧ H'' = H', fun σ' H'' ⟨e1, e2⟩ => ?_, ?_⟩
      · exact ⟨(x % y).toNat, by omega, y, x % y, e1, e2, rfl, by omega, hm.1, fun d h1 h2 => hd d (dvd_back h1 h2) h1⟩
      · exact ⟨_, rfl, _, rfl, .inl ⟨x, rfl, _, rfl, x, y, rfl, rfl, y0, _, _, rfl, rfl, rfl⟩⟩
    · have c1 : y = 0 := by
        by_cases z : y = 0
        · exact z
        · exfalso
          apply c
          have e : decide (V.int y = V.int 0) = false := decide_eq_false fun h => z (V.int.inj h)
          rw [e]
          rfl
      subst c1
      obtain ⟨h1, h2⟩ := hd x (Int.dvd_refl x) (Int.dvd_zero x)
      exact ⟨_, rfl, q x hx (Int.le_of_dvd (by omega) h1) (Int.le_of_dvd (by omega) h2)⟩
end
end K61

namespace K61
open PySem PySem.Spec PyProof.Rows L2
section
variable {P : Program} {w : World} {K : PySem.W.Frag} {mg : Str → Option Value} {base : Heap} {f f1 f2 f3 : Addr} {fd fd1 fd2 fd3 : FuncData}
/-! ### _law_flow -/
def spFlow (K : PySem.W.Frag) : Sp := fun vs H Q _ => ∃ (r : Addr), vs = [.ref r, .int 4, .int 4] ∧ RowOk K H r ∧ ∀ v H' n ps, Sb r H H' → RowOk K H' r → FlowAt H' v n ps → FlowOk n ps → n ≤ 4 → Q v H'
def PairOk (n : Nat) (p : List Int) : Prop := ∃ a b : Int, p = [a, b] ∧ (0 ≤ a ∧ a < n) ∧ (0 ≤ b ∧ b < n)
/-- what holds while the pipes are drawn: pA the pairs' list, cA the counts' -/
structure FI (K : PySem.W.Frag) (H0 H : Hp) (r pA cA : Addr) (cs : List Int) (vs : List V) (ps : List (List Int)) : Prop where
  sb : Sb r H0 H
  row : RowOk K H r
  c : H cA = some (.lst (cs.map V.int))
  p : H pA = some (.lst vs)
  ps : PipesAt H vs ps
theorem FI.step {H0 H H' : Hp} {r pA cA : Addr} {cs : List Int} {vs : List V} {ps : List (List Int)} (I : FI K H0 H r pA cA cs vs ps) (nc : cA ≠ r) (np : pA ≠ r) (s : Sb r H H') (ro : RowOk K H' r) : FI K H0 H' r pA cA cs vs ps :=
  ⟨I.sb.trans s, ro, s _ _ nc I.c, s _ _ np I.p, I.ps.kp (I.row.sbkp s)⟩
theorem FI.same {H0 H H' : Hp} {r pA cA : Addr} {cs : List Int} {vs : List V} {ps : List (List Int)} (I : FI K H0 H r pA cA cs vs ps) (s : Same H H') : FI K H0 H' r pA cA cs vs ps :=
  ⟨I.sb.trans (same_sb s), I.row.same s, s _ _ I.c, s _ _ I.p, I.ps.kp (same_kp s)⟩
/-- a tracked tuple is put behind the pairs -/
theorem FI.app {H0 H : Hp} {r pA cA T : Addr} {cs : List Int} {vs : List V} {ps : List (List Int)} {p : List Int} (I : FI K H0 H r pA cA cs vs ps) (n0 : H0 pA = none) (np : pA ≠ r) (npc : pA ≠ cA) (hT : H T = some (.tup (p.map V.int))) :
    FI K H0 (upd H pA (.lst (vs ++ [.ref T]))) r pA cA cs (vs ++ [.ref T]) (ps ++ [p]) := by
  have nT : T ≠ pA := ne_of hT I.p (by intro z; cases z)
  refine ⟨fun b o nb e => ?_, I.row.other I.p np, ?_, upd_same, paired_app (I.ps.kp (Kp.lst I.p)) (.cons ⟨T, rfl, ?_⟩ .nil)⟩
  · have nbp : b ≠ pA := fun z => by
      subst z
      rw [n0] at e
      cases e
    rw [upd_ne nbp]
    exact I.sb _ _ nb e
  · rw [upd_ne npc.symm]
    exact I.c
  · rw [upd_ne nT]
    exact hT
theorem div_bd {x g : Int} (h1 : 1 ≤ g) (h2 : g ≤ x) (h3 : x ≤ 8) : 1 ≤ x / g ∧ x / g ≤ 999 := by
  refine ⟨Int.le_ediv_of_mul_le (by omega) (by omega), ?_⟩
  have := Int.ediv_le_self (a := x) g (by omega)
  omega
theorem ok_flow (F : Fun K "_law_flow" "_law_flow" sFlow f fd) (B : Bn mg) (D1 : Df K mg "_law_taken" sTaken ["_law_row", "_law_many"] f1 fd1) (D2 : Df K mg "_law_pick" sPick ["_law_row", "_law_things"] f2 fd2)
    (D3 : Df K mg "_law_gcd" sGcd ["_law_one", "_law_other"] f3 fd3) : FnOk P w K mg base CX0 3 f fd ["_law_row", "_law_most", "_law_top"] (spFlow K) := by
  have G1 : FnOk P w K mg base CX0 2 f1 fd1 ["_law_row", "_law_many"] (spTaken K) := (ok_taken D1.F B).mono (by decide)
  have G2 : FnOk P w K mg base CX0 2 f2 fd2 ["_law_row", "_law_things"] (spPick K) := ok_pick D2.F B D1
  have G3 : FnOk P w K mg base CX0 2 f3 fd3 ["_law_one", "_law_other"] spGcd := (ok_gcd D3.F B).mono (by decide)
  refine F.ok scFlow (fun vs H Q E h => ?_) (fun cdv A outer s H vs Q E hr h => ?_)
  · obtain ⟨r, rfl, _⟩ := h
    rfl
  · obtain ⟨r, rfl, hrow, q⟩ := h
    refine ⟨_, pss_cons (ps_par3 (i := 3) (j := 4) (l := 5) rfl scFlow.nd rfl rfl rfl (by decide) (by decide) (by decide) rfl rfl rfl
        (pa_cons (pe_op op_add pe_int (pe_call G1 hr rfl D1.g D1.F.kp D1.b .nil pass0 (pa_cons (pv 0) (pa_cons (pv 1) pa_nil))))
        (pa_cons (pe_call G1 hr rfl D1.g D1.F.kp D1.b .nil pass0 (pa_cons (pv 0) (pa_cons pe_int pa_nil))) (pa_cons (pe_lst pa_nil) pa_nil))) (by rfl))
      (pss_cons (ps_setLc (i := 7) (own := [("_law_k", 6)]) (g := gName 6) (tt := tYes) (by rfl) scFlow.nd rfl rfl (sw_true rfl rfl rfl (by decide +kernel))
          (pi_range1 rfl B.range (pa_cons (pv 3) pa_nil)) (blkOk_by (N := ["_law_row", "_law_most", "_law_top", "_law_many", "_law_way", "_law_pipes", "_law_k", "_law_counts", "_law_pair", "_law_turn", "_law_found", "_law_one", "_law_other", "_law_common", "_law_more"]) (sc := defScope sFlow) (by decide +kernel))
          (fun _ _ _ _ _ => pg_name (i := 6) scFlow.nd rfl (Or.inl rfl)) (fun _ _ _ _ _ => pts_nil)
          (fun _ _ _ _ _ => pe_op op_add pe_int (pe_call G1 hr rfl D1.g D1.F.kp D1.b .nil pass0 (pa_cons (pv 0) (pa_cons
            (pe_call G2 hr rfl D2.g D2.F.kp D2.b .nil pass0 (pa_cons (pv 0) (pa_cons (pe_lst (pa_cons pe_int (pa_cons pe_int (pa_cons pe_int pa_nil)))) pa_nil))) pa_nil)))))
      (pss_cons (ps_for PassesOwn.never rfl (pi_range2 rfl B.range (pa_cons pe_int (pa_cons (pv 3) pa_nil))) (pg_name (i := 6) scFlow.nd rfl (.inl rfl))
        (pss_one (ps_if (pt_cmpR op_gt (pe_call G1 hr rfl D1.g D1.F.kp D1.b .nil pass0 (pa_cons (pv 0) (pa_cons pe_int pa_nil))) pe_int (nomark _))
          (pss_cons (ps_set (i := 8) scFlow.nd rfl (.inl rfl) (pe_tup (pa_cons (pe_ifExp (pt_cmpR op_eq (pv 4) pe_int (nomark _)) (pe_op op_sub (pv 6) pe_int)
              (pe_call G1 hr rfl D1.g D1.F.kp D1.b .nil pass0 (pa_cons (pv 0) (pa_cons (pv 6) pa_nil)))) (pa_cons (pv 6) pa_nil))))
          (pss_one (ps_expr (pe_bm PySem.F.plainAttrs_list PySem.F.slot_list_append PySem.F.type_list_append mt_append (pv 5) (pa_cons
            (pe_ifExp (pt_cmpR op_gt (pe_call G1 hr rfl D1.g D1.F.kp D1.b .nil pass0 (pa_cons (pv 0) (pa_cons pe_int pa_nil))) pe_int (nomark _)) (pv 8)
              (pe_tup (pa_cons (pe_ix ix_tup (pv 8) pe_int (fun _ _ => rfl)) (pa_cons (pe_ix ix_tup (pv 8) pe_int (fun _ _ => rfl)) pa_nil)))) pa_nil))))) pss_nil)))
      (pss_cons (ps_for PassesOwn.never rfl (pi_range1 rfl B.range (pa_cons (pe_ifExp (pt_cmpR op_gt (pv 4) pe_int (nomark _)) (pe_call G1 hr rfl D1.g D1.F.kp D1.b .nil pass0 (pa_cons (pv 0) (pa_cons pe_int pa_nil))) pe_int) pa_nil)) (pg_name (i := 9) scFlow.nd rfl (.inl rfl))
        (pss_one (ps_expr (pe_bm PySem.F.plainAttrs_list PySem.F.slot_list_append PySem.F.type_list_append mt_append (pv 5) (pa_cons (pe_tup
          (pa_cons (pe_call G1 hr rfl D1.g D1.F.kp D1.b .nil pass0 (pa_cons (pv 0) (pa_cons (pv 3) pa_nil)))
          (pa_cons (pe_call G1 hr rfl D1.g D1.F.kp D1.b .nil pass0 (pa_cons (pv 0) (pa_cons (pv 3) pa_nil))) pa_nil))) pa_nil)))))
      (pss_cons (ps_set (i := 10) scFlow.nd rfl (.inl rfl) (pe_lst pa_nil))
      (pss_cons (ps_for PassesOwn.never rfl (pi_list (pv 5)) (pg_tup rfl (pgs_cons (pg_name (i := 11) scFlow.nd rfl (.inl rfl)) (pgs_cons (pg_name (i := 12) scFlow.nd rfl (.inl rfl)) pgs_nil)))
        (pss_cons (ps_set (i := 13) scFlow.nd rfl (.inl rfl) (pe_call G3 hr rfl D3.g D3.F.kp D3.b .nil pass0 (pa_cons (pe_ix ix_list (pv 7) (pv 11) (fun _ _ => rfl)) (pa_cons (pe_ix ix_list (pv 7) (pv 12) (fun _ _ => rfl)) pa_nil))))
        (pss_cons (ps_set (i := 14) scFlow.nd rfl (.inl rfl) (pe_call G2 hr rfl D2.g D2.F.kp D2.b .nil pass0 (pa_cons (pv 0) (pa_cons (pe_lst (pa_cons pe_int (pa_cons pe_int (pa_cons pe_int pa_nil)))) pa_nil))))
        (pss_one (ps_expr (pe_bm PySem.F.plainAttrs_list PySem.F.slot_list_append PySem.F.type_list_append mt_append (pv 10) (pa_cons (pe_tup
          (pa_cons (pv 11) (pa_cons (pv 12)
          (pa_cons (pe_op op_fdiv (pe_op op_mul (pv 14) (pe_ix ix_list (pv 7) (pv 12) (fun _ _ => rfl))) (pv 13))
          (pa_cons (pe_op op_fdiv (pe_op op_mul (pv 14) (pe_ix ix_list (pv 7) (pv 11) (fun _ _ => rfl))) (pv 13))
          (pa_cons (pe_call G1 hr rfl D1.g D1.F.kp D1.b .nil pass0 (pa_cons (pv 0) (pa_cons (pe_op op_add (pv 2) pe_int) pa_nil))) pa_nil)))))) pa_nil)))))))
      (pss_one (ps_ret (pe_tup (pa_cons (pv 3) (pa_cons (pe_callTy call_tuple_of rfl B.tuple bt_tuple (pa_cons (pv 10) pa_nil)) pa_nil)))))))))), ?_⟩
    -- _law_many, _law_way, _law_pipes
    refine ⟨_, rfl, _, rfl, r, 4, rfl, ⟨by decide, by decide⟩, hrow, fun y0 H1 hy0 sb1 ro1 => ⟨1, y0, rfl, rfl, ?_⟩⟩
    obtain ⟨n, hn⟩ : ∃ n : Nat, (1 : Int) + y0 = (n : Int) := ⟨(1 + y0).toNat, by omega⟩
    rw [show (fun i j : Int => V.int (i + j)) 1 y0 = V.int n from congrArg V.int hn]
    have n1 : 1 ≤ n := by omega
    have n4 : n ≤ 4 := by omega
    refine ⟨_, rfl, r, 5, rfl, ⟨by decide, by decide⟩, ro1, fun wy H2 hwy sb2 ro2 => ?_⟩
    refine ⟨Nat.zero_le _, fun pA npA => ⟨_, _, _, rfl, ?_⟩⟩
    obtain ⟨xr2, er2⟩ := ro2.lst
    have npr : pA ≠ r := (ne_of_none er2 npA).symm
    have sm3 := same_upd (.lst []) npA
    have p0 : H pA = none := by
      cases z : H pA with
      | none => rfl
      | some o =>
        have := sb2 _ _ npr (sb1 _ _ npr z)
        rw [npA] at this
        cases this
    -- _law_counts
    refine ⟨_, rfl, n, rfl, by omega, by omega, fun cA ncA => ?_⟩
    have npc : pA ≠ cA := fun z => by
      subst z
      rw [upd_same] at ncA
      cases ncA
    have sm4 := same_upd (.lst []) ncA
    obtain ⟨xr3, er3⟩ := (ro2.same sm3).lst
    have ncr : cA ≠ r := (ne_of_none er3 ncA).symm
    have c0 : H cA = none := by
      cases z : H cA with
      | none => rfl
      | some o =>
        have := sm3 _ _ (sb2 _ _ ncr (sb1 _ _ ncr z))
        rw [ncA] at this
        cases this
    refine lc_range (lo := 0) (n := (n : Int).toNat) (fun i H' => ∃ cs : List Int, Sb r H H' ∧ RowOk K H' r ∧ H' cA = some (.lst (cs.map V.int)) ∧ H' pA = some (.lst []) ∧ cs.length = i ∧ ∀ c ∈ cs, 1 ≤ c ∧ c ≤ 4)
      ⟨[], sb1.trans (sb2.trans ((same_sb sm3).trans (same_sb sm4))), (ro2.same sm3).same sm4, upd_same, sm4 _ _ upd_same, rfl, fun _ h => by cases h⟩ ?_ ?_
    · rintro i H4 hi ⟨cs, sb4, ro4, e4, ep4, hl4, hc4⟩
      refine ⟨rfl, _, rfl, _, rfl, by show 3 ≤ sizeLine; decide, fun l nl => ?_⟩
      have sl := same_upd (.lst [.int 1, .int 3, .int 4]) nl
      obtain ⟨xr4, er4⟩ := ro4.lst
      have nlr : l ≠ r := (ne_of_none er4 nl).symm
      refine ⟨r, l, [.int 1, .int 3, .int 4], rfl, ro4.same sl, upd_same, nlr, ⟨by decide, by decide⟩, fun y H5 my sb5 ro5 => ?_⟩
      obtain ⟨m, rfl, hm⟩ : ∃ m : Int, y = .int m ∧ (m = 1 ∨ m = 3 ∨ m = 4) := by
        have my' : y = .int 1 ∨ y = .int 3 ∨ y = .int 4 := by simpa using my
        rcases my' with z | z | z
        · exact ⟨1, z, .inl rfl⟩
        · exact ⟨3, z, .inr (.inl rfl)⟩
        · exact ⟨4, z, .inr (.inr rfl)⟩
      refine ⟨r, m, rfl, ⟨by omega, by omega⟩, ro5, fun z H6 hz sb6 ro6 => ⟨1, z, rfl, rfl, cs.map V.int, ?_⟩⟩
      have e6 := sb6 _ _ ncr (sb5 _ _ ncr (sl _ _ e4))
      have ep6 := sb6 _ _ npr (sb5 _ _ npr (sl _ _ ep4))
      refine ⟨e6, small1000 (by rw [List.length_map]; omega), cs ++ [1 + z], fun b o nb eb => ?_, ro6.other e6 ncr, ?_, ?_, by rw [List.length_append, hl4]; rfl, ?_⟩
      · have nbc : b ≠ cA := fun z => by
          subst z
          rw [c0] at eb
          cases eb
        rw [upd_ne nbc]
        exact sb6 _ _ nb (sb5 _ _ nb (sl _ _ (sb4 _ _ nb eb)))
      · rw [upd_same, List.map_append]
        rfl
      · rw [upd_ne npc]
        exact ep6
      · intro c hc
        rcases List.mem_append.mp hc with h | h
        · exact hc4 c h
        · have ec : c = 1 + z := by simpa using h
          omega
    rintro H3 ⟨cs, sb3, ro3, e3, ep3, hl3, hc3⟩
    have cget : ∀ a : Int, (0 ≤ a ∧ a < n) → ∃ c : Int, atI (cs.map V.int) a = some (.int c) ∧ 1 ≤ c ∧ c ≤ 4 := fun a ha => by
      have hk : a.toNat < cs.length := by omega
      refine ⟨cs[a.toNat], at_of (j := a.toNat) (by omega) (by rw [List.getElem?_map, List.getElem?_eq_getElem hk]; rfl), hc3 _ (List.getElem_mem hk)⟩
    have okapp : ∀ {ps : List (List Int)} {p : List Int}, (∀ x ∈ ps, PairOk n x) → PairOk n p → ∀ x ∈ ps ++ [p], PairOk n x := fun {ps p} h1 h2 x hx => by
      rcases List.mem_append.mp hx with h | h
      · exact h1 x h
      · have ex : x = p := by simpa using h
        rw [ex]
        exact h2
    have J3 : FI K H H3 r pA cA cs [] [] := ⟨sb3, ro3, e3, ep3, .nil⟩
    -- for _law_k in range(1, _law_many)
    refine ⟨_, rfl, 1, n, rfl, ⟨by omega, by omega, by omega, by omega⟩, for_range (lo := 1) (n := ((n : Int) - 1).toNat) (fun i σ H' => ∃ vs ps y6 y8, σ = [some (.ref r), some (.int 4), some (.int 4), some (.int n), some (.int wy), some (.ref pA), y6, some (.ref cA), y8, none, none, none, none, none, none] ∧ FI K H H' r pA cA cs vs ps ∧ ps.length ≤ i ∧ ∀ p ∈ ps, PairOk n p)
      ⟨[], [], none, none, rfl, J3, Nat.le_refl _, fun _ h => by cases h⟩ ?_ ?_⟩
    · rintro i σ H4 hi ⟨vs, ps, y6, y8, rfl, J, hl, hok⟩
      have hvl := paired_len J.ps
      refine ⟨_, rfl, r, 8, rfl, ⟨by decide, by decide⟩, J.row, fun y5 H5 hy5 sb5 ro5 => ⟨y5, 0, rfl, rfl, _, rfl, ite2 (fun _ => ?_) (fun _ => ?_)⟩⟩
      · have J5 := J.step ncr npr sb5 ro5
        refine ⟨_, rfl, rfl, _, rfl, ite2 (fun _ => ?_) (fun _ => ?_)⟩
        · refine ⟨_, rfl, 1 + (i : Int), 1, rfl, rfl, ?_⟩
          obtain ⟨a, hae⟩ : ∃ a : Int, 1 + (i : Int) - 1 = a := ⟨_, rfl⟩
          rw [show (fun i j : Int => V.int (i - j)) (1 + (i : Int)) 1 = V.int a from congrArg V.int hae]
          have ha : 0 ≤ a ∧ a < 1 + (i : Int) := by omega
          refine ⟨_, rfl, by show 2 ≤ sizeLine; decide, fun T nT => ?_⟩
          have J7 := J5.same (same_upd (.tup [.int a, .int (1 + (i : Int))]) nT)
          have hT7 : (upd H5 T (.tup [.int a, .int (1 + (i : Int))])) T = some (.tup [.int a, .int (1 + (i : Int))]) := upd_same
          refine ⟨.ref pA, rfl, .inl ⟨rfl, _, SqL.of J7.p⟩, ?_⟩
          refine ⟨_, rfl, r, 3, rfl, ⟨by decide, by decide⟩, J7.row, fun y8 H8 hy8 sb8 ro8 => ⟨y8, 0, rfl, rfl, _, rfl, ite2 (fun _ => ?_) (fun _ => ?_)⟩⟩
          · have J8 := J7.step ncr npr sb8 ro8
            have hT8 : H8 T = some (.tup ([a, 1 + (i : Int)].map V.int)) := (J7.row.sbkp sb8).tups _ _ hT7
            refine ⟨_, rfl, pA, vs, _, rfl, rfl, J8.p, small1000 (by omega), ?_⟩
            exact ⟨vs ++ [.ref T], ps ++ [[a, 1 + (i : Int)]], _, _, rfl, J8.app p0 npr npc hT8, by rw [List.length_append, List.length_singleton]; omega, okapp hok ⟨a, 1 + (i : Int), rfl, ⟨ha.1, by omega⟩, by omega, by omega⟩⟩
          · have J8 := J7.step ncr npr sb8 ro8
            have hT8 : H8 T = some (.tup ([a, 1 + (i : Int)].map V.int)) := (J7.row.sbkp sb8).tups _ _ hT7
            refine ⟨_, rfl, T, _, 1, .int (1 + (i : Int)), rfl, rfl, SqT.of hT8, rfl, _, rfl, T, _, 0, .int a, rfl, rfl, SqT.of hT8, rfl, by show 2 ≤ sizeLine; decide, fun T2 nT2 => ?_⟩
            have J9 := J8.same (same_upd (.tup [.int (1 + (i : Int)), .int a]) nT2)
            have hT9 : (upd H8 T2 (.tup [.int (1 + (i : Int)), .int a])) T2 = some (.tup ([1 + (i : Int), a].map V.int)) := upd_same
            refine ⟨pA, vs, _, rfl, rfl, J9.p, small1000 (by omega), ?_⟩
            exact ⟨vs ++ [.ref T2], ps ++ [[1 + (i : Int), a]], _, _, rfl, J9.app p0 npr npc hT9, by rw [List.length_append, List.length_singleton]; omega, okapp hok ⟨1 + (i : Int), a, rfl, by omega, ⟨ha.1, by omega⟩⟩⟩
        · refine ⟨_, rfl, _, rfl, r, 1 + (i : Int), rfl, ⟨by omega, by omega⟩, J5.row, fun a H6 ha sb6 ro6 => ?_⟩
          have J6 := J5.step ncr npr sb6 ro6
          refine ⟨_, rfl, by show 2 ≤ sizeLine; decide, fun T nT => ?_⟩
          have J7 := J6.same (same_upd (.tup [.int a, .int (1 + (i : Int))]) nT)
          have hT7 : (upd H6 T (.tup [.int a, .int (1 + (i : Int))])) T = some (.tup [.int a, .int (1 + (i : Int))]) := upd_same
          refine ⟨.ref pA, rfl, .inl ⟨rfl, _, SqL.of J7.p⟩, ?_⟩
          refine ⟨_, rfl, r, 3, rfl, ⟨by decide, by decide⟩, J7.row, fun y8 H8 hy8 sb8 ro8 => ⟨y8, 0, rfl, rfl, _, rfl, ite2 (fun _ => ?_) (fun _ => ?_)⟩⟩
          · have J8 := J7.step ncr npr sb8 ro8
            have hT8 : H8 T = some (.tup ([a, 1 + (i : Int)].map V.int)) := (J7.row.sbkp sb8).tups _ _ hT7
            refine ⟨_, rfl, pA, vs, _, rfl, rfl, J8.p, small1000 (by omega), ?_⟩
            exact ⟨vs ++ [.ref T], ps ++ [[a, 1 + (i : Int)]], _, _, rfl, J8.app p0 npr npc hT8, by rw [List.length_append, List.length_singleton]; omega, okapp hok ⟨a, 1 + (i : Int), rfl, ⟨ha.1, by omega⟩, by omega, by omega⟩⟩
          · have J8 := J7.step ncr npr sb8 ro8
            have hT8 : H8 T = some (.tup ([a, 1 + (i : Int)].map V.int)) := (J7.row.sbkp sb8).tups _ _ hT7
            refine ⟨_, rfl, T, _, 1, .int (1 + (i : Int)), rfl, rfl, SqT.of hT8, rfl, _, rfl, T, _, 0, .int a, rfl, rfl, SqT.of hT8, rfl, by show 2 ≤ sizeLine; decide, fun T2 nT2 => ?_⟩
            have J9 := J8.same (same_upd (.tup [.int (1 + (i : Int)), .int a]) nT2)
            have hT9 : (upd H8 T2 (.tup [.int (1 + (i : Int)), .int a])) T2 = some (.tup ([1 + (i : Int), a].map V.int)) := upd_same
            refine ⟨pA, vs, _, rfl, rfl, J9.p, small1000 (by omega), ?_⟩
            exact ⟨vs ++ [.ref T2], ps ++ [[1 + (i : Int), a]], _, _, rfl, J9.app p0 npr npc hT9, by rw [List.length_append, List.length_singleton]; omega, okapp hok ⟨1 + (i : Int), a, rfl, by omega, ⟨ha.1, by omega⟩⟩⟩
      · exact ⟨vs, ps, _, y8, rfl, J.step ncr npr sb5 ro5, by omega, hok⟩
    rintro σ H4 ⟨vs1, ps1, y6, y8, rfl, J4, hl1, hok1⟩
    -- range(_law_taken(_law_row, 3) if _law_way > 0 else 0)
    refine ⟨_, rfl, wy, 0, rfl, rfl, _, rfl, ite2 (fun _ => ?_) (fun _ => ?_)⟩
    · refine ⟨_, rfl, r, 3, rfl, ⟨by decide, by decide⟩, J4.row, fun j H5 hj sb5 ro5 => ⟨j, rfl, by omega, by omega, ?_⟩⟩
      have J1 := J4.step ncr npr sb5 ro5
      refine for_range (lo := 0) (n := j.toNat) (fun i σ H' => ∃ vs ps y9, σ = [some (.ref r), some (.int 4), some (.int 4), some (.int n), some (.int wy), some (.ref pA), y6, some (.ref cA), y8, y9, none, none, none, none, none] ∧ FI K H H' r pA cA cs vs ps ∧ ps.length ≤ 4 + i ∧ ∀ p ∈ ps, PairOk n p)
        ⟨vs1, ps1, none, rfl, J1, by omega, hok1⟩ ?_ ?_
      · rintro i σ H4 hi ⟨vs, ps, y9, rfl, J, hl, hok⟩
        have hvl := paired_len J.ps
        refine ⟨.ref pA, rfl, .inl ⟨rfl, _, SqL.of J.p⟩, ?_⟩
        refine ⟨_, rfl, _, rfl, r, n, rfl, ⟨by omega, by omega⟩, J.row, fun a Ha ha sba roa => ?_⟩
        have Ja := J.step ncr npr sba roa
        refine ⟨_, rfl, _, rfl, r, n, rfl, ⟨by omega, by omega⟩, Ja.row, fun b Hb hb sbb rob => ?_⟩
        have Jb := Ja.step ncr npr sbb rob
        refine ⟨by show 2 ≤ sizeLine; decide, fun T nT => ?_⟩
        have Jc := Jb.same (same_upd (.tup [.int a, .int b]) nT)
        have hT : (upd Hb T (.tup [.int a, .int b])) T = some (.tup ([a, b].map V.int)) := upd_same
        refine ⟨pA, vs, _, rfl, rfl, Jc.p, small1000 (by omega), ?_⟩
        exact ⟨vs ++ [.ref T], ps ++ [[a, b]], _, rfl, Jc.app p0 npr npc hT, by rw [List.length_append, List.length_singleton]; omega, okapp hok ⟨a, b, rfl, ha, hb⟩⟩
      rintro σ H4 ⟨vs, ps, y9, rfl, J, hl, hok⟩
      -- _law_found = []
      refine ⟨Nat.zero_le _, fun fA nfA => ?_⟩
      have Jf := J.same (same_upd (.lst []) nfA)
      have nfp : fA ≠ pA := (ne_of_none J.p nfA).symm
      have nfc : fA ≠ cA := (ne_of_none J.c nfA).symm
      obtain ⟨xr, er⟩ := J.row.lst
      have nfr : fA ≠ r := (ne_of_none er nfA).symm
      have f0 : H fA = none := by
        cases z : H fA with
        | none => rfl
        | some o =>
          have := J.sb _ _ nfr z
          rw [nfA] at this
          cases this
      have hvl := paired_len J.ps
      -- for _law_one, _law_other in _law_pipes
      refine ⟨_, rfl, pA, rfl, ⟨_, SqL.of Jf.p⟩, for_list (K := K) (a := pA) (xs := vs) (fun i σ H' => ∃ y11 y12 y13 y14 ws qs, σ = [some (.ref r), some (.int 4), some (.int 4), some (.int n), some (.int wy), some (.ref pA), y6, some (.ref cA), y8, y9, some (.ref fA), y11, y12, y13, y14] ∧ FI K H H' r pA cA cs vs ps ∧ H' fA = some (.lst ws) ∧ PipesAt H' ws qs ∧ qs.length = i ∧ AllOk n qs)
        ⟨none, none, none, none, [], [], rfl, Jf, upd_same, .nil, rfl, fun _ h => by cases h⟩ (fun i σ H' _ ⟨_, _, _, _, _, _, _, J', _⟩ => SqL.of J'.p) ?_ ?_⟩
      · rintro i x σ H5 hx ⟨y11, y12, y13, y14, ws, qs, rfl, J5, e5, hq5, hl5, hok5⟩
        have hwl := paired_len hq5
        have hiv : i < vs.length := (List.getElem?_eq_some_iff.mp hx).1
        obtain ⟨p, hp1, T, rfl, hT⟩ := paired_at J5.ps hx
        obtain ⟨a, b, rfl, ha, hb⟩ := hok p (List.mem_of_getElem? hp1)
        obtain ⟨ca, hca, ca1, ca4⟩ := cget a ha
        obtain ⟨cb, hcb, cb1, cb4⟩ := cget b hb
        refine ⟨T, [.int a, .int b], rfl, SqT.of hT, rfl, .int a, [.int b], rfl, .int b, [], rfl, rfl, ?_⟩
        refine ⟨_, rfl, _, rfl, cA, _, a, .int ca, rfl, rfl, SqL.of J5.c, hca, _, rfl, _, rfl, cA, _, b, .int cb, rfl, rfl, SqL.of J5.c, hcb, ca, cb, rfl, ca1, cb1, fun g g1 ga gb => ?_⟩
        refine ⟨_, rfl, by show 3 ≤ sizeLine; decide, fun l nl => ?_⟩
        have J6 := J5.same (same_upd (.lst [.int 1, .int 1, .int 2]) nl)
        obtain ⟨xr5, er5⟩ := J5.row.lst
        have nlr : l ≠ r := (ne_of_none er5 nl).symm
        have e6 := same_upd (.lst [.int 1, .int 1, .int 2]) nl _ _ e5
        have hq6 := hq5.kp (same_kp (same_upd (.lst [.int 1, .int 1, .int 2]) nl))
        refine ⟨r, l, [.int 1, .int 1, .int 2], rfl, J6.row, upd_same, nlr, ⟨by decide, by decide⟩, fun y H7 my sb7 ro7 => ?_⟩
        obtain ⟨m, rfl, hm⟩ : ∃ m : Int, y = .int m ∧ (m = 1 ∨ m = 2) := by
          have my' : y = .int 1 ∨ y = .int 1 ∨ y = .int 2 := by simpa using my
          rcases my' with z | z | z
          · exact ⟨1, z, .inl rfl⟩
          · exact ⟨1, z, .inl rfl⟩
          · exact ⟨2, z, .inr rfl⟩
        have J7 := J6.step ncr npr sb7 ro7
        have e7 := sb7 _ _ nfr e6
        have hq7 := hq6.kp (J6.row.sbkp sb7)
        refine ⟨.ref fA, rfl, .inl ⟨rfl, _, SqL.of e7⟩, _, rfl, _, rfl, ?_⟩
        refine ⟨_, rfl, _, rfl, _, rfl, cA, _, b, .int cb, rfl, rfl, SqL.of J7.c, hcb, m, cb, rfl, rfl, .inl ⟨by omega, by omega⟩, _, rfl, m * cb, g, rfl, rfl, ⟨by omega, by omega⟩, ?_⟩
        refine ⟨_, rfl, _, rfl, _, rfl, cA, _, a, .int ca, rfl, rfl, SqL.of J7.c, hca, m, ca, rfl, rfl, .inl ⟨by omega, by omega⟩, _, rfl, m * ca, g, rfl, rfl, ⟨by omega, by omega⟩, ?_⟩
        refine ⟨_, rfl, _, rfl, 4, 1, rfl, rfl, r, 5, rfl, ⟨by decide, by decide⟩, J7.row, fun c H8 hc sb8 ro8 => ?_⟩
        have J8 := J7.step ncr npr sb8 ro8
        have e8 := sb8 _ _ nfr e7
        have hq8 := hq7.kp (J7.row.sbkp sb8)
        refine ⟨by show 5 ≤ sizeLine; decide, fun T5 nT5 => ?_⟩
        have s9 := same_upd (.tup [.int a, .int b, .int (m * cb / g), .int (m * ca / g), .int c]) nT5
        have J9 := J8.same s9
        have e9 := s9 _ _ e8
        have hq9 := hq8.kp (same_kp s9)
        have nT5f : T5 ≠ fA := (ne_of_none e8 nT5).symm
        refine ⟨fA, ws, _, rfl, rfl, e9, small1000 (by omega), ?_⟩
        have db : 1 ≤ m * cb / g ∧ m * cb / g ≤ 999 := by
          rcases hm with z | z
          · subst z
            exact div_bd g1 (by omega) (by omega)
          · subst z
            exact div_bd g1 (by omega) (by omega)
        have da : 1 ≤ m * ca / g ∧ m * ca / g ≤ 999 := by
          rcases hm with z | z
          · subst z
            exact div_bd g1 (by omega) (by omega)
          · subst z
            exact div_bd g1 (by omega) (by omega)
        refine ⟨_, _, _, _, ws ++ [.ref T5], qs ++ [[a, b, m * cb / g, m * ca / g, c]], rfl, ⟨fun b' o nb eb => ?_, J9.row.other e9 nfr, ?_, ?_, J9.ps.kp (Kp.lst e9)⟩, upd_same, paired_app (hq9.kp (Kp.lst e9)) (.cons ⟨T5, rfl, ?_⟩ .nil), by rw [List.length_append, hl5]; rfl, ?_⟩
        · have nbf : b' ≠ fA := fun z => by
            subst z
            rw [f0] at eb
            cases eb
          rw [upd_ne nbf]
          exact J9.sb _ _ nb eb
        · rw [upd_ne nfc.symm]
          exact J9.c
        · rw [upd_ne nfp.symm]
          exact J9.p
        · rw [upd_ne nT5f, upd_same]
          rfl
        · intro z hz
          rcases List.mem_append.mp hz with h | h
          · exact hok5 z h
          · have ez : z = [a, b, m * cb / g, m * ca / g, c] := by simpa using h
            subst ez
            exact ⟨a, b, m * cb / g, m * ca / g, c, rfl, ha, hb, db, da, by omega⟩
      · rintro σ H5 ⟨y11, y12, y13, y14, ws, qs, rfl, J5, e5, hq5, hl5, hok5⟩
        refine ⟨_, rfl, _, rfl, fA, ws, rfl, .inl ⟨SqL.of e5, fun T nT => ?_⟩⟩
        have sT := same_upd (.tup ws) nT
        refine ⟨by show 2 ≤ sizeLine; decide, fun T2 nT2 => ?_⟩
        have sT2 := same_upd (.tup [.int n, .ref T]) nT2
        have sA := sT.trans sT2
        exact q _ _ n qs (J5.sb.trans (same_sb sA)) (J5.row.same sA) ⟨T2, T, ws, rfl, upd_same, sT2 _ _ upd_same, hq5.kp (same_kp sA)⟩ ⟨by omega, by omega, by omega, hok5⟩ n4
    · obtain ⟨j, hje⟩ : ∃ j : Int, j = 0 := ⟨0, rfl⟩
      have hj : 0 ≤ j ∧ j < 3 := by omega
      refine ⟨j, by rw [hje], by omega, by omega, ?_⟩
      have J1 := J4
      refine for_range (lo := 0) (n := j.toNat) (fun i σ H' => ∃ vs ps y9, σ = [some (.ref r), some (.int 4), some (.int 4), some (.int n), some (.int wy), some (.ref pA), y6, some (.ref cA), y8, y9, none, none, none, none, none] ∧ FI K H H' r pA cA cs vs ps ∧ ps.length ≤ 4 + i ∧ ∀ p ∈ ps, PairOk n p)
        ⟨vs1, ps1, none, rfl, J1, by omega, hok1⟩ ?_ ?_
      · rintro i σ H4 hi ⟨vs, ps, y9, rfl, J, hl, hok⟩
        have hvl := paired_len J.ps
        refine ⟨.ref pA, rfl, .inl ⟨rfl, _, SqL.of J.p⟩, ?_⟩
        refine ⟨_, rfl, _, rfl, r, n, rfl, ⟨by omega, by omega⟩, J.row, fun a Ha ha sba roa => ?_⟩
        have Ja := J.step ncr npr sba roa
        refine ⟨_, rfl, _, rfl, r, n, rfl, ⟨by omega, by omega⟩, Ja.row, fun b Hb hb sbb rob => ?_⟩
        have Jb := Ja.step ncr npr sbb rob
        refine ⟨by show 2 ≤ sizeLine; decide, fun T nT => ?_⟩
        have Jc := Jb.same (same_upd (.tup [.int a, .int b]) nT)
        have hT : (upd Hb T (.tup [.int a, .int b])) T = some (.tup ([a, b].map V.int)) := upd_same
        refine ⟨pA, vs, _, rfl, rfl, Jc.p, small1000 (by omega), ?_⟩
        exact ⟨vs ++ [.ref T], ps ++ [[a, b]], _, rfl, Jc.app p0 npr npc hT, by rw [List.length_append, List.length_singleton]; omega, okapp hok ⟨a, b, rfl, ha, hb⟩⟩
      rintro σ H4 ⟨vs, ps, y9, rfl, J, hl, hok⟩
      -- _law_found = []
      refine ⟨Nat.zero_le _, fun fA nfA => ?_⟩
      have Jf := J.same (same_upd (.lst []) nfA)
      have nfp : fA ≠ pA := (ne_of_none J.p nfA).symm
      have nfc : fA ≠ cA := (ne_of_none J.c nfA).symm
      obtain ⟨xr, er⟩ := J.row.lst
      have nfr : fA ≠ r := (ne_of_none er nfA).symm
      have f0 : H fA = none := by
        cases z : H fA with
        | none => rfl
        | some o =>
          have := J.sb _ _ nfr z
          rw [nfA] at this
          cases this
      have hvl := paired_len J.ps
      -- for _law_one, _law_other in _law_pipes
      refine ⟨_, rfl, pA, rfl, ⟨_, SqL.of Jf.p⟩, for_list (K := K) (a := pA) (xs := vs) (fun i σ H' => ∃ y11 y12 y13 y14 ws qs, σ = [some (.ref r), some (.int 4), some (.int 4), some (.int n), some (.int wy), some (.ref pA), y6, some (.ref cA), y8, y9, some (.ref fA), y11, y12, y13, y14] ∧ FI K H H' r pA cA cs vs ps ∧ H' fA = some (.lst ws) ∧ PipesAt H' ws qs ∧ qs.length = i ∧ AllOk n qs)
        ⟨none, none, none, none, [], [], rfl, Jf, upd_same, .nil, rfl, fun _ h => by cases h⟩ (fun i σ H' _ ⟨_, _, _, _, _, _, _, J', _⟩ => SqL.of J'.p) ?_ ?_⟩
      · rintro i x σ H5 hx ⟨y11, y12, y13, y14, ws, qs, rfl, J5, e5, hq5, hl5, hok5⟩
        have hwl := paired_len hq5
        have hiv : i < vs.length := (List.getElem?_eq_some_iff.mp hx).1
        obtain ⟨p, hp1, T, rfl, hT⟩ := paired_at J5.ps hx
        obtain ⟨a, b, rfl, ha, hb⟩ := hok p (List.mem_of_getElem? hp1)
        obtain ⟨ca, hca, ca1, ca4⟩ := cget a ha
        obtain ⟨cb, hcb, cb1, cb4⟩ := cget b hb
        refine ⟨T, [.int a, .int b], rfl, SqT.of hT, rfl, .int a, [.int b], rfl, .int b, [], rfl, rfl, ?_⟩
        refine ⟨_, rfl, _, rfl, cA, _, a, .int ca, rfl, rfl, SqL.of J5.c, hca, _, rfl, _, rfl, cA, _, b, .int cb, rfl, rfl, SqL.of J5.c, hcb, ca, cb, rfl, ca1, cb1, fun g g1 ga gb => ?_⟩
        refine ⟨_, rfl, by show 3 ≤ sizeLine; decide, fun l nl => ?_⟩
        have J6 := J5.same (same_upd (.lst [.int 1, .int 1, .int 2]) nl)
        obtain ⟨xr5, er5⟩ := J5.row.lst
        have nlr : l ≠ r := (ne_of_none er5 nl).symm
        have e6 := same_upd (.lst [.int 1, .int 1, .int 2]) nl _ _ e5
        have hq6 := hq5.kp (same_kp (same_upd (.lst [.int 1, .int 1, .int 2]) nl))
        refine ⟨r, l, [.int 1, .int 1, .int 2], rfl, J6.row, upd_same, nlr, ⟨by decide, by decide⟩, fun y H7 my sb7 ro7 => ?_⟩
        obtain ⟨m, rfl, hm⟩ : ∃ m : Int, y = .int m ∧ (m = 1 ∨ m = 2) := by
          have my' : y = .int 1 ∨ y = .int 1 ∨ y = .int 2 := by simpa using my
          rcases my' with z | z | z
          · exact ⟨1, z, .inl rfl⟩
          · exact ⟨1, z, .inl rfl⟩
          · exact ⟨2, z, .inr rfl⟩
        have J7 := J6.step ncr npr sb7 ro7
        have e7 := sb7 _ _ nfr e6
        have hq7 := hq6.kp (J6.row.sbkp sb7)
        refine ⟨.ref fA, rfl, .inl ⟨rfl, _, SqL.of e7⟩, _, rfl, _, rfl, ?_⟩
        refine ⟨_, rfl, _, rfl, _, rfl, cA, _, b, .int cb, rfl, rfl, SqL.of J7.c, hcb, m, cb, rfl, rfl, .inl ⟨by omega, by omega⟩, _, rfl, m * cb, g, rfl, rfl, ⟨by omega, by omega⟩, ?_⟩
        refine ⟨_, rfl, _, rfl, _, rfl, cA, _, a, .int ca, rfl, rfl, SqL.of J7.c, hca, m, ca, rfl, rfl, .inl ⟨by omega, by omega⟩, _, rfl, m * ca, g, rfl, rfl, ⟨by omega, by omega⟩, ?_⟩
        refine ⟨_, rfl, _, rfl, 4, 1, rfl, rfl, r, 5, rfl, ⟨by decide, by decide⟩, J7.row, fun c H8 hc sb8 ro8 => ?_⟩
        have J8 := J7.step ncr npr sb8 ro8
        have e8 := sb8 _ _ nfr e7
        have hq8 := hq7.kp (J7.row.sbkp sb8)
        refine ⟨by show 5 ≤ sizeLine; decide, fun T5 nT5 => ?_⟩
        have s9 := same_upd (.tup [.int a, .int b, .int (m * cb / g), .int (m * ca / g), .int c]) nT5
        have J9 := J8.same s9
        have e9 := s9 _ _ e8
        have hq9 := hq8.kp (same_kp s9)
        have nT5f : T5 ≠ fA := (ne_of_none e8 nT5).symm
        refine ⟨fA, ws, _, rfl, rfl, e9, small1000 (by omega), ?_⟩
        have db : 1 ≤ m * cb / g ∧ m * cb / g ≤ 999 := by
          rcases hm with z | z
          · subst z
            exact div_bd g1 (by omega) (by omega)
          · subst z
            exact div_bd g1 (by omega) (by omega)
        have da : 1 ≤ m * ca / g ∧ m * ca / g ≤ 999 := by
          rcases hm with z | z
          · subst z
            exact div_bd g1 (by omega) (by omega)
          · subst z
            exact div_bd g1 (by omega) (by omega)
        refine ⟨_, _, _, _, ws ++ [.ref T5], qs ++ [[a, b, m * cb / g, m * ca / g, c]], rfl, ⟨fun b' o nb eb => ?_, J9.row.other e9 nfr, ?_, ?_, J9.ps.kp (Kp.lst e9)⟩, upd_same, paired_app (hq9.kp (Kp.lst e9)) (.cons ⟨T5, rfl, ?_⟩ .nil), by rw [List.length_append, hl5]; rfl, ?_⟩
        · have nbf : b' ≠ fA := fun z => by
            subst z
            rw [f0] at eb
            cases eb
          rw [upd_ne nbf]
          exact J9.sb _ _ nb eb
        · rw [upd_ne nfc.symm]
          exact J9.c
        · rw [upd_ne nfp.symm]
          exact J9.p
        · rw [upd_ne nT5f, upd_same]
          rfl
        · intro z hz
          rcases List.mem_append.mp hz with h | h
          · exact hok5 z h
          · have ez : z = [a, b, m * cb / g, m * ca / g, c] := by simpa using h
            subst ez
            exact ⟨a, b, m * cb / g, m * ca / g, c, rfl, ha, hb, db, da, by omega⟩
      · rintro σ H5 ⟨y11, y12, y13, y14, ws, qs, rfl, J5, e5, hq5, hl5, hok5⟩
        refine ⟨_, rfl, _, rfl, fA, ws, rfl, .inl ⟨SqL.of e5, fun T nT => ?_⟩⟩
        have sT := same_upd (.tup ws) nT
        refine ⟨by show 2 ≤ sizeLine; decide, fun T2 nT2 => ?_⟩
        have sT2 := same_upd (.tup [.int n, .ref T]) nT2
        have sA := sT.trans sT2
        exact q _ _ n qs (J5.sb.trans (same_sb sA)) (J5.row.same sA) ⟨T2, T, ws, rfl, upd_same, sT2 _ _ upd_same, hq5.kp (same_kp sA)⟩ ⟨by omega, by omega, by omega, hok5⟩ n4
end
end K61

namespace K61
open PySem PySem.Spec PyProof.Rows L2
theorem rgV_boxes (n : Nat) : rgV 0 (n : Int) = (boxes n).map V.int := by
  unfold rgV boxes
  rw [List.map_map, show ((n : Int) - 0).toNat = n by omega]
  refine List.map_congr_left fun i _ => ?_
  show V.int (0 + (i : Int)) = V.int (i : Int)
  rw [Int.zero_add]
theorem cut_head (xs : List V) {k : Nat} (h : k ≤ xs.length) : cutV xs none (some (k : Int)) = xs.take k := by
  unfold cutV
  rw [HT.sIx_none, HT.sIx_nat, Nat.min_eq_left h]
  rfl
theorem cut_tail (xs : List V) {k : Nat} (h : k ≤ xs.length) : cutV xs (some (k : Int)) none = xs.drop k := by
  unfold cutV
  rw [HT.sIx_none, HT.sIx_nat, Nat.min_eq_left h]
  exact List.take_of_length_le (by rw [List.length_drop]; omega)
theorem perm_move {ls os : List Int} {k : Nat} (h : k < ls.length) : ((ls.take k ++ ls.drop (k + 1)) ++ (os ++ [ls[k]])).Perm (ls ++ os) := by
  have e : ls = ls.take k ++ ls[k] :: ls.drop (k + 1) := by
    rw [List.getElem_cons_drop h, List.take_append_drop]
  have p1 : (ls ++ os).Perm (ls[k] :: (ls.take k ++ ls.drop (k + 1) ++ os)) := by
    have e2 : ls ++ os = ls.take k ++ ls[k] :: (ls.drop (k + 1) ++ os) := by
      rw [← List.cons_append, ← List.append_assoc, ← e]
    rw [e2, List.append_assoc]
    exact List.perm_middle
  have p2 : ((ls.take k ++ ls.drop (k + 1)) ++ (os ++ [ls[k]])).Perm (ls[k] :: (ls.take k ++ ls.drop (k + 1) ++ os)) := by
    rw [← List.append_assoc]
    exact List.perm_append_singleton _ _
  exact p2.trans p1.symm
theorem row_of_perm {n : Nat} {os : List Int} (h : os.Perm (boxes n)) : Row n n os := by
  obtain ⟨h1, h2, h3⟩ := boxes_row n
  exact ⟨h.length_eq.trans h1, h.nodup_iff.mpr h2, fun b hb => h3 b (h.mem_iff.mp hb)⟩
section
variable {P : Program} {w : World} {K : PySem.W.Frag} {mg : Str → Option Value} {base : Heap} {f f1 f2 f3 : Addr} {fd fd1 fd2 fd3 : FuncData}
/-! ### _law_order -/
def spOrder (K : PySem.W.Frag) : Sp := fun vs H Q _ => ∃ (r : Addr) (n : Nat), vs = [.ref r, .int n] ∧ RowOk K H r ∧ (1 ≤ n ∧ n ≤ 5) ∧ ∀ l H' os, Sb r H H' → RowOk K H' r → l ≠ r → H' l = some (.lst (os.map V.int)) → Row n n os → Q (.ref l) H'
theorem ok_order (F : Fun K "_law_order" "_law_order" sOrder f fd) (B : Bn mg) (D1 : Df K mg "_law_taken" sTaken ["_law_row", "_law_many"] f1 fd1) : FnOk P w K mg base CX0 2 f fd ["_law_row", "_law_many"] (spOrder K) := by
  have G1 : FnOk P w K mg base CX0 1 f1 fd1 ["_law_row", "_law_many"] (spTaken K) := ok_taken D1.F B
  refine F.ok scOrder (fun vs H Q E h => ?_) (fun cdv A outer s H vs Q E hr h => ?_)
  · obtain ⟨r, n, rfl, _⟩ := h
    rfl
  · obtain ⟨r, n, rfl, hrow, ⟨n1, n5⟩, q⟩ := h
    refine ⟨_, pss_cons (ps_par (i := 2) (j := 3) rfl scOrder.nd rfl rfl (by decide) rfl rfl (pa_cons (pe_listRg rfl rfl B.list (prg_1 rfl B.range (pv 1))) (pa_cons (pe_lst pa_nil) pa_nil)) (by rfl))
      (pss_cons (ps_for PassesOwn.never rfl (pi_range1 rfl B.range (pa_cons (pv 1) pa_nil)) (pg_name (i := 4) scOrder.nd rfl (.inl rfl))
        (pss_cons (ps_set (i := 5) scOrder.nd rfl (.inl rfl) (pe_call G1 hr rfl D1.g D1.F.kp D1.b .nil pass0 (pa_cons (pv 0) (pa_cons (pe_callB call_len_seq rfl B.len bt_len (pa_cons (pv 2) pa_nil)) pa_nil))))
        (pss_cons (ps_expr (pe_bm PySem.F.plainAttrs_list PySem.F.slot_list_append PySem.F.type_list_append mt_append (pv 3) (pa_cons (pe_ix ix_list (pv 2) (pv 5) (fun _ _ => rfl)) pa_nil)))
        (pss_one (ps_set (i := 2) scOrder.nd rfl (.inl rfl) (pe_op op_cat (pe_slice sl_list (pv 2) po_none (po_some (pv 5))) (pe_slice sl_list (pv 2) (po_some (pe_op op_add (pv 5) pe_int)) po_none)))))))
      (pss_one (ps_ret (pv 3)))), ?_⟩
    refine ⟨_, rfl, n, rfl, RgOk.of_le (by decide) (by omega) (by decide) (by omega), fun l0 nl0 => ?_⟩
    rw [rgV_boxes]
    have s0 := same_upd (.lst ((boxes n).map V.int)) nl0
    refine ⟨Nat.zero_le _, fun fA nfA => ⟨_, _, rfl, ?_⟩⟩
    have s1 := same_upd (.lst []) nfA
    have sA := s0.trans s1
    obtain ⟨xr, er⟩ := hrow.lst
    have nl0r : l0 ≠ r := (ne_of_none er nl0).symm
    have nfr : fA ≠ r := (ne_of_none (s0 _ _ er) nfA).symm
    have nfl0 : fA ≠ l0 := fun z => by
      subst z
      rw [upd_same] at nfA
      cases nfA
    have f0 : H fA = none := s0.free nfA
    refine ⟨_, rfl, n, rfl, by omega, by omega, for_range (lo := 0) (n := (n : Int).toNat) (fun i σ H' => ∃ ls os lA y4 y5, σ = [some (.ref r), some (.int n), some (.ref lA), some (.ref fA), y4, y5] ∧ Sb r H H' ∧ RowOk K H' r ∧
        H' lA = some (.lst (ls.map V.int)) ∧ H' fA = some (.lst (os.map V.int)) ∧ lA ≠ r ∧ lA ≠ fA ∧ ls.length + i = n ∧ (ls ++ os).Perm (boxes n))
      ⟨boxes n, [], l0, none, none, rfl, same_sb sA, hrow.same sA, s1 _ _ upd_same, upd_same, nl0r, nfl0.symm, by rw [boxes_length]; rfl, by rw [List.append_nil]⟩ ?_ ?_⟩
    · rintro i σ H2 hi ⟨ls, os, lA, y4, y5, rfl, sb2, ro2, el2, ef2, nlr, nlf, hl, hp⟩
      have hlen := hp.length_eq
      rw [List.length_append, boxes_length] at hlen
      have hll : ((ls.map V.int).length : Int) = (ls.length : Nat) := by rw [List.length_map]
      refine ⟨_, rfl, _, rfl, lA, _, rfl, .inl (SqL.of el2), r, ((ls.map V.int).length : Nat), rfl, ⟨by omega, by omega⟩, ro2, fun y H3 hy sb3 ro3 => ?_⟩
      have el3 := sb3 _ _ nlr el2
      have ef3 := sb3 _ _ nfr ef2
      obtain ⟨k, rfl⟩ : ∃ k : Nat, y = (k : Int) := ⟨y.toNat, by omega⟩
      have hk : k < ls.length := by omega
      have hk2 : k + 1 ≤ (ls.map V.int).length := by rw [List.length_map]; omega
      refine ⟨.ref fA, rfl, .inl ⟨rfl, _, SqL.of ef3⟩, _, rfl, _, rfl, lA, _, (k : Int), .int ls[k], rfl, rfl, SqL.of el3, atI_nat (by rw [List.getElem?_map, List.getElem?_eq_getElem hk]; rfl), ?_⟩
      refine ⟨fA, _, _, rfl, rfl, ef3, small1000 (by rw [List.length_map]; omega), ?_⟩
      obtain ⟨H4, hH4⟩ : ∃ H4, H4 = upd H3 fA (.lst (os.map V.int ++ [.int ls[k]])) := ⟨_, rfl⟩
      have ef4 : H4 fA = some (.lst ((os ++ [ls[k]]).map V.int)) := by
        rw [hH4, upd_same, List.map_append]
        rfl
      have el4 : H4 lA = some (.lst (ls.map V.int)) := by
        rw [hH4, upd_ne nlf]
        exact el3
      have ro4 : RowOk K H4 r := by
        rw [hH4]
        exact ro3.other ef3 nfr
      have sb4 : Sb r H H4 := fun b o nb eb => by
        have nbf : b ≠ fA := fun z => by
          subst z
          rw [f0] at eb
          cases eb
        rw [hH4, upd_ne nbf]
        exact sb3 _ _ nb (sb2 _ _ nb eb)
      rw [← hH4]
      clear hH4
      refine ⟨_, rfl, _, rfl, k, rfl, lA, _, rfl, SqL.of el4, fun p1 np1 => ?_⟩
      rw [cut_head _ (by omega)]
      have t1 := same_upd (.lst ((ls.map V.int).take k)) np1
      refine ⟨_, rfl, _, rfl, k, 1, rfl, rfl, _, rfl, lA, _, rfl, SqL.of (t1 _ _ el4), fun p2 np2 => ?_⟩
      rw [show (k : Int) + 1 = ((k + 1 : Nat) : Int) by omega, cut_tail _ hk2]
      have t2 := same_upd (.lst ((ls.map V.int).drop (k + 1))) np2
      have len2 : ((ls.map V.int).take k).length + ((ls.map V.int).drop (k + 1)).length ≤ sizeLine := small_le (by rw [List.length_take, List.length_drop, List.length_map]; omega)
      refine ⟨p1, p2, _, _, rfl, rfl, t2 _ _ upd_same, upd_same, len2, fun p3 np3 => ?_⟩
      have t3 := same_upd (.lst ((ls.map V.int).take k ++ (ls.map V.int).drop (k + 1))) np3
      have tA := t1.trans (t2.trans t3)
      refine ⟨ls.take k ++ ls.drop (k + 1), os ++ [ls[k]], p3, _, _, rfl, sb4.trans (same_sb tA), ro4.same tA, ?_, tA _ _ ef4, ?_, ?_, ?_, (perm_move hk).trans hp⟩
      · rw [upd_same, List.map_append, List.map_take, List.map_drop]
      · obtain ⟨xr4, er4⟩ := ro4.lst
        exact (ne_of_none ((t1.trans t2) _ _ er4) np3).symm
      · exact (ne_of_none ((t1.trans t2) _ _ ef4) np3).symm
      · rw [List.length_append, List.length_take, List.length_drop]
        omega
    · rintro σ H2 ⟨ls, os, lA, y4, y5, rfl, sb2, ro2, el2, ef2, nlr, nlf, hl, hp⟩
      have e0 : ls = [] := List.eq_nil_of_length_eq_zero (by omega)
      subst e0
      exact ⟨_, rfl, q fA H2 os sb2 ro2 nfr ef2 (row_of_perm hp)⟩
end
end K61

namespace K61
open PySem PySem.Spec PyProof.Rows L2
theorem inV_int (b : Int) : ∀ ns : List Int, inV (.int b) (ns.map V.int) = decide (b ∈ ns)
  | [] => by simp [inV]
  | n :: ns => by
    have ih := inV_int b ns
    have e : eqV (.int n) (.int b) = decide (b = n) := by
      show (n == b) = decide (b = n)
      by_cases z : b = n
      · subst z
        simp
      · rw [decide_eq_false z]
        exact beq_eq_false_iff_ne.mpr fun h => z h.symm
    show (eqV (.int n) (.int b) || inV (.int b) (ns.map V.int)) = decide (b ∈ n :: ns)
    rw [ih, e]
    simp [List.mem_cons]
theorem hone {n k : Nat} (one : List Int) {i : Nat} (h : (ordAt n k)[i]? = some one) (hk : k ≤ n) (hn : n ≤ 5) : one.length ≤ 5 := by
  have := ((mem_ordAt n k one).mp (List.mem_of_getElem? h)).1
  omega
theorem step_small {n k i : Nat} (hn : n ≤ 5) (hk : k ≤ 4) : (ordStep n ((ordAt n k).take i)).length ≤ 3125 := by
  have h1 := step_length n ((ordAt n k).take i)
  have h2 := ordAt_length n k
  have h3 : ((ordAt n k).take i).length ≤ (ordAt n k).length := by
    rw [List.length_take]
    exact Nat.min_le_right _ _
  have h4 : n ^ k ≤ 5 ^ 4 := Nat.le_trans (Nat.pow_le_pow_left hn k) (Nat.pow_le_pow_right (by decide) hk)
  have h5 : ((ordAt n k).take i).length ≤ 625 := by
    have : (5 : Nat) ^ 4 = 625 := by decide
    omega
  have h6 := Nat.mul_le_mul h5 hn
  omega
/-- a tuple is put behind a list that was made here -/
theorem grow {H2 H4 : Hp} {D T : Addr} {acc : List V} {L : List (List Int)} {p : List Int} (nD : H2 D = none) (s : Same H2 H4) (eD : H4 D = some (.lst acc)) (hp : PipesAt H4 acc L) (hT : H4 T = some (.tup (p.map V.int))) :
    Same H2 (upd H4 D (.lst (acc ++ [.ref T]))) ∧ (upd H4 D (.lst (acc ++ [.ref T]))) D = some (.lst (acc ++ [.ref T])) ∧ PipesAt (upd H4 D (.lst (acc ++ [.ref T]))) (acc ++ [.ref T]) (L ++ [p]) := by
  have nT : T ≠ D := ne_of hT eD (by intro z; cases z)
  refine ⟨fun b o e => ?_, upd_same, paired_app (hp.kp (Kp.lst eD)) (.cons ⟨T, rfl, ?_⟩ .nil)⟩
  · rw [upd_ne (ne_of_none e nD)]
    exact s _ _ e
  · rw [upd_ne nT]
    exact hT
section
variable {P : Program} {w : World} {K : PySem.W.Frag} {mg : Str → Option Value} {base : Heap} {f f1 f2 f3 : Addr} {fd fd1 fd2 fd3 : FuncData}
def spOrd : Sp := fun vs H Q _ => ∃ (n : Nat), vs = [.int n] ∧ (1 ≤ n ∧ n ≤ 5) ∧ ∀ l H' xs, Same H H' → H' l = some (.lst xs) → PipesAt H' xs (orders n) → Q (.ref l) H'

/-! ### all_orders -/
theorem ok_all_orders (F : Fun K "all_orders" "all_orders" sAllOrd f fd) (B : Bn mg) : FnOk P w K mg base CX0 1 f fd ["many"] spOrd := by
  refine F.ok scAllOrd (fun vs H Q E h => ?_) (fun cdv A outer s H vs Q E hr h => ?_)
  · obtain ⟨n, rfl, _⟩ := h
    rfl
  · obtain ⟨n, rfl, ⟨n1, n5⟩, q⟩ := h
    refine ⟨_, pss_cons (ps_set (i := 1) scAllOrd.nd rfl (.inl rfl) (pe_lst (pa_cons (pe_tup pa_nil) pa_nil)))
      (pss_cons (ps_for PassesOwn.never rfl (pi_range1 rfl B.range (pa_cons (pv 0) pa_nil)) (pg_name (i := 2) scAllOrd.nd rfl (.inl rfl))
        (pss_cons (ps_set (i := 3) scAllOrd.nd rfl (.inl rfl) (pe_lst pa_nil))
        (pss_cons (ps_for PassesOwn.never rfl (pi_list (pv 1)) (pg_name (i := 4) scAllOrd.nd rfl (.inr rfl))
          (pss_one (ps_set (i := 3) scAllOrd.nd rfl (.inl rfl) (pe_op op_cat (pv 3) (pe_lc (own := [("box", 5)]) (g := gName 5) (by rfl) scAllOrd.nd (pi_range1 rfl B.range (pa_cons (pv 0) pa_nil))
            (blkOk_by (N := ["many", "found", "turn", "more", "one", "box"]) (sc := defScope sAllOrd) (by decide +kernel)) (fun _ _ _ _ _ => pg_name (i := 5) scAllOrd.nd rfl (Or.inl rfl))
            (fun _ _ _ _ _ => pts_one (pt_cmpR (r := rIn K true) op_notIn_seq (pv 5) (pv 4) (by rfl))) (fun _ _ _ _ _ => pe_op (r := rCatA K) op_catA (pv 4) (pe_tup (pa_cons (pv 5) pa_nil))))))))
        (pss_one (ps_set (i := 1) scAllOrd.nd rfl (.inl rfl) (pv 3))))))
      (pss_one (ps_ret (pv 1)))), ?_⟩
    -- found = [()]
    refine ⟨by show 0 ≤ sizeLine; decide, fun e0 ne0 => ?_⟩
    refine ⟨by show 1 ≤ sizeLine; decide, fun f0 nf0 => ?_⟩
    have s0 := (same_upd (.tup []) ne0).trans (same_upd (.lst [.ref e0]) nf0)
    have h0 : (upd (upd H e0 (.tup [])) f0 (.lst [.ref e0])) e0 = some (.tup (([] : List Int).map V.int)) := (same_upd (.lst [.ref e0]) nf0) _ _ upd_same
    refine ⟨_, rfl, n, rfl, by omega, by omega, for_range (lo := 0) (n := (n : Int).toNat) (fun k σ H' => ∃ fA xs y2 y3 y4, σ = [some (.int n), some (.ref fA), y2, y3, y4, none] ∧ Same H H' ∧ H' fA = some (.lst xs) ∧ PipesAt H' xs (ordAt n k))
      ⟨f0, [.ref e0], none, none, none, rfl, s0, upd_same, .cons ⟨e0, rfl, h0⟩ .nil⟩ ?_ ?_⟩
    · rintro k σ H1 hk ⟨fA, xs, y2, y3, y4, rfl, s1, e1, hp1⟩
      -- more = []
      refine ⟨Nat.zero_le _, fun m0 nm0 => ?_⟩
      have s2 := same_upd (.lst []) nm0
      refine ⟨_, rfl, fA, rfl, ⟨_, SqL.of (s2 _ _ e1)⟩, for_list (K := K) (a := fA) (xs := xs) (fun i σ H' => ∃ mA ms y4, σ = [some (.int n), some (.ref fA), some (.int (0 + (k : Int))), some (.ref mA), y4, none] ∧ Same H1 H' ∧ H' mA = some (.lst ms) ∧ PipesAt H' ms (ordStep n ((ordAt n k).take i)))
        ⟨m0, [], y4, rfl, s2, upd_same, .nil⟩ (fun i σ H' _ ⟨_, _, _, _, z, _⟩ => SqL.of (z _ _ e1)) ?_ ?_⟩
      · rintro i x σ H2 hx ⟨mA, ms, y4, rfl, s3, em, hpm⟩
        obtain ⟨one, ho1, T, rfl, hT1⟩ := paired_at hp1 hx
        have hT2 := s3 _ _ hT1
        have hml := paired_len hpm
        refine ⟨_, rfl, _, rfl, n, rfl, by omega, by omega, fun D nD => ?_⟩
        refine lc_range (lo := 0) (n := (n : Int).toNat) (fun j H' => ∃ acc, Same H2 H' ∧ H' D = some (.lst acc) ∧ PipesAt H' acc (ext j one)) ⟨[], same_upd _ nD, upd_same, .nil⟩ ?_ ?_
        · rintro j H3 hj ⟨acc, s4, eD, hpa⟩
          have hT3 := s4 _ _ hT2
          have hal := paired_len hpa
          have hel := ext_length j one
          refine ⟨rfl, _, rfl, _, rfl, T, _, rfl, .inr (SqT.of hT3), rfl, flat_ints one, _, rfl, ite2 (fun c => ?_) (fun c => ?_)⟩
          · have hno : (j : Int) ∉ one := fun z => by
              have c' : (!inV (.int (0 + (j : Int))) (one.map V.int)) = true := c
              rw [inV_int, Int.zero_add, decide_eq_true z] at c'
              cases c'
            refine ⟨_, rfl, _, rfl, by show 1 ≤ sizeLine; decide, fun T1 nT1 => ?_⟩
            have s5 := same_upd (.tup [.int (0 + (j : Int))]) nT1
            have hT1' : (upd H3 T1 (.tup [.int (0 + (j : Int))])) T1 = some (.tup ([(j : Int)].map V.int)) := by
              rw [upd_same, Int.zero_add]
              rfl
            refine ⟨T, T1, one.map V.int, [.int (0 + (j : Int))], rfl, rfl, SqT.of (s5 _ _ hT3), SqT.of upd_same, ?_, fun e => ?_, fun _ e => ?_, fun _ _ T2 nT2 => ?_⟩
            · rw [List.length_map]
              have := hone one ho1 (by omega) n5
              exact small_le (by show one.length + 1 ≤ 1000; omega)
            · have e' : one = [] := List.map_eq_nil_iff.mp e
              subst e'
              refine ⟨acc, s5 _ _ eD, small1000 (by omega), acc ++ [.ref T1], ?_⟩
              rw [ext_out hno]
              exact grow nD (s4.trans s5) (s5 _ _ eD) (hpa.kp (same_kp s5)) hT1'
            · cases e
            · have s6 := same_upd (.tup (one.map V.int ++ [.int (0 + (j : Int))])) nT2
              have hT2' : (upd (upd H3 T1 (.tup [.int (0 + (j : Int))])) T2 (.tup (one.map V.int ++ [.int (0 + (j : Int))]))) T2 = some (.tup ((one ++ [(j : Int)]).map V.int)) := by
                rw [upd_same, List.map_append, Int.zero_add]
                rfl
              refine ⟨acc, s6 _ _ (s5 _ _ eD), small1000 (by omega), acc ++ [.ref T2], ?_⟩
              rw [ext_out hno]
              exact grow nD (s4.trans (s5.trans s6)) (s6 _ _ (s5 _ _ eD)) ((hpa.kp (same_kp s5)).kp (same_kp s6)) hT2'
          · have hin : (j : Int) ∈ one := by
              by_cases z : (j : Int) ∈ one
              · exact z
              · exfalso
                apply c
                show (!inV (.int (0 + (j : Int))) (one.map V.int)) = true
                rw [inV_int, Int.zero_add, decide_eq_false z]
                rfl
            refine ⟨acc, s4, eD, ?_⟩
            rw [ext_in hin]
            exact hpa
        · rintro H3 ⟨acc, s4, eD, hpa⟩
          have en : (n : Int).toNat = n := by omega
          rw [en] at hpa
          have hal := paired_len hpa
          have hel := ext_length n one
          have hb := step_small (k := k) (i := i) n5 (by omega)
          refine ⟨mA, D, ms, acc, rfl, rfl, s4 _ _ em, eD, by rw [sizeLine_eq]; omega, fun M nM => ?_⟩
          have s5 := same_upd (.lst (ms ++ acc)) nM
          refine ⟨M, ms ++ acc, _, rfl, s3.trans (s4.trans s5), upd_same, ?_⟩
          rw [List.take_add_one, ho1]
          show PipesAt _ _ (ordStep n ((ordAt n k).take i ++ [one]))
          rw [step_snoc]
          exact paired_app ((hpm.kp (same_kp s4)).kp (same_kp s5)) (hpa.kp (same_kp s5))
      · rintro σ H2 ⟨mA, ms, y4, rfl, s3, em, hpm⟩
        rw [List.take_of_length_le (Nat.le_of_eq (paired_len hp1).symm)] at hpm
        exact ⟨_, rfl, mA, ms, _, _, _, rfl, s1.trans s3, em, hpm⟩
    · rintro σ H1 ⟨fA, xs, y2, y3, y4, rfl, s1, e1, hp1⟩
      have en : (n : Int).toNat = n := by omega
      rw [en] at hp1
      exact ⟨_, rfl, q fA H1 xs s1 e1 hp1⟩

/-! ### _law_orders -/
theorem ok_law_orders (F : Fun K "_law_orders" "_law_orders" sOrders f fd) (B : Bn mg) : FnOk P w K mg base CX0 1 f fd ["_law_many"] spOrd := by
  refine F.ok scOrders (fun vs H Q E h => ?_) (fun cdv A outer s H vs Q E hr h => ?_)
  · obtain ⟨n, rfl, _⟩ := h
    rfl
  · obtain ⟨n, rfl, ⟨n1, n5⟩, q⟩ := h
    refine ⟨_, pss_cons (ps_set (i := 1) scOrders.nd rfl (.inl rfl) (pe_lst (pa_cons (pe_tup pa_nil) pa_nil)))
      (pss_cons (ps_for PassesOwn.never rfl (pi_range1 rfl B.range (pa_cons (pv 0) pa_nil)) (pg_name (i := 2) scOrders.nd rfl (.inl rfl))
        (pss_cons (ps_set (i := 3) scOrders.nd rfl (.inl rfl) (pe_lst pa_nil))
        (pss_cons (ps_for PassesOwn.never rfl (pi_list (pv 1)) (pg_name (i := 4) scOrders.nd rfl (.inr rfl))
          (pss_one (ps_set (i := 3) scOrders.nd rfl (.inl rfl) (pe_op op_cat (pv 3) (pe_lc (own := [("_law_k", 5)]) (g := gName 5) (by rfl) scOrders.nd (pi_range1 rfl B.range (pa_cons (pv 0) pa_nil))
            (blkOk_by (N := ["_law_many", "_law_found", "_law_turn", "_law_more", "_law_one", "_law_k"]) (sc := defScope sOrders) (by decide +kernel)) (fun _ _ _ _ _ => pg_name (i := 5) scOrders.nd rfl (Or.inl rfl))
            (fun _ _ _ _ _ => pts_one (pt_cmpR (r := rIn K true) op_notIn_seq (pv 5) (pv 4) (by rfl))) (fun _ _ _ _ _ => pe_op (r := rCatA K) op_catA (pv 4) (pe_tup (pa_cons (pv 5) pa_nil))))))))
        (pss_one (ps_set (i := 1) scOrders.nd rfl (.inl rfl) (pv 3))))))
      (pss_one (ps_ret (pv 1)))), ?_⟩
    -- found = [()]
    refine ⟨by show 0 ≤ sizeLine; decide, fun e0 ne0 => ?_⟩
    refine ⟨by show 1 ≤ sizeLine; decide, fun f0 nf0 => ?_⟩
    have s0 := (same_upd (.tup []) ne0).trans (same_upd (.lst [.ref e0]) nf0)
    have h0 : (upd (upd H e0 (.tup [])) f0 (.lst [.ref e0])) e0 = some (.tup (([] : List Int).map V.int)) := (same_upd (.lst [.ref e0]) nf0) _ _ upd_same
    refine ⟨_, rfl, n, rfl, by omega, by omega, for_range (lo := 0) (n := (n : Int).toNat) (fun k σ H' => ∃ fA xs y2 y3 y4, σ = [some (.int n), some (.ref fA), y2, y3, y4, none] ∧ Same H H' ∧ H' fA = some (.lst xs) ∧ PipesAt H' xs (ordAt n k))
      ⟨f0, [.ref e0], none, none, none, rfl, s0, upd_same, .cons ⟨e0, rfl, h0⟩ .nil⟩ ?_ ?_⟩
    · rintro k σ H1 hk ⟨fA, xs, y2, y3, y4, rfl, s1, e1, hp1⟩
      -- more = []
      refine ⟨Nat.zero_le _, fun m0 nm0 => ?_⟩
      have s2 := same_upd (.lst []) nm0
      refine ⟨_, rfl, fA, rfl, ⟨_, SqL.of (s2 _ _ e1)⟩, for_list (K := K) (a := fA) (xs := xs) (fun i σ H' => ∃ mA ms y4, σ = [some (.int n), some (.ref fA), some (.int (0 + (k : Int))), some (.ref mA), y4, none] ∧ Same H1 H' ∧ H' mA = some (.lst ms) ∧ PipesAt H' ms (ordStep n ((ordAt n k).take i)))
        ⟨m0, [], y4, rfl, s2, upd_same, .nil⟩ (fun i σ H' _ ⟨_, _, _, _, z, _⟩ => SqL.of (z _ _ e1)) ?_ ?_⟩
      · rintro i x σ H2 hx ⟨mA, ms, y4, rfl, s3, em, hpm⟩
        obtain ⟨one, ho1, T, rfl, hT1⟩ := paired_at hp1 hx
        have hT2 := s3 _ _ hT1
        have hml := paired_len hpm
        refine ⟨_, rfl, _, rfl, n, rfl, by omega, by omega, fun D nD => ?_⟩
        refine lc_range (lo := 0) (n := (n : Int).toNat) (fun j H' => ∃ acc, Same H2 H' ∧ H' D = some (.lst acc) ∧ PipesAt H' acc (ext j one)) ⟨[], same_upd _ nD, upd_same, .nil⟩ ?_ ?_
        · rintro j H3 hj ⟨acc, s4, eD, hpa⟩
          have hT3 := s4 _ _ hT2
          have hal := paired_len hpa
          have hel := ext_length j one
          refine ⟨rfl, _, rfl, _, rfl, T, _, rfl, .inr (SqT.of hT3), rfl, flat_ints one, _, rfl, ite2 (fun c => ?_) (fun c => ?_)⟩
          · have hno : (j : Int) ∉ one := fun z => by
              have c' : (!inV (.int (0 + (j : Int))) (one.map V.int)) = true := c
              rw [inV_int, Int.zero_add, decide_eq_true z] at c'
              cases c'
            refine ⟨_, rfl, _, rfl, by show 1 ≤ sizeLine; decide, fun T1 nT1 => ?_⟩
            have s5 := same_upd (.tup [.int (0 + (j : Int))]) nT1
            have hT1' : (upd H3 T1 (.tup [.int (0 + (j : Int))])) T1 = some (.tup ([(j : Int)].map V.int)) := by
              rw [upd_same, Int.zero_add]
              rfl
            refine ⟨T, T1, one.map V.int, [.int (0 + (j : Int))], rfl, rfl, SqT.of (s5 _ _ hT3), SqT.of upd_same, ?_, fun e => ?_, fun _ e => ?_, fun _ _ T2 nT2 => ?_⟩
            · rw [List.length_map]
              have := hone one ho1 (by omega) n5
              exact small_le (by show one.length + 1 ≤ 1000; omega)
            · have e' : one = [] := List.map_eq_nil_iff.mp e
              subst e'
              refine ⟨acc, s5 _ _ eD, small1000 (by omega), acc ++ [.ref T1], ?_⟩
              rw [ext_out hno]
              exact grow nD (s4.trans s5) (s5 _ _ eD) (hpa.kp (same_kp s5)) hT1'
            · cases e
            · have s6 := same_upd (.tup (one.map V.int ++ [.int (0 + (j : Int))])) nT2
              have hT2' : (upd (upd H3 T1 (.tup [.int (0 + (j : Int))])) T2 (.tup (one.map V.int ++ [.int (0 + (j : Int))]))) T2 = some (.tup ((one ++ [(j : Int)]).map V.int)) := by
                rw [upd_same, List.map_append, Int.zero_add]
                rfl
              refine ⟨acc, s6 _ _ (s5 _ _ eD), small1000 (by omega), acc ++ [.ref T2], ?_⟩
              rw [ext_out hno]
              exact grow nD (s4.trans (s5.trans s6)) (s6 _ _ (s5 _ _ eD)) ((hpa.kp (same_kp s5)).kp (same_kp s6)) hT2'
          · have hin : (j : Int) ∈ one := by
              by_cases z : (j : Int) ∈ one
              · exact z
              · exfalso
                apply c
                show (!inV (.int (0 + (j : Int))) (one.map V.int)) = true
                rw [inV_int, Int.zero_add, decide_eq_false z]
                rfl
            refine ⟨acc, s4, eD, ?_⟩
            rw [ext_in hin]
            exact hpa
        · rintro H3 ⟨acc, s4, eD, hpa⟩
          have en : (n : Int).toNat = n := by omega
          rw [en] at hpa
          have hal := paired_len hpa
          have hel := ext_length n one
          have hb := step_small (k := k) (i := i) n5 (by omega)
          refine ⟨mA, D, ms, acc, rfl, rfl, s4 _ _ em, eD, by rw [sizeLine_eq]; omega, fun M nM => ?_⟩
          have s5 := same_upd (.lst (ms ++ acc)) nM
          refine ⟨M, ms ++ acc, _, rfl, s3.trans (s4.trans s5), upd_same, ?_⟩
          rw [List.take_add_one, ho1]
          show PipesAt _ _ (ordStep n ((ordAt n k).take i ++ [one]))
          rw [step_snoc]
          exact paired_app ((hpm.kp (same_kp s4)).kp (same_kp s5)) (hpa.kp (same_kp s5))
      · rintro σ H2 ⟨mA, ms, y4, rfl, s3, em, hpm⟩
        rw [List.take_of_length_le (Nat.le_of_eq (paired_len hp1).symm)] at hpm
        exact ⟨_, rfl, mA, ms, _, _, _, rfl, s1.trans s3, em, hpm⟩
    · rintro σ H1 ⟨fA, xs, y2, y3, y4, rfl, s1, e1, hp1⟩
      have en : (n : Int).toNat = n := by omega
      rw [en] at hp1
      exact ⟨_, rfl, q fA H1 xs s1 e1 hp1⟩
end
end K61

namespace K61
open PySem PySem.Spec PyProof.Rows L2
/-! ### tuples whose object is known to have no dict of its own -/
theorem sqF {K : PySem.W.Frag} {H : Hp} {a : Addr} {o : Obj} {xs : List V} (h : H a = some (.frz o (.tup xs))) : SqT K H a xs := .inl (.inr ⟨o, h⟩)
section
variable {X : Cx} {es : List Expr} {e o : Expr} {t : TA} {to : TE} {pos apos cpos : Pos}
/-- a tuple's object without a dict of its own -/
abbrev bareTup (us : List Value) : Obj := { cls := .type "tuple", data := .seq us.toArray }
/-- such an object behind the heap's end is laid -/
theorem laid_bare {pins : List (Addr × Obj)} {σ : L2.St} {H : Hp} {s : Shared} {items : List V} {us : List Value} (I : Inv X pins σ H s) (hv : Vals items us) (hz : items.length ≤ sizeLine) :
    Inv X pins σ (upd H s.heap.objs.size (.frz (bareTup us) (.tup items))) { s with heap := s.heap.push (bareTup us) } := by
  have new : (s.heap.push (bareTup us)).get? s.heap.objs.size = some (bareTup us) := Heap.get?_push_size _ rfl
  exact I.laid (t' := s.toks) (fun _ _ old => Heap.get?_push_of_some _ old) (Nat.le_refl _) ⟨new, hz, us, hv, _, new, rfl, _, rfl⟩
/-- a tuple display; what is known of it is its object, too -/
def tTupF (t : TA) : TE := fun σ H Q => t σ H fun items H1 => items.length ≤ sizeLine ∧ ∀ c ob, H1 c = none → ob.dict = none → Q (.ref c) (upd H1 c (.frz ob (.tup items)))
theorem pe_tupF {x1} (h : PA X es t) : PE X (.Tuple es x1 pos) (tTupF t) := by
  constructor
  intro pins s σ H Q I hq
  refine wpAny_Tuple_spliced (thn (h.run pos pins s σ H _ I hq) ?_)
  rintro us s1 ⟨items, H1, I1, hv, hz, q⟩
  exact ⟨hv.length ▸ hz, .ref s1.heap.objs.size, _, laid_bare I1 hv hz, rfl, q _ (bareTup us) (I1.hok.fresh (Nat.le_refl _)) rfl⟩
/-- t + u of tuples -/
def rCatF (K : PySem.W.Frag) : R2 := fun x y H Q => ∃ (c d : Addr) (l r : List V), x = .ref c ∧ y = .ref d ∧ SqT K H c l ∧ SqT K H d r ∧ l.length + r.length ≤ sizeLine ∧
  (l = [] → Q (.ref d) H) ∧ (l ≠ [] → r = [] → Q (.ref c) H) ∧ (l ≠ [] → r ≠ [] → ∀ n ob, H n = none → ob.dict = none → Q (.ref n) (upd H n (.frz ob (.tup (l ++ r)))))
theorem op_catF : OpR X (binaryOp .Add) (rCatF X.K) := by
  rintro pins s σ H x y v u Q I rx ry ⟨c, d, l, r, rfl, rfl, hl, hr, hz, q0, q1, q2⟩
  cases rx
  cases ry
  obtain ⟨ls, vl, pl, _⟩ := I.tuple hl
  obtain ⟨rs, vr, pr, _⟩ := I.tuple hr
  cases l with
  | nil =>
    cases vl
    exact cat_tup0 pl pr ⟨.ref d, H, I, rfl, q0 rfl⟩
  | cons a l =>
    have some_ : a :: l ≠ [] := fun z => nomatch z
    refine HT.cat_tup pl pr (fun z => some_ (vl.nil_iff.mp z)) (fun z => ⟨.ref c, H, I, rfl, q1 some_ (vr.nil_iff.mp z)⟩) (fun z => ?_) (vl.length ▸ vr.length ▸ hz)
    have few : (a :: l ++ r).length ≤ sizeLine := List.length_append ▸ hz
    exact ⟨.ref s.heap.objs.size, _, laid_bare I (vl.append vr) few, rfl, q2 some_ (fun w => z (vr.nil_iff.mpr w)) _ (bareTup (ls ++ rs)) (I.hok.fresh (Nat.le_refl _)) rfl⟩
/-- t.index(e), t a tuple without a dict of its own -/
def tIxF (K : PySem.W.Frag) (to : TE) (t : TA) : TE := fun σ H Q => to σ H fun x H1 => ∃ c ob items, x = .ref c ∧ H1 c = some (.frz ob (.tup items)) ∧ ob.dict = none ∧ t σ H1 fun ys H2 => rTupIx K x ys H2 Q
theorem pe_ixF {K : PySem.W.Frag} (ho : PE X o to) (ha : PA X [e] t) (base : attributeBase o "index" X.env (eval o X.env) = eval o X.env := by rfl) (line : (apos.endLine == cpos.line) = true := by rfl)
    (one : backTo cpos (starEach [e] X.env) = [(false, eval e X.env)] := by rfl) (one' : starEach [e] X.env = [(false, eval e X.env)] := by rfl) (hK : X.K = K := by rfl) : PE X (.Call (.Attribute o "index" apos) [e] [] cpos) (tIxF K to t) := by
  subst hK
  constructor
  intro pins s σ H Q I h
  refine wpAny_Call_method1_late base line one (thn (ho.run pins s σ H _ I h) ?_)
  rintro v s1 ⟨x, H1, I1, rel, c, ob, items, rfl, at_c, bare, q1⟩
  cases rel
  have ⟨got, _, _, _, ob', got', cls, _⟩ : s1.heap.get? c = some ob ∧ ObjOk X.prog X.w H1 s1.heap c (.tup items) := I1.hok c _ at_c
  cases got.symm.trans got'
  refine ⟨"tuple", "tuple.index", PySem.F.plainAttrs_tuple, PySem.F.slot_tuple_index, PySem.F.type_tuple_index, ⟨ob, got, cls⟩, ?_, ?_⟩
  · rintro _ ⟨⟩
    exact ⟨ob, got, bare⟩
  · have args := ha.run cpos pins s1 σ H1 _ I1 q1
    rw [one'] at args
    refine Calls.callWith_builtin rfl (Calls.evalArgs_plain (thn args ?_))
    rintro us s2 ⟨vs, H2, I2, r2, q2⟩
    exact mt_tup_indexI pins s2 σ H2 (.ref c) vs (.ref c) us Q I2 (show RelV (.ref c) (.ref c) from rfl) r2 q2
end
def OrdAt (H : Hp) (v : V) (p : List Int) : Prop := ∃ t o, v = .ref t ∧ H t = some (.frz o (.tup (p.map V.int))) ∧ o.dict = none
def OrdsAt (H : Hp) (vs : List V) (ps : List (List Int)) : Prop := Paired (OrdAt H) vs ps
theorem OrdAt.kp {H H' : Hp} {v : V} {p : List Int} (k : Kp H H') (h : OrdAt H v p) : OrdAt H' v p := by
  obtain ⟨t, o, e, h, d⟩ := h
  exact ⟨t, o, e, k.frzs _ _ _ h, d⟩
theorem OrdsAt.kp {H H' : Hp} {vs : List V} {ps : List (List Int)} (k : Kp H H') (h : OrdsAt H vs ps) : OrdsAt H' vs ps := Paired.mapP h fun _ _ x => x.kp k
theorem growF {H2 H4 : Hp} {D T : Addr} {o : Obj} {acc : List V} {L : List (List Int)} {p : List Int} (nD : H2 D = none) (s : Same H2 H4) (eD : H4 D = some (.lst acc)) (hp : OrdsAt H4 acc L) (hT : H4 T = some (.frz o (.tup (p.map V.int)))) (hd : o.dict = none) :
    Same H2 (upd H4 D (.lst (acc ++ [.ref T]))) ∧ (upd H4 D (.lst (acc ++ [.ref T]))) D = some (.lst (acc ++ [.ref T])) ∧ OrdsAt (upd H4 D (.lst (acc ++ [.ref T]))) (acc ++ [.ref T]) (L ++ [p]) := by
  have nT : T ≠ D := ne_of hT eD (by intro z; cases z)
  refine ⟨fun b o e => ?_, upd_same, paired_app (hp.kp (Kp.lst eD)) (.cons ⟨T, o, rfl, ?_, hd⟩ .nil)⟩
  · rw [upd_ne (ne_of_none e nD)]
    exact s _ _ e
  · rw [upd_ne nT]
    exact hT
section
variable {P : Program} {w : World} {K : PySem.W.Frag} {mg : Str → Option Value} {base : Heap} {f f1 f2 f3 : Addr} {fd fd1 fd2 fd3 : FuncData}
def spOrdF : Sp := fun vs H Q _ => ∃ (n : Nat), vs = [.int n] ∧ (1 ≤ n ∧ n ≤ 5) ∧ ∀ l H' xs, Same H H' → H' l = some (.lst xs) → OrdsAt H' xs (orders n) → Q (.ref l) H'

/-! ### _law_orders -/
theorem ok_law_ordersF (F : Fun K "_law_orders" "_law_orders" sOrders f fd) (B : Bn mg) : FnOk P w K mg base CX0 1 f fd ["_law_many"] spOrdF := by
  refine F.ok scOrders (fun vs H Q E h => ?_) (fun cdv A outer s H vs Q E hr h => ?_)
  · obtain ⟨n, rfl, _⟩ := h
    rfl
  · obtain ⟨n, rfl, ⟨n1, n5⟩, q⟩ := h
    refine ⟨_, pss_cons (ps_set (i := 1) scOrders.nd rfl (.inl rfl) (pe_lst (pa_cons (pe_tupF pa_nil) pa_nil)))
      (pss_cons (ps_for PassesOwn.never rfl (pi_range1 rfl B.range (pa_cons (pv 0) pa_nil)) (pg_name (i := 2) scOrders.nd rfl (.inl rfl))
        (pss_cons (ps_set (i := 3) scOrders.nd rfl (.inl rfl) (pe_lst pa_nil))
        (pss_cons (ps_for PassesOwn.never rfl (pi_list (pv 1)) (pg_name (i := 4) scOrders.nd rfl (.inr rfl))
          (pss_one (ps_set (i := 3) scOrders.nd rfl (.inl rfl) (pe_op op_cat (pv 3) (pe_lc (own := [("_law_k", 5)]) (g := gName 5) (by rfl) scOrders.nd (pi_range1 rfl B.range (pa_cons (pv 0) pa_nil))
            (blkOk_by (N := ["_law_many", "_law_found", "_law_turn", "_law_more", "_law_one", "_law_k"]) (sc := defScope sOrders) (by decide +kernel)) (fun _ _ _ _ _ => pg_name (i := 5) scOrders.nd rfl (Or.inl rfl))
            (fun _ _ _ _ _ => pts_one (pt_cmpR (r := rIn K true) op_notIn_seq (pv 5) (pv 4) (by rfl))) (fun _ _ _ _ _ => pe_op (r := rCatF K) op_catF (pv 4) (pe_tupF (pa_cons (pv 5) pa_nil))))))))
        (pss_one (ps_set (i := 1) scOrders.nd rfl (.inl rfl) (pv 3))))))
      (pss_one (ps_ret (pv 1)))), ?_⟩
    -- found = [()]
    refine ⟨by show 0 ≤ sizeLine; decide, fun e0 o0 ne0 od0 => ?_⟩
    refine ⟨by show 1 ≤ sizeLine; decide, fun f0 nf0 => ?_⟩
    have s0 := (same_upd (.frz o0 (.tup [])) ne0).trans (same_upd (.lst [.ref e0]) nf0)
    have h0 : (upd (upd H e0 (.frz o0 (.tup []))) f0 (.lst [.ref e0])) e0 = some (.frz o0 (.tup (([] : List Int).map V.int))) := (same_upd (.lst [.ref e0]) nf0) _ _ upd_same
    refine ⟨_, rfl, n, rfl, by omega, by omega, for_range (lo := 0) (n := (n : Int).toNat) (fun k σ H' => ∃ fA xs y2 y3 y4, σ = [some (.int n), some (.ref fA), y2, y3, y4, none] ∧ Same H H' ∧ H' fA = some (.lst xs) ∧ OrdsAt H' xs (ordAt n k))
      ⟨f0, [.ref e0], none, none, none, rfl, s0, upd_same, .cons ⟨e0, o0, rfl, h0, od0⟩ .nil⟩ ?_ ?_⟩
    · rintro k σ H1 hk ⟨fA, xs, y2, y3, y4, rfl, s1, e1, hp1⟩
      -- more = []
      refine ⟨Nat.zero_le _, fun m0 nm0 => ?_⟩
      have s2 := same_upd (.lst []) nm0
      refine ⟨_, rfl, fA, rfl, ⟨_, SqL.of (s2 _ _ e1)⟩, for_list (K := K) (a := fA) (xs := xs) (fun i σ H' => ∃ mA ms y4, σ = [some (.int n), some (.ref fA), some (.int (0 + (k : Int))), some (.ref mA), y4, none] ∧ Same H1 H' ∧ H' mA = some (.lst ms) ∧ OrdsAt H' ms (ordStep n ((ordAt n k).take i)))
        ⟨m0, [], y4, rfl, s2, upd_same, .nil⟩ (fun i σ H' _ ⟨_, _, _, _, z, _⟩ => SqL.of (z _ _ e1)) ?_ ?_⟩
      · rintro i x σ H2 hx ⟨mA, ms, y4, rfl, s3, em, hpm⟩
        obtain ⟨one, ho1, T, oT, rfl, hT1, odT⟩ := paired_at hp1 hx
        have hT2 := s3 _ _ hT1
        have hml := paired_len hpm
        refine ⟨_, rfl, _, rfl, n, rfl, by omega, by omega, fun D nD => ?_⟩
        refine lc_range (lo := 0) (n := (n : Int).toNat) (fun j H' => ∃ acc, Same H2 H' ∧ H' D = some (.lst acc) ∧ OrdsAt H' acc (ext j one)) ⟨[], same_upd _ nD, upd_same, .nil⟩ ?_ ?_
        · rintro j H3 hj ⟨acc, s4, eD, hpa⟩
          have hT3 := s4 _ _ hT2
          have hal := paired_len hpa
          have hel := ext_length j one
          refine ⟨rfl, _, rfl, _, rfl, T, _, rfl, .inr (sqF hT3), rfl, flat_ints one, _, rfl, ite2 (fun c => ?_) (fun c => ?_)⟩
          · have hno : (j : Int) ∉ one := fun z => by
              have c' : (!inV (.int (0 + (j : Int))) (one.map V.int)) = true := c
              rw [inV_int, Int.zero_add, decide_eq_true z] at c'
              cases c'
            refine ⟨_, rfl, _, rfl, by show 1 ≤ sizeLine; decide, fun T1 o1 nT1 od1 => ?_⟩
            have s5 := same_upd (.frz o1 (.tup [.int (0 + (j : Int))])) nT1
            have hT1' : (upd H3 T1 (.frz o1 (.tup [.int (0 + (j : Int))]))) T1 = some (.frz o1 (.tup ([(j : Int)].map V.int))) := by
              rw [upd_same, Int.zero_add]
              rfl
            refine ⟨T, T1, one.map V.int, [.int (0 + (j : Int))], rfl, rfl, sqF (s5 _ _ hT3), sqF upd_same, ?_, fun e => ?_, fun _ e => ?_, fun _ _ T2 o2 nT2 od2 => ?_⟩
            · rw [List.length_map]
              have := hone one ho1 (by omega) n5
              exact small_le (by show one.length + 1 ≤ 1000; omega)
            · have e' : one = [] := List.map_eq_nil_iff.mp e
              subst e'
              refine ⟨acc, s5 _ _ eD, small1000 (by omega), acc ++ [.ref T1], ?_⟩
              rw [ext_out hno]
              exact growF nD (s4.trans s5) (s5 _ _ eD) (hpa.kp (same_kp s5)) hT1' od1
            · cases e
            · have s6 := same_upd (.frz o2 (.tup (one.map V.int ++ [.int (0 + (j : Int))]))) nT2
              have hT2' : (upd (upd H3 T1 (.frz o1 (.tup [.int (0 + (j : Int))]))) T2 (.frz o2 (.tup (one.map V.int ++ [.int (0 + (j : Int))])))) T2 = some (.frz o2 (.tup ((one ++ [(j : Int)]).map V.int))) := by
                rw [upd_same, List.map_append, Int.zero_add]
                rfl
              refine ⟨acc, s6 _ _ (s5 _ _ eD), small1000 (by omega), acc ++ [.ref T2], ?_⟩
              rw [ext_out hno]
              exact growF nD (s4.trans (s5.trans s6)) (s6 _ _ (s5 _ _ eD)) ((hpa.kp (same_kp s5)).kp (same_kp s6)) hT2' od2
          · have hin : (j : Int) ∈ one := by
              by_cases z : (j : Int) ∈ one
              · exact z
              · exfalso
                apply c
                show (!inV (.int (0 + (j : Int))) (one.map V.int)) = true
                rw [inV_int, Int.zero_add, decide_eq_false z]
                rfl
            refine ⟨acc, s4, eD, ?_⟩
            rw [ext_in hin]
            exact hpa
        · rintro H3 ⟨acc, s4, eD, hpa⟩
          have en : (n : Int).toNat = n := by omega
          rw [en] at hpa
          have hal := paired_len hpa
          have hel := ext_length n one
          have hb := step_small (k := k) (i := i) n5 (by omega)
          refine ⟨mA, D, ms, acc, rfl, rfl, s4 _ _ em, eD, by rw [sizeLine_eq]; omega, fun M nM => ?_⟩
          have s5 := same_upd (.lst (ms ++ acc)) nM
          refine ⟨M, ms ++ acc, _, rfl, s3.trans (s4.trans s5), upd_same, ?_⟩
          rw [List.take_add_one, ho1]
          show OrdsAt _ _ (ordStep n ((ordAt n k).take i ++ [one]))
          rw [step_snoc]
          exact paired_app ((hpm.kp (same_kp s4)).kp (same_kp s5)) (hpa.kp (same_kp s5))
      · rintro σ H2 ⟨mA, ms, y4, rfl, s3, em, hpm⟩
        rw [List.take_of_length_le (Nat.le_of_eq (paired_len hp1).symm)] at hpm
        exact ⟨_, rfl, mA, ms, _, _, _, rfl, s1.trans s3, em, hpm⟩
    · rintro σ H1 ⟨fA, xs, y2, y3, y4, rfl, s1, e1, hp1⟩
      have en : (n : Int).toNat = n := by omega
      rw [en] at hp1
      exact ⟨_, rfl, q fA H1 xs s1 e1 hp1⟩
end
end K61

namespace K61
open PySem PySem.Spec PyProof.Rows L2
/-! ### the names' dict -/
def prs (order : List Int) (i : Nat) : List (Key × V) := (List.range i).map fun j => (Sum.inl (order.getD j 0), V.int (j : Nat))
theorem prs_succ (order : List Int) (i : Nat) : prs order (i + 1) = prs order i ++ [(Sum.inl (order.getD i 0), V.int (i : Nat))] := by
  unfold prs
  rw [List.range_succ, List.map_append]
  rfl
theorem merge_snoc (l : List (Key × V)) (k : Key) (v : V) : mergeK [] (l ++ [(k, v)]) = putK (mergeK [] l) k v := by
  unfold mergeK
  rw [List.foldl_append]
  rfl
theorem val_prs {order : List Int} (hn : order.Nodup) : ∀ i, i ≤ order.length → ∀ j (hj : j < i) (hl : j < order.length), valV (mergeK [] (prs order i)) (Sum.inl order[j]) = some (V.int (j : Nat))
  | 0, _, j, hj, _ => absurd hj (Nat.not_lt_zero _)
  | i + 1, hi, j, hj, hl => by
    have hil : i < order.length := hi
    have eg : order.getD i 0 = order[i] := by
      rw [List.getD_eq_getElem?_getD, List.getElem?_eq_getElem hil]
      rfl
    rw [prs_succ, merge_snoc, valV_put, eg]
    by_cases e : j = i
    · subst e
      rw [if_pos rfl]
    · have ne : ¬ (Sum.inl order[j] : Key) = Sum.inl order[i] := fun z => by
        have z' : order[j] = order[i] := Sum.inl.inj z
        exact e ((List.getElem_inj hn).mp z')
      rw [if_neg ne]
      exact val_prs hn i (Nat.le_of_lt hil) j (by omega) hl
theorem val_idx {n : Nat} {order : List Int} (h : Row n n order) {b : Int} (h0 : 0 ≤ b) (h1 : b < n) : valV (mergeK [] (prs order n)) (Sum.inl b) = some (V.int (idx order b)) := by
  have hl : order.idxOf b < order.length := by rw [h.1]; exact h.idx_lt h0 h1
  have e : order[order.idxOf b] = b := List.getElem_idxOf hl
  have q := val_prs h.2.1 n (Nat.le_of_eq h.1.symm) (order.idxOf b) (h.idx_lt h0 h1) hl
  rw [e] at q
  exact q
/-! ### what is sorted -/
theorem perm_paired {α β : Type} {F : α → β → Prop} {xs ys : List α} (h : ys.Perm xs) : ∀ {L : List β}, Paired F xs L → ∃ qs, Paired F ys qs ∧ qs.Perm L := by
  induction h with
  | nil => exact fun p => ⟨_, p, List.Perm.refl _⟩
  | cons x _ ih =>
    intro L p
    cases p with
    | cons r t =>
      obtain ⟨qs, p1, p2⟩ := ih t
      exact ⟨_, .cons r p1, p2.cons _⟩
  | swap x y l =>
    intro L p
    cases p with
    | cons r t =>
      cases t with
      | cons r' t' => exact ⟨_, .cons r' (.cons r t'), List.Perm.swap _ _ _⟩
  | trans _ _ ih1 ih2 =>
    intro L p
    obtain ⟨qs, p1, p2⟩ := ih2 p
    obtain ⟨rs, p3, p4⟩ := ih1 p1
    exact ⟨rs, p3, p4.trans p2⟩
theorem pairwise_paired {α β : Type} {F : α → β → Prop} {R : α → α → Prop} {S : β → β → Prop} (h : ∀ x y n m, R x y → F x n → F y m → S n m) : ∀ {ys : List α} {qs : List β}, ys.Pairwise R → Paired F ys qs → qs.Pairwise S
  | _, _, _, .nil => .nil
  | _, _, hp, .cons r t => by
    rw [List.pairwise_cons] at hp
    refine List.pairwise_cons.mpr ⟨fun m hm => ?_, pairwise_paired h hp.2 t⟩
    have key : ∀ {ys : List _} {qs : List _}, Paired F ys qs → m ∈ qs → ∃ y, y ∈ ys ∧ F y m := by
      intro ys qs p
      induction p with
      | nil => intro z; cases z
      | cons r' _ ih =>
        intro z
        rcases List.mem_cons.mp z with e | z
        · subst e
          exact ⟨_, List.mem_cons_self, r'⟩
        · obtain ⟨y, h1, h2⟩ := ih z
          exact ⟨y, List.mem_cons_of_mem _ h1, h2⟩
    obtain ⟨y, h1, h2⟩ := key t hm
    exact h _ _ _ _ (hp.1 y h1) r h2
theorem sorted_is {K : PySem.W.Frag} {H : Hp} {n : Nat} {xs ys : List V} {L : List (List Int)} (hn : n ≤ 8) (ok : AllOk n L) (hp : PipesAt H xs L) (h : ys.Perm xs)
    (hs : ys.Pairwise fun x y => ∀ n m, TupI K H x n → TupI K H y m → TS.code 100000 n ≤ TS.code 100000 m) : PipesAt H ys (srt L) := by
  obtain ⟨qs, p1, p2⟩ := perm_paired h hp
  have hq : qs.Pairwise fun x y => TS.code 100000 x ≤ TS.code 100000 y := pairwise_paired (F := PipeAt H) (fun x y n m r ⟨t, e1, h1⟩ ⟨u, e2, h2⟩ => r n m ⟨t, e1, SqT.of h1⟩ ⟨u, e2, SqT.of h2⟩) hs p1
  rw [← srt_one hn ok p2 hq]
  exact p1
section
variable {P : Program} {w : World} {K : PySem.W.Frag} {mg : Str → Option Value} {base : Heap} {f f1 f2 f3 : Addr} {fd fd1 fd2 fd3 : FuncData}
/-! ### named -/
def spNamed : Sp := fun vs H Q _ => ∃ (v : V) (ot : Addr) (n : Nat) (ps : List (List Int)) (order : List Int), vs = [v, .ref ot] ∧ FlowAt H v n ps ∧ H ot = some (.tup (order.map V.int)) ∧ FlowOk n ps ∧ Row n n order ∧
  ∀ v' H', Same H H' → FlowAt H' v' n (nm order ps) → Q v' H'
theorem ok_named (F : Fun K "named" "named" sNamed f fd) (B : Bn mg) : FnOk P w K mg base CX0 1 f fd ["flow", "order"] spNamed := by
  refine F.ok scNamed (fun vs H Q E h => ?_) (fun cdv A outer s H vs Q E hr h => ?_)
  · obtain ⟨v, ot, n, ps, order, rfl, _⟩ := h
    rfl
  · obtain ⟨v, ot, n, ps, order, rfl, ⟨ft, pt, pvs, rfl, hft, hpt, hps⟩, hot, ok, hrow, q⟩ := h
    have hu := hu_of hr
    refine ⟨_, pss_cons (ps_set (i := 2) scNamed.nd rfl (Or.inr rfl) (pe_callTy (call_dictP rfl) rfl B.dict bt_dict (pa_cons
        (pe_lc (own := [("k", 3), ("box", 4)]) (g := gTup K 2 (gCons (gName 3) (gCons (gName 4) gNil))) (by rfl) scNamed.nd (pi_enumT rfl B.enum (pa_cons (pv 1) pa_nil))
          (blkOk_by (N := ["flow", "order", "names", "k", "box", "pipe"]) (sc := defScope sNamed) (by decide +kernel))
          (fun _ _ _ _ _ => pg_tup rfl (pgs_cons (pg_name (i := 3) scNamed.nd rfl (Or.inl rfl)) (pgs_cons (pg_name (i := 4) scNamed.nd rfl (Or.inl rfl)) pgs_nil)))
          (fun _ _ _ _ _ => pts_nil) (fun _ _ _ _ _ => pe_tup (pa_cons (pv 4) (pa_cons (pv 3) pa_nil)))) pa_nil)))
      (pss_one (ps_ret (pe_tup (pa_cons (pe_ix ix_tup (pv 0) pe_int (fun _ _ => rfl)) (pa_cons (pe_callTy call_tuple_of rfl B.tuple bt_tuple (pa_cons (pe_callB (cr_sortT (d := 5) (B := 100000) (by decide)) rfl B.sorted bt_sorted (pa_cons
        (pe_lc (own := [("pipe", 5)]) (g := gName 5) (by rfl) scNamed.nd (pi_tup (pe_ix ix_tup (pv 0) pe_int (fun _ _ => rfl)))
          (blkOk_by (N := ["flow", "order", "names", "k", "box", "pipe"]) (sc := defScope sNamed) (by decide +kernel))
          (fun _ _ _ _ _ => pg_name (i := 5) scNamed.nd rfl (Or.inl rfl)) (fun _ _ _ _ _ => pts_nil)
          (fun _ _ _ _ _ => pe_op (r := rCatA K) op_catA (pe_tup (pa_cons (pe_dget hu (pv 2) (pe_ix (r := rIxT K) ix_tup (pv 5) pe_int (fun _ _ => rfl)) (fun _ _ => rfl)) (pa_cons (pe_dget hu (pv 2) (pe_ix (r := rIxT K) ix_tup (pv 5) pe_int (fun _ _ => rfl)) (fun _ _ => rfl)) pa_nil)))
            (pe_slice (r := rSlA K) sl_tupA (pv 5) (po_some pe_int) po_none))) pa_nil)) pa_nil)) pa_nil))))), ?_⟩
    have hol : order.length = n := hrow.1
    have holm : (order.map V.int).length = n := by rw [List.length_map, hol]
    -- names = dict([(box, k) for k, box in enumerate(order)])
    refine ⟨_, rfl, ot, _, rfl, SqT.of hot, fun D nD => ?_⟩
    refine lc_it (walk_enumT (items := order.map V.int)) (fun i H' => ∃ ds : List Addr, Same H H' ∧ H' D = some (.lst (ds.map V.ref)) ∧ Paired (fun t (kv : Key × V) => H' t = some (.tup [kV kv.1, kv.2])) ds (prs order i))
      ⟨[], same_upd _ nD, upd_same, .nil⟩ (fun i H' _ ⟨_, z, _⟩ => SqT.of (z _ _ hot)) (fun i x H1 H2 hi hP hY => ?_) ?_
    · obtain ⟨ds, s1, e1, hd1⟩ := hP
      obtain ⟨T, x1, x2, rfl, nT, rfl, ex1, ex2⟩ := hY
      have ex1' : x1 = .int (i : Nat) := (Option.some.inj ex1).symm
      have hi' : i < order.length := by omega
      have ex2' : x2 = .int order[i] := by
        have ex3 : (order.map V.int)[i]? = some x2 := ex2
        rw [List.getElem?_map, List.getElem?_eq_getElem hi'] at ex3
        exact (Option.some.inj ex3).symm
      subst ex1'
      subst ex2'
      have s2 := same_upd (.tup [.int (i : Nat), .int order[i]]) nT
      refine ⟨T, [.int (i : Nat), .int order[i]], rfl, SqT.of upd_same, rfl, .int (i : Nat), [.int order[i]], rfl, .int order[i], [], rfl, rfl, rfl, _, rfl, _, rfl, by show 2 ≤ sizeLine; decide, fun T2 nT2 => ?_⟩
      have s3 := same_upd (.tup [.int order[i], .int (i : Nat)]) nT2
      have s4 := s2.trans s3
      have e4 := s4 _ _ e1
      have hdl := paired_len hd1
      have hpl : (prs order i).length = i := by simp [prs]
      have nT2D : T2 ≠ D := (ne_of_none (s2 _ _ e1) nT2).symm
      refine ⟨ds.map V.ref, e4, small1000 (by rw [List.length_map]; have := ok.n5; omega), ds ++ [T2], fun b o e => ?_, ?_, ?_⟩
      · rw [upd_ne (ne_of_none e nD)]
        exact s4 _ _ (s1 _ _ e)
      · rw [upd_same, List.map_append]
        rfl
      · rw [prs_succ]
        have keep : ∀ (t : Addr) (xs : List V), H1 t = some (.tup xs) → (upd (upd (upd H1 T (.tup [.int (i : Nat), .int order[i]])) T2 (.tup [.int order[i], .int (i : Nat)])) D (.lst (ds.map V.ref ++ [.ref T2]))) t = some (.tup xs) := fun t xs e => by
          rw [upd_ne (ne_of e e1 (by intro z; cases z))]
          exact s4 _ _ e
        refine paired_app (Paired.mapP hd1 fun t kv e => keep t _ e) (.cons ?_ .nil)
        have eg : order.getD i 0 = order[i] := by
          rw [List.getD_eq_getElem?_getD, List.getElem?_eq_getElem hi']
          rfl
        rw [upd_ne nT2D, upd_same, eg]
        rfl
    rintro H1 ⟨ds, s1, e1, hd1⟩
    rw [holm] at hd1
    refine ⟨D, ds, prs order n, rfl, SqL.of e1, Paired.mapP hd1 fun t kv e => SqT.of e, fun dA ndA => ?_⟩
    obtain ⟨H2, hH2⟩ : ∃ H2, H2 = upd H1 dA (.dK (mergeK [] (prs order n))) := ⟨_, rfl⟩
    have sD : Same H1 H2 := by rw [hH2]; exact same_upd _ ndA
    have eD : H2 dA = some (.dK (mergeK [] (prs order n))) := by rw [hH2]; exact upd_same
    rw [← hH2]
    clear hH2
    have s2 := s1.trans sD
    -- flow[0]
    refine ⟨_, rfl, ft, _, 0, .int n, rfl, rfl, SqT.of (s2 _ _ hft), rfl, ?_⟩
    -- [.. for pipe in flow[1]]
    refine ⟨_, rfl, ft, _, 1, .ref pt, rfl, rfl, SqT.of (s2 _ _ hft), rfl, pt, rfl, ⟨_, SqT.of (s2 _ _ hpt)⟩, fun D2 nD2 => ?_⟩
    have hpvl := paired_len hps
    refine lc_tup (K := K) (a := pt) (xs := pvs) (fun i H' => ∃ acc, Same H2 H' ∧ H' D2 = some (.lst acc) ∧ PipesAt H' acc ((ps.take i).map (rn order))) ⟨[], same_upd _ nD2, upd_same, .nil⟩ (fun i H' _ ⟨_, z, _⟩ => SqT.of (z _ _ (s2 _ _ hpt))) (fun i x H3 hx hP => ?_) ?_
    · obtain ⟨acc, s3, e3, hpa⟩ := hP
      obtain ⟨p, hp1, T, rfl, hT⟩ := paired_at hps hx
      obtain ⟨a, b, g, e, c, rfl, ha, hb, hgec⟩ := ok.ok p (List.mem_of_getElem? hp1)
      have hT3 := s3 _ _ (s2 _ _ hT)
      have eD3 := s3 _ _ eD
      have ga := DGet.k (k := Sum.inl a) eD3
      rw [val_idx hrow ha.1 ha.2] at ga
      have gb := DGet.k (k := Sum.inl b) eD3
      rw [val_idx hrow hb.1 hb.2] at gb
      refine ⟨rfl, _, rfl, _, rfl, T, _, 0, .int a, rfl, rfl, SqT.of hT3, rfl, dA, .int (idx order a), rfl, ga, _, rfl, _, rfl, T, _, 1, .int b, rfl, rfl, SqT.of hT3, rfl, dA, .int (idx order b), rfl, gb, by show 2 ≤ sizeLine; decide, fun T1 nT1 => ?_⟩
      have s4 := same_upd (.tup [.int (idx order a), .int (idx order b)]) nT1
      have hT4 := s4 _ _ hT3
      refine ⟨_, rfl, 2, rfl, T, _, rfl, SqT.of hT4, fun z => ?_, fun _ T2 nT2 => ?_⟩
      · have z1 := z.1
        rw [show (2 : Int) = ((2 : Nat) : Int) from rfl, HT.sIx_nat] at z1
        exact absurd z1 (by simp)
      · have ec : cutV ([a, b, g, e, c].map V.int) (some 2) none = [.int g, .int e, .int c] := cut_tail ([a, b, g, e, c].map V.int) (k := 2) (by simp)
        rw [ec]
        have s5 := same_upd (.tup [.int g, .int e, .int c]) nT2
        refine ⟨T1, T2, _, _, rfl, rfl, SqT.of (s5 _ _ upd_same), SqT.of upd_same, by show 5 ≤ sizeLine; decide, (fun z => (by cases z)), (fun _ z => (by cases z)), fun _ _ T3 nT3 => ?_⟩
        have s6 := same_upd (.tup ([.int (idx order a), .int (idx order b)] ++ [.int g, .int e, .int c])) nT3
        have sA := s4.trans (s5.trans s6)
        have hal := paired_len hpa
        have hlt : (List.map (rn order) (ps.take i)).length ≤ ps.length := by
          rw [List.length_map, List.length_take]
          exact Nat.min_le_right _ _
        refine ⟨acc, sA _ _ e3, small1000 (by have := ok.few; omega), acc ++ [.ref T3], ?_⟩
        have ei : (ps.take (i + 1)).map (rn order) = (ps.take i).map (rn order) ++ [rn order [a, b, g, e, c]] := by
          rw [List.take_add_one, hp1, List.map_append]
          rfl
        rw [ei]
        exact grow nD2 (s3.trans sA) (sA _ _ e3) (hpa.kp (same_kp sA)) upd_same
    rintro H3 ⟨acc, s3, e3, hpa⟩
    rw [List.take_of_length_le (Nat.le_of_eq hpvl.symm)] at hpa
    have okm := map_ok hrow ok.ok
    have hal := paired_len hpa
    rw [List.length_map] at hal
    have hfew := ok.few
    have n8 : n ≤ 8 := by have := ok.n5; omega
    refine ⟨D2, acc, rfl, SqL.of e3, by omega, fun x hx => ?_, fun ys S hperm hup nS => ?_⟩
    · obtain ⟨p, hp, t, e, ht⟩ := paired_mem hpa hx
      exact ⟨p, ⟨t, e, SqT.of ht⟩, ((okm p hp).bd n8).1, ((okm p hp).bd n8).2⟩
    have hys := sorted_is n8 okm hpa hperm hup
    have s4 := same_upd (.lst ys) nS
    refine ⟨S, ys, rfl, .inl ⟨SqL.of upd_same, fun T nT => ?_⟩⟩
    have s5 := same_upd (.tup ys) nT
    refine ⟨by show 2 ≤ sizeLine; decide, fun T2 nT2 => ?_⟩
    have s6 := same_upd (.tup [.int n, .ref T]) nT2
    exact q _ _ (s2.trans (s3.trans (s4.trans (s5.trans s6)))) ⟨T2, T, ys, rfl, upd_same, s6 _ _ upd_same, hys.kp (same_kp (s4.trans (s5.trans s6)))⟩
end
end K61

namespace K61
open PySem PySem.Spec PyProof.Rows L2
/-! ### flows as data -/
def pipeD (p : List Int) : PyData := .tuple (p.map .int)
def flowD (n : Nat) (ps : List (List Int)) : PyData := .tuple [.int n, .tuple (ps.map pipeD)]
theorem dp_ints {K : PySem.W.Frag} {H : Hp} : ∀ ns : List Int, DpAll K H (ns.map V.int) (ns.map .int)
  | [] => .nil
  | n :: ns => .cons (.int n) (dp_ints ns)
theorem PipeAt.dp {K : PySem.W.Frag} {H : Hp} {v : V} {p : List Int} (h : PipeAt H v p) : Dp K H v (pipeD p) := by
  obtain ⟨t, rfl, h⟩ := h
  exact .tup (SqT.of h) (dp_ints p)
theorem PipesAt.dp {K : PySem.W.Frag} {H : Hp} : ∀ {vs : List V} {ps : List (List Int)}, PipesAt H vs ps → DpAll K H vs (ps.map pipeD)
  | _, _, .nil => .nil
  | _, _, .cons r t => .cons r.dp (PipesAt.dp t)
theorem FlowAt.dp {K : PySem.W.Frag} {H : Hp} {v : V} {n : Nat} {ps : List (List Int)} (h : FlowAt H v n ps) : Dp K H v (flowD n ps) := by
  obtain ⟨t, pt, vs, rfl, h1, h2, h3⟩ := h
  exact .tup (SqT.of h1) (.cons (.int n) (.cons (.tup (SqT.of h2) h3.dp) .nil))
theorem flows_dp {K : PySem.W.Frag} {H : Hp} {n : Nat} : ∀ {vs : List V} {fs : List (List (List Int))}, Paired (fun v qs => FlowAt H v n qs) vs fs → DpAll K H vs (fs.map (flowD n))
  | _, _, .nil => .nil
  | _, _, .cons r t => .cons r.dp (flows_dp t)
theorem depth_pipes : ∀ ps : List (List Int), PyData.depthAll (ps.map pipeD) ≤ 1
  | [] => Nat.zero_le _
  | p :: ps => by
    have ih := depth_pipes ps
    have e : PyData.depth (pipeD p) = 1 := by
      show PyData.depth (.tuple (p.map .int)) = 1
      rw [PyData.depth, PySem.W.depth_ints]
    show PyData.depthAll (pipeD p :: ps.map pipeD) ≤ 1
    rw [PyData.depthAll, e]
    exact Nat.max_le.mpr ⟨Nat.le_refl _, ih⟩
theorem depth_flow (n : Nat) (ps : List (List Int)) : (flowD n ps).depth ≤ 3 := by
  have h := depth_pipes ps
  show PyData.depth (.tuple [.int n, .tuple (ps.map pipeD)]) ≤ 3
  simp only [PyData.depth, PyData.depthAll]
  omega
theorem depth_flows (n : Nat) : ∀ fs : List (List (List Int)), PyData.depthAll (fs.map (flowD n)) ≤ 3
  | [] => Nat.zero_le _
  | f :: fs => by
    have ih := depth_flows n fs
    have h := depth_flow n f
    show PyData.depthAll (flowD n f :: fs.map (flowD n)) ≤ 3
    rw [PyData.depthAll]
    exact Nat.max_le.mpr ⟨h, ih⟩
theorem lay_ints : ∀ ns : List Int, PyData.canLayAll0 (ns.map .int) = true
  | [] => rfl
  | n :: ns => by
    show PyData.canLayAll0 (.int n :: ns.map .int) = true
    rw [PyData.canLayAll0, lay_ints ns]
    rfl
theorem lay_pipes : ∀ ps : List (List Int), PyData.canLayAll0 (ps.map pipeD) = true
  | [] => rfl
  | p :: ps => by
    show PyData.canLayAll0 (pipeD p :: ps.map pipeD) = true
    have e : PyData.canLay0 (pipeD p) = true := by
      show PyData.canLay0 (.tuple (p.map .int)) = true
      rw [PyData.canLay0]
      exact lay_ints p
    rw [PyData.canLayAll0, lay_pipes ps, e]
    rfl
theorem lay_flow (n : Nat) (ps : List (List Int)) : (flowD n ps).canLay0 = true := by
  show PyData.canLay0 (.tuple [.int n, .tuple (ps.map pipeD)]) = true
  simp only [PyData.canLay0, PyData.canLayAll0, lay_pipes ps, Bool.and_true]
theorem shaped_flow (n : Nat) (ps : List (List Int)) : SeqAt.shaped (flowD n ps) = true := by
  unfold SeqAt.shaped
  rw [lay_flow, decide_eq_true (Nat.le_trans (depth_flow n ps) (by decide))]
  rfl
theorem shaped_ints (ns : List Int) : SeqAt.shaped (.list (ns.map .int)) = true := by
  unfold SeqAt.shaped
  have e : PyData.depth (.list (ns.map .int)) = 1 := by rw [PyData.depth, PySem.W.depth_ints]
  rw [PyData.canLay0, lay_ints, e]
  rfl
theorem alike_pipes : ∀ ps qs : List (List Int), PySem.W.alikeAll (ps.map pipeD) (qs.map pipeD) = true
  | [], _ => by simp [PySem.W.alikeAll]
  | _ :: _, [] => by simp [PySem.W.alikeAll]
  | p :: ps, q :: qs => by
    show PySem.W.alikeAll (pipeD p :: ps.map pipeD) (pipeD q :: qs.map pipeD) = true
    have e : PySem.W.alike (pipeD p) (pipeD q) = true := by
      show PySem.W.alike (.tuple (p.map .int)) (.tuple (q.map .int)) = true
      rw [PySem.W.alike]
      exact PySem.W.alike_ints p q
    rw [PySem.W.alikeAll, e, alike_pipes ps qs]
    rfl
theorem alike_flow (n : Nat) (ps qs : List (List Int)) : PySem.W.alike (flowD n ps) (flowD n qs) = true := by
  show PySem.W.alike (.tuple [.int n, .tuple (ps.map pipeD)]) (.tuple [.int n, .tuple (qs.map pipeD)]) = true
  simp only [PySem.W.alike, PySem.W.alikeAll, alike_pipes ps qs, Bool.and_true]
theorem alike_flows (n : Nat) (fs : List (List (List Int))) : PySem.W.AlikeAll (fs.map (flowD n)) := by
  refine ⟨fun x hx y hy => ?_, fun x hx => ?_⟩
  · obtain ⟨a, _, rfl⟩ := List.mem_map.mp hx
    obtain ⟨b, _, rfl⟩ := List.mem_map.mp hy
    exact alike_flow n a b
  · obtain ⟨a, _, rfl⟩ := List.mem_map.mp hx
    intro z
    cases z
/-! ### one flow, one row of signs -/
open PySem.W (keyToks keyToksAll dataLt minD)
theorem toks_ints : ∀ (xs ys : List Int) (l m : List (Int ⊕ List Nat)), keyToksAll (xs.map .int) ++ l = keyToksAll (ys.map .int) ++ m → xs = ys ∧ l = m
  | [], [], l, m, h => by
    have h' : Sum.inl 0 :: l = Sum.inl 0 :: m := h
    injection h' with _ h'
    exact ⟨rfl, h'⟩
  | [], y :: ys, l, m, h => by
    exfalso
    have h' : (Sum.inl 0 : Int ⊕ List Nat) :: l = Sum.inl 1 :: ((keyToks (.int y) ++ keyToksAll (ys.map .int)) ++ m) := h
    injection h' with h1 _
    exact absurd (Sum.inl.inj h1) (by decide)
  | x :: xs, [], l, m, h => by
    exfalso
    have h' : (Sum.inl 1 : Int ⊕ List Nat) :: ((keyToks (.int x) ++ keyToksAll (xs.map .int)) ++ l) = Sum.inl 0 :: m := h
    injection h' with h1 _
    exact absurd (Sum.inl.inj h1) (by decide)
  | x :: xs, y :: ys, l, m, h => by
    have h' : (Sum.inl 1 : Int ⊕ List Nat) :: (Sum.inl x :: (keyToksAll (xs.map .int) ++ l)) = Sum.inl 1 :: (Sum.inl y :: (keyToksAll (ys.map .int) ++ m)) := h
    injection h' with _ h2
    injection h2 with h3 h4
    obtain ⟨e1, e2⟩ := toks_ints xs ys l m h4
    exact ⟨by rw [Sum.inl.inj h3, e1], e2⟩
theorem toks_pipes : ∀ (ps qs : List (List Int)) (l m : List (Int ⊕ List Nat)), keyToksAll (ps.map pipeD) ++ l = keyToksAll (qs.map pipeD) ++ m → ps = qs ∧ l = m
  | [], [], l, m, h => by
    have h' : Sum.inl 0 :: l = Sum.inl 0 :: m := h
    injection h' with _ h'
    exact ⟨rfl, h'⟩
  | [], q :: qs, l, m, h => by
    exfalso
    have h' : (Sum.inl 0 : Int ⊕ List Nat) :: l = Sum.inl 1 :: ((keyToks (pipeD q) ++ keyToksAll (qs.map pipeD)) ++ m) := h
    injection h' with h1 _
    exact absurd (Sum.inl.inj h1) (by decide)
  | p :: ps, [], l, m, h => by
    exfalso
    have h' : (Sum.inl 1 : Int ⊕ List Nat) :: ((keyToks (pipeD p) ++ keyToksAll (ps.map pipeD)) ++ l) = Sum.inl 0 :: m := h
    injection h' with h1 _
    exact absurd (Sum.inl.inj h1) (by decide)
  | p :: ps, q :: qs, l, m, h => by
    have h' : (Sum.inl 1 : Int ⊕ List Nat) :: ((keyToksAll (p.map .int) ++ keyToksAll (ps.map pipeD)) ++ l) = Sum.inl 1 :: ((keyToksAll (q.map .int) ++ keyToksAll (qs.map pipeD)) ++ m) := h
    injection h' with _ h2
    rw [List.append_assoc, List.append_assoc] at h2
    obtain ⟨e1, e2⟩ := toks_ints p q _ _ h2
    obtain ⟨e3, e4⟩ := toks_pipes ps qs l m e2
    exact ⟨by rw [e1, e3], e4⟩
theorem toks_flow {n : Nat} {ps qs : List (List Int)} (h : keyToks (flowD n ps) = keyToks (flowD n qs)) : ps = qs := by
  have h' : (Sum.inl 1 : Int ⊕ List Nat) :: (Sum.inl (n : Int) :: (Sum.inl 1 :: (keyToksAll (ps.map pipeD) ++ [Sum.inl 0]))) = Sum.inl 1 :: (Sum.inl (n : Int) :: (Sum.inl 1 :: (keyToksAll (qs.map pipeD) ++ [Sum.inl 0]))) := h
  injection h' with _ h2
  injection h2 with _ h3
  injection h3 with _ h4
  exact (toks_pipes ps qs _ _ h4).1
theorem flowD_inj {n : Nat} {ps qs : List (List Int)} (h : flowD n ps = flowD n qs) : ps = qs := toks_flow (congrArg keyToks h)
/-! ### the least of some flows -/
theorem fold_low {α : Type} {lt : α → α → Bool} (tr : ∀ a b c, lt a b = true → lt b c = true → lt a c = true) (nt : ∀ a b c, lt a c = true → lt a b = true ∨ lt b c = true) (ir : ∀ a, lt a a = false) :
    ∀ (xs : List α) (x : α), ∀ y ∈ x :: xs, lt y (xs.foldl (fun a y => if lt y a then y else a) x) = false
  | [], x, y, hy => by
    have e : y = x := by simpa using hy
    subst e
    exact ir y
  | z :: xs, x, y, hy => by
    have ih := fold_low tr nt ir xs (if lt z x then z else x)
    show lt y (xs.foldl (fun a y => if lt y a then y else a) (if lt z x then z else x)) = false
    generalize hr : xs.foldl (fun a y => if lt y a then y else a) (if lt z x then z else x) = r at ih
    have h0 := ih _ List.mem_cons_self
    by_cases hz : lt z x = true
    · rw [if_pos hz] at h0
      rcases List.mem_cons.mp hy with e | hy
      · subst e
        cases q : lt y r with
        | false => rfl
        | true => rw [tr z y r hz q] at h0; cases h0
      · rcases List.mem_cons.mp hy with e | hy
        · subst e
          exact h0
        · exact ih y (List.mem_cons_of_mem _ hy)
    · rw [if_neg hz] at h0
      rcases List.mem_cons.mp hy with e | hy
      · subst e
        exact h0
      · rcases List.mem_cons.mp hy with e | hy
        · subst e
          cases q : lt y r with
          | false => rfl
          | true =>
            rcases nt y x r q with w | w
            · exact absurd w hz
            · rw [w] at h0
              cases h0
        · exact ih y (List.mem_cons_of_mem _ hy)
theorem minD_low (d : PyData) (ds : List PyData) : ∀ y ∈ d :: ds, dataLt y (minD d ds) = false :=
  fold_low (lt := dataLt) (fun a b c h1 h2 => PyProof.Rows.lex_trans (O := itemOrd) _ _ _ h1 h2) (fun a b c h => PyProof.Rows.lex_negTrans (O := itemOrd) _ _ _ h) (fun a => PyProof.Rows.lex_irrefl (O := itemOrd) _) ds d
/-- the least of the flows of n boxes with these pipes -/
def least (n : Nat) (fs : List (List (List Int))) : PyData := match fs.map (flowD n) with
  | [] => .none
  | d :: ds => minD d ds
theorem least_in {n : Nat} {fs : List (List (List Int))} (h : fs ≠ []) : ∃ qs ∈ fs, least n fs = flowD n qs ∧ ∀ x ∈ fs, dataLt (flowD n x) (flowD n qs) = false := by
  cases fs with
  | nil => exact absurd rfl h
  | cons f fs =>
    have hm : minD (flowD n f) (fs.map (flowD n)) ∈ (f :: fs).map (flowD n) := minD_mem _ _
    obtain ⟨qs, h1, h2⟩ := List.mem_map.mp hm
    refine ⟨qs, h1, h2.symm, fun x hx => ?_⟩
    have hl := minD_low (flowD n f) (fs.map (flowD n)) (flowD n x) (List.mem_map.mpr ⟨x, hx, rfl⟩)
    rw [← h2] at hl
    exact hl
theorem least_same {n : Nat} {fs gs : List (List (List Int))} (h : fs ≠ []) (e : ∀ x, x ∈ fs ↔ x ∈ gs) : least n fs = least n gs := by
  have h2 : gs ≠ [] := by
    cases fs with
    | nil => exact absurd rfl h
    | cons f fs =>
      intro z
      have := (e f).mp List.mem_cons_self
      rw [z] at this
      cases this
  obtain ⟨a, a1, a2, a3⟩ := least_in (n := n) h
  obtain ⟨b, b1, b2, b3⟩ := least_in (n := n) h2
  rw [a2, b2]
  have l1 := a3 b ((e b).mpr b1)
  have l2 := b3 a ((e a).mp a1)
  rw [toks_flow (PyProof.Rows.lex_total (O := itemOrd) _ _ l2 l1)]
/-- the forms of a flow, by all orders -/
def forms (n : Nat) (ps : List (List Int)) : List (List (List Int)) := (orders n).map fun q => nm q ps
theorem forms_ne (n : Nat) (ps : List (List Int)) : forms n ps ≠ [] := by
  intro z
  exact orders_ne n (List.map_eq_nil_iff.mp z)
theorem least_named {n : Nat} {p : List Int} {ps : List (List Int)} (hn : n ≤ 8) (hp : Row n n p) (ok : AllOk n ps) : least n (forms n (nm p ps)) = least n (forms n ps) :=
  least_same (forms_ne n _) (forms_same hn hp ok)
end K61

namespace K61
open PySem PySem.Spec PyProof.Rows L2
theorem perm_boxes {n : Nat} {order : List Int} (h : Row n n order) : order.Perm (boxes n) := by
  obtain ⟨b1, b2, b3⟩ := boxes_row n
  refine (List.perm_ext_iff_of_nodup h.2.1 b2).mpr fun a => ⟨fun ha => mem_boxes.mpr (h.2.2 a ha), fun ha => ?_⟩
  obtain ⟨h0, h1⟩ := mem_boxes.mp ha
  exact h.full h0 h1
theorem boxes_up (n : Nat) : (boxes n).Pairwise (· ≤ ·) := by
  unfold boxes
  rw [List.pairwise_map]
  exact (List.pairwise_le_range (n := n)).imp fun {a b} h => by omega
theorem sorted_boxes {n : Nat} {order ns : List Int} (h : Row n n order) (hp : ns.Perm order) (hs : ns.Pairwise (· ≤ ·)) : ns = boxes n :=
  List.Perm.eq_of_pairwise (le := (· ≤ ·)) (fun a b _ _ h1 h2 => Int.le_antisymm h1 h2) hs (boxes_up n) (hp.trans (perm_boxes h))
section
variable {P : Program} {w : World} {K : PySem.W.Frag} {mg : Str → Option Value} {base : Heap} {f f1 f2 f3 f4 f5 : Addr} {fd fd1 fd2 fd3 fd4 fd5 : FuncData}
/-! ### renamed -/
theorem ok_renamed (F : Fun K "renamed" "renamed" sRenamed f fd) (B : Bn mg) (C : Cn mg) (D1 : Df K mg "is_in" sIsIn ["value", "least", "most"] f1 fd1) (D2 : Df K mg "is_pipe" sIsPipe ["value", "boxes"] f2 fd2)
    (D3 : Df K mg "need_flow" sNeed ["flow"] f3 fd3) (D4 : Df K mg "named" sNamed ["flow", "order"] f4 fd4) : FnOk P w K mg base CX0 4 f fd ["flow", "order"] spNamed := by
  have G1 : FnOk P w K mg base CX0 3 f1 fd1 ["value", "least", "most"] spIsIn := (ok_is_in D1.F B).mono (by decide)
  have G3 : FnOk P w K mg base CX0 3 f3 fd3 ["flow"] spNeed := ok_need D3.F B C D1 D2
  have G4 : FnOk P w K mg base CX0 3 f4 fd4 ["flow", "order"] spNamed := (ok_named D4.F B).mono (by decide)
  obtain ⟨t8, h8⟩ := C.boxes
  refine F.ok scRenamed (fun vs H Q E h => ?_) (fun cdv A outer s H vs Q E hr h => ?_)
  · obtain ⟨v, ot, n, ps, order, rfl, _⟩ := h
    rfl
  · obtain ⟨v, ot, n, ps, order, rfl, hf, hot, ok, hrow, q⟩ := h
    refine ⟨_, pss_cons (ps_expr (pe_call G3 hr rfl D3.g D3.F.kp D3.b .nil pass0 (pa_cons (pv 0) pa_nil)))
      (pss_cons (ps_if (PW.pt (pw_or (pt_not (pt_val (pisi B.isi B.tuple bt_tuple (pv 1))))
          (pw_or1 (pt_cmpR (op_neD hr.units) (pe_lc (own := [("box", 2)]) (g := gName 2) (by rfl) scRenamed.nd (pi_tup (pv 1))
            (blkOk_by (N := ["flow", "order", "box"]) (sc := defScope sRenamed) (by decide +kernel))
            (fun _ _ _ _ _ => pg_name (i := 2) scRenamed.nd rfl (Or.inl rfl))
            (fun _ _ _ _ _ => pts_one (pt_not (pt_val (pe_call G1 hr rfl D1.g D1.F.kp D1.b .nil pass0 (pa_cons (pv 2) (pa_cons pe_int (pa_cons (pe_op op_sub (pgi h8) pe_int) pa_nil)))))))
            (fun _ _ _ _ _ => pv 2)) (pe_lst pa_nil) (nomark _)))))
        (pss_one ps_never) pss_nil)
      (pss_cons (ps_if (pt_cmpR (op_neD hr.units) (pe_callB cr_sortedTI rfl B.sorted bt_sorted (pa_cons (pv 1) pa_nil)) (pe_listRg rfl rfl B.list (prg_1 rfl B.range (pe_ix ix_tup (pv 0) pe_int (fun _ _ => rfl)))) (nomark _))
        (pss_one ps_never) pss_nil)
      (pss_one (ps_ret (pe_call G4 hr rfl D4.g D4.F.kp D4.b .nil pass0 (pa_cons (pv 0) (pa_cons (pv 1) pa_nil))))))), ?_⟩
    -- need_flow(flow)
    refine ⟨_, rfl, v, n, ps, rfl, hf, ok, fun H1 s1 => ?_⟩
    -- not isinstance(order, tuple) or [..] != []
    refine ⟨_, rfl, _, .ty "tuple", _, _, _, rfl, .ty "tuple", .base (.tup (s1 _ _ hot)), ky_tt, _, rfl, iteF ?_⟩
    refine ⟨_, rfl, ot, rfl, ⟨_, SqT.of (s1 _ _ hot)⟩, fun D nD => ?_⟩
    refine lc_tup (K := K) (a := ot) (xs := order.map V.int) (fun i H' => Same H1 H' ∧ H' D = some (.lst [])) ⟨same_upd _ nD, upd_same⟩ (fun i H' _ ⟨z, _⟩ => SqT.of (z _ _ (s1 _ _ hot))) (fun i x H2 hx hP => ?_) ?_
    · obtain ⟨s2, e2⟩ := hP
      obtain ⟨b, hb, rfl⟩ : ∃ b, b ∈ order ∧ x = .int b := by
        rw [List.getElem?_map] at hx
        cases e : order[i]? with
        | none => rw [e] at hx; cases hx
        | some b =>
          rw [e] at hx
          exact ⟨b, List.mem_of_getElem? e, (Option.some.inj hx).symm⟩
      have hbd := hrow.2.2 b hb
      have n5 := ok.n5
      refine ⟨rfl, _, rfl, 8, 1, rfl, rfl, b, 0, 8 - 1, rfl, _, rfl, iteNS ⟨hbd.1, by omega⟩ ?_⟩
      exact ⟨s2, e2⟩
    rintro H2 ⟨s2, e2⟩
    refine ⟨by show 0 ≤ sizeLine; decide, fun L nL => ?_⟩
    have s3 := same_upd (.lst []) nL
    refine ⟨.list [], .list [], .lst (SqL.of (s3 _ _ e2)) .nil, .lst (SqL.of upd_same) .nil, rfl, rfl, _, rfl, iteF ?_⟩
    -- sorted(order) != list(range(flow[0]))
    have s4 := s1.trans (s2.trans s3)
    refine ⟨_, rfl, ot, order, rfl, SqT.of (s4 _ _ hot), fun ns S hp hs nS => ?_⟩
    have en := sorted_boxes hrow hp hs
    subst en
    have s5 := same_upd (.lst ((boxes n).map V.int)) nS
    obtain ⟨ft, pt, pvs, rfl, hft, hpt, hps⟩ := hf
    have n5 := ok.n5
    have n1 := ok.n1
    refine ⟨_, rfl, ft, _, 0, .int n, rfl, rfl, SqT.of ((s4.trans s5) _ _ hft), rfl, n, rfl, RgOk.of_le (by decide) (by omega) (by decide) (by omega), fun R nR => ?_⟩
    rw [rgV_boxes]
    have s6 := same_upd (.lst ((boxes n).map V.int)) nR
    have ev : PyData.eqv (.list ((boxes n).map .int)) (.list ((boxes n).map .int)) = true := SeqAt.eqv_refl _ (SeqAt.canLay_of_shaped (shaped_ints (boxes n)))
    refine ⟨.list ((boxes n).map .int), .list ((boxes n).map .int), .lst (SqL.of (s6 _ _ upd_same)) (dp_ints _), .lst (SqL.of upd_same) (dp_ints _), shaped_ints _, shaped_ints _, _, rfl, ?_⟩
    rw [ev]
    refine iteF ?_
    -- return named(flow, order)
    have sA := s4.trans (s5.trans s6)
    exact ⟨_, rfl, _, rfl, .ref ft, ot, n, ps, order, rfl, ⟨ft, pt, pvs, rfl, sA _ _ hft, sA _ _ hpt, hps.kp (same_kp sA)⟩, sA _ _ hot, ok, hrow, fun v' H' s' hv => q v' H' (sA.trans s') hv⟩
/-! ### least_form -/
def spLeast : Sp := fun vs H Q _ => ∃ (v : V) (n : Nat) (ps : List (List Int)), vs = [v] ∧ FlowAt H v n ps ∧ FlowOk n ps ∧ ∀ v' H' qs, Same H H' → FlowAt H' v' n qs → flowD n qs = least n (forms n ps) → Q v' H'
/-- min of a list of flows -/
theorem min_flows {H : Hp} {D : Addr} {n : Nat} {vs : List V} {fs : List (List (List Int))} {Q : VK} (e : H D = some (.lst vs)) (h : Paired (fun v qs => FlowAt H v n qs) vs fs) (ne : fs ≠ []) (q : ∀ v qs, FlowAt H v n qs → flowD n qs = least n fs → Q v H) :
    rMinD K [.ref D] H Q := by
  cases fs with
  | nil => exact absurd rfl ne
  | cons f0 fs =>
    refine ⟨D, vs, flowD n f0, fs.map (flowD n), rfl, SqL.of e, flows_dp h, alike_flows n (f0 :: fs), Nat.le_trans (depth_flows n (f0 :: fs)) (by decide), fun i v hi hm => ?_⟩
    obtain ⟨qs, h1, h2⟩ := paired_at h hi
    refine q v qs h2 ?_
    have h3 : ((f0 :: fs).map (flowD n))[i]? = some (flowD n qs) := by
      rw [List.getElem?_map, h1]
      rfl
    have h4 : ((f0 :: fs).map (flowD n))[i]? = some (PySem.W.minD (flowD n f0) (fs.map (flowD n))) := hm
    rw [h3] at h4
    exact Option.some.inj h4
theorem ok_least (F : Fun K "least_form" "least_form" sLeast f fd) (B : Bn mg) (C : Cn mg) (D1 : Df K mg "is_in" sIsIn ["value", "least", "most"] f1 fd1) (D2 : Df K mg "is_pipe" sIsPipe ["value", "boxes"] f2 fd2)
    (D3 : Df K mg "need_flow" sNeed ["flow"] f3 fd3) (D4 : Df K mg "named" sNamed ["flow", "order"] f4 fd4) (D5 : Df K mg "all_orders" sAllOrd ["many"] f5 fd5) : FnOk P w K mg base CX0 4 f fd ["flow"] spLeast := by
  have G3 : FnOk P w K mg base CX0 3 f3 fd3 ["flow"] spNeed := ok_need D3.F B C D1 D2
  have G4 : FnOk P w K mg base CX0 3 f4 fd4 ["flow", "order"] spNamed := (ok_named D4.F B).mono (by decide)
  have G5 : FnOk P w K mg base CX0 3 f5 fd5 ["many"] spOrd := (ok_all_orders D5.F B).mono (by decide)
  obtain ⟨t6, h6⟩ := C.names
  refine F.ok scLeast (fun vs H Q E h => ?_) (fun cdv A outer s H vs Q E hr h => ?_)
  · obtain ⟨v, n, ps, rfl, _⟩ := h
    rfl
  · obtain ⟨v, n, ps, rfl, hf, ok, q⟩ := h
    refine ⟨_, pss_cons (ps_expr (pe_call G3 hr rfl D3.g D3.F.kp D3.b .nil pass0 (pa_cons (pv 0) pa_nil)))
      (pss_cons (ps_if (pt_cmpR op_gt (pe_ix ix_tup (pv 0) pe_int (fun _ _ => rfl)) (pgi h6) (nomark _)) (pss_one ps_never) pss_nil)
      (pss_one (ps_ret (pe_callB (cr_minD rfl hr.units) rfl B.min bt_min (pa_cons
        (pe_lc (own := [("order", 1)]) (g := gName 1) (by rfl) scLeast.nd (pi_list (pe_call G5 hr rfl D5.g D5.F.kp D5.b .nil pass0 (pa_cons (pe_ix ix_tup (pv 0) pe_int (fun _ _ => rfl)) pa_nil)))
          (blkOk_by (N := ["flow", "order"]) (sc := defScope sLeast) (by decide +kernel))
          (fun _ _ _ _ _ => pg_name (i := 1) scLeast.nd rfl (Or.inl rfl)) (fun _ _ _ _ _ => pts_nil)
          (fun _ _ _ _ _ => pe_call G4 hr rfl D4.g D4.F.kp D4.b .nil pass0 (pa_cons (pv 0) (pa_cons (pv 1) pa_nil)))) pa_nil))))), ?_⟩
    have n5 := ok.n5
    have n1 := ok.n1
    refine ⟨_, rfl, v, n, ps, rfl, hf, ok, fun H1 s1 => ?_⟩
    obtain ⟨ft, pt, pvs, rfl, hft, hpt, hps⟩ := id hf
    refine ⟨_, rfl, ft, _, 0, .int n, rfl, rfl, SqT.of (s1 _ _ hft), rfl, n, 6, rfl, rfl, _, rfl, ite2 (fun c => ?_) (fun _ => ?_)⟩
    · have c1 : (6 : Int) < (n : Int) := of_decide_eq_true c
      exact absurd c1 (by omega)
    refine ⟨_, rfl, ft, _, 0, .int n, rfl, rfl, SqT.of (s1 _ _ hft), rfl, n, rfl, ⟨n1, n5⟩, fun L H2 xs s2 eL hpo => ?_⟩
    refine ⟨L, rfl, ⟨_, SqL.of eL⟩, fun D nD => ?_⟩
    have hxl := paired_len hpo
    have hol := ordAt_length n n
    have hpw : n ^ n ≤ 3125 := by
      have h1 : n ^ n ≤ 5 ^ n := Nat.pow_le_pow_left n5 n
      have h2 : 5 ^ n ≤ 5 ^ 5 := Nat.pow_le_pow_right (by decide) n5
      have h3 : (5 : Nat) ^ 5 = 3125 := by decide
      omega
    refine lc_list (K := K) (a := L) (xs := xs) (fun i H' => ∃ acc, Same H2 H' ∧ H' D = some (.lst acc) ∧ Paired (fun v qs => FlowAt H' v n qs) acc (((orders n).take i).map fun o => nm o ps))
      ⟨[], same_upd _ nD, upd_same, .nil⟩ (fun i H' _ ⟨_, z, _⟩ => SqL.of (z _ _ eL)) (fun i x H3 hx hP => ?_) ?_
    · obtain ⟨acc, s3, e3, hpa⟩ := hP
      obtain ⟨o, ho1, T, rfl, hT⟩ := paired_at hpo hx
      have ho2 : Row n n o := mem_orders.mp (List.mem_of_getElem? ho1)
      have sA := s1.trans (s2.trans s3)
      refine ⟨rfl, _, rfl, _, rfl, .ref ft, T, n, ps, o, rfl, hf.kp (same_kp sA), s3 _ _ hT, ok, ho2, fun v' H4 s4 hv => ?_⟩
      have hal := paired_len hpa
      have htl : (((orders n).take i).map fun o => nm o ps).length ≤ (orders n).length := by
        rw [List.length_map, List.length_take]
        exact Nat.min_le_right _ _
      have hle : (orders n).length ≤ 3125 := Nat.le_trans hol hpw
      refine ⟨acc, s4 _ _ e3, by rw [sizeLine_eq]; omega, acc ++ [v'], fun b u e => ?_, upd_same, ?_⟩
      · rw [upd_ne (ne_of_none e nD)]
        exact s4 _ _ (s3 _ _ e)
      · have ei : ((orders n).take (i + 1)).map (fun o => nm o ps) = ((orders n).take i).map (fun o => nm o ps) ++ [nm o ps] := by
          rw [List.take_add_one, ho1, List.map_append]
          rfl
        rw [ei]
        have kL : Kp H4 (upd H4 D (.lst (acc ++ [v']))) := Kp.lst (s4 _ _ e3)
        exact paired_app (Paired.mapP hpa fun a b z => (z.kp (same_kp s4)).kp kL) (.cons (hv.kp kL) .nil)
    rintro H3 ⟨acc, s3, e3, hpa⟩
    rw [List.take_of_length_le (Nat.le_of_eq hxl.symm)] at hpa
    exact min_flows (K := K) e3 hpa (forms_ne n ps) fun v qs hv he => q v H3 qs (s1.trans (s2.trans s3)) hv he
end
end K61

namespace K61
open PySem PySem.Spec PyProof.Rows L2
/-- the value is this datum of tuples and ints, at most so deep -/
def DtN : Nat → Hp → V → PyData → Prop
  | 0, _, _, _ => False
  | k + 1, H, v, d => (∃ i : Int, v = .int i ∧ d = .int i) ∨ ∃ t vs ds, v = .ref t ∧ d = .tuple ds ∧ H t = some (.tup vs) ∧ Paired (DtN k H) vs ds ∧ vs.length ≤ 1000
theorem DtN.kp : ∀ {k : Nat} {H H' : Hp} {v : V} {d : PyData}, Kp H H' → DtN k H v d → DtN k H' v d
  | 0, _, _, _, _, _, h => h
  | k + 1, H, H', v, d, s, h => by
    rcases h with h | ⟨t, vs, ds, e1, e2, e3, e4, e5⟩
    · exact .inl h
    · exact .inr ⟨t, vs, ds, e1, e2, s.tups _ _ e3, Paired.mapP e4 (fun a b z => DtN.kp s z), e5⟩
theorem dt_ints (H : Hp) : ∀ ns : List Int, Paired (DtN 1 H) (ns.map V.int) (ns.map .int)
  | [] => .nil
  | n :: ns => .cons (.inl ⟨n, rfl, rfl⟩) (dt_ints H ns)
theorem PipeAt.dt {H : Hp} {v : V} {p : List Int} (h : PipeAt H v p) (hl : p.length ≤ 1000) : DtN 2 H v (pipeD p) := by
  obtain ⟨t, rfl, h⟩ := h
  exact .inr ⟨t, _, _, rfl, rfl, h, dt_ints H p, by rw [List.length_map]; exact hl⟩
theorem PipesAt.dt {H : Hp} : ∀ {vs : List V} {ps : List (List Int)}, PipesAt H vs ps → (∀ p ∈ ps, p.length ≤ 1000) → Paired (DtN 2 H) vs (ps.map pipeD)
  | _, _, .nil, _ => .nil
  | _, _, .cons r t, h => .cons (r.dt (h _ List.mem_cons_self)) (PipesAt.dt t fun p hp => h p (List.mem_cons_of_mem _ hp))
theorem FlowAt.dt {H : Hp} {v : V} {n : Nat} {ps : List (List Int)} (h : FlowAt H v n ps) (hl : ps.length ≤ 1000) (hp : ∀ p ∈ ps, p.length ≤ 1000) : DtN 4 H v (flowD n ps) := by
  obtain ⟨t, pt, vs, rfl, h1, h2, h3⟩ := h
  exact .inr ⟨t, _, _, rfl, rfl, h1, .cons (.inl ⟨n, rfl, rfl⟩) (.cons (.inr ⟨pt, vs, _, rfl, rfl, h2, h3.dt hp, by rw [paired_len h3]; exact hl⟩) .nil), by show 2 ≤ 1000; decide⟩
section
variable {P : Program} {w : World} {K : PySem.W.Frag} {mg : Str → Option Value} {base : Heap} {f f1 f2 f3 f4 f5 : Addr} {fd fd1 fd2 fd3 fd4 fd5 : FuncData}
theorem ka_tup : PySem.W.kitAny K (.type "tuple") [.type "tuple", .type "list"] = some true := kitAny_cons ky_tt (fun z => (by cases z)) (fun _ => rfl)
theorem ka_int : PySem.W.kitAny K (.type "int") [.type "tuple", .type "list"] = some false := kitAny_cons ky_it (fun _ => kitAny_cons ky_il (fun _ => kitAny_nil) (fun z => (by cases z))) (fun z => (by cases z))
theorem cls_tl : Paired ClsV [V.ty "tuple", V.ty "list"] [Value.type "tuple", Value.type "list"] := .cons (.ty _) (.cons (.ty _) .nil)
/-! ### _law_alike -/
def spAlike (k : Nat) : Sp := fun vs H Q _ => ∃ (v1 v2 : V) (d : PyData), vs = [v1, v2] ∧ DtN k H v1 d ∧ DtN k H v2 d ∧ ∀ H', Same H H' → Q (.bl true) H'
theorem alike_none : FnOk P w K mg base CX0 0 f fd ["_law_found", "_law_due"] (spAlike 0) := by
  have no : ∀ vs H Q E, ¬ spAlike 0 vs H Q E := fun vs H Q E h => by
    obtain ⟨_, _, _, _, z, _⟩ := h
    exact z
  exact ⟨fun vs H Q E h => absurd h (no vs H Q E), fun A outer s H args us vs Q E _ _ _ _ h => absurd h (no vs H Q E)⟩
theorem ok_alike1 {k : Nat} (D : Df K mg "_law_alike" sAlike ["_law_found", "_law_due"] f fd) (B : Bn mg) (G : FnOk P w K mg base CX0 k f fd ["_law_found", "_law_due"] (spAlike k)) : FnOk P w K mg base CX0 (k + 1) f fd ["_law_found", "_law_due"] (spAlike (k + 1)) := by
  refine D.F.ok scAlike (fun vs H Q E h => ?_) (fun cdv A outer s H vs Q E hr h => ?_)
  · obtain ⟨v1, v2, d, rfl, _⟩ := h
    rfl
  · obtain ⟨v1, v2, d, rfl, h1, h2, q⟩ := h
    refine ⟨_, pss_cons (ps_if (pt_val (pe_callB call_isiT rfl B.isi bt_isi (pa_cons (pv 1) (pa_cons (pe_tup (pa_cons (pty B.tuple bt_tuple) (pa_cons (pty B.list bt_list) pa_nil))) pa_nil))))
        (pss_cons (ps_if (PW.pt (pw_or (pt_not (pt_val (pe_callB call_isiT rfl B.isi bt_isi (pa_cons (pv 0) (pa_cons (pe_tup (pa_cons (pty B.tuple bt_tuple) (pa_cons (pty B.list bt_list) pa_nil))) pa_nil)))))
            (pw_or1 (pt_cmpR op_ne (pisi B.isi B.list bt_list (pv 0)) (pisi B.isi B.list bt_list (pv 1)) (nomark _)))))
          (pss_one ps_never) pss_nil)
        (pss_cons (ps_if (pt_cmpR op_ne (pe_callB call_len_seq rfl B.len bt_len (pa_cons (pv 0) pa_nil)) (pe_callB call_len_seq rfl B.len bt_len (pa_cons (pv 1) pa_nil)) (nomark _)) (pss_one ps_never) pss_nil)
        (pss_one (ps_ret (pe_cmpR (op_eqD hr.units) (pe_lc (own := [("_law_k", 2)]) (g := gName 2) (by rfl) scAlike.nd (pi_range1 rfl B.range (pa_cons (pe_callB call_len_seq rfl B.len bt_len (pa_cons (pv 1) pa_nil)) pa_nil))
            (blkOk_by (N := ["_law_found", "_law_due", "_law_k"]) (sc := defScope sAlike) (by decide +kernel))
            (fun _ _ _ _ _ => pg_name (i := 2) scAlike.nd rfl (Or.inl rfl))
            (fun _ _ _ _ _ => pts_one (pt_not (pt_val (pe_call G hr rfl D.g D.F.kp D.b .nil pass0 (pa_cons (pe_ix (r := rIxT K) ix_tup (pv 0) (pv 2) (fun _ _ => rfl)) (pa_cons (pe_ix (r := rIxT K) ix_tup (pv 1) (pv 2) (fun _ _ => rfl)) pa_nil))))))
            (fun _ _ _ _ _ => pv 2)) (pe_lst pa_nil) (nomark _)))))) pss_nil)
      (pss_cons (ps_if (PW.pt (pw_or (pt_cmpR op_isN (pv 1) pe_non (nomark _)) (pw_or1 (pt_val (pisi B.isi B.str bt_str (pv 1)))))) (pss_one ps_never) pss_nil)
      (pss_one (ps_ret (pe_and (pisi B.isi B.int bt_int (pv 0)) (pe_and (pe_cmpR op_eq (pisi B.isi B.bool bt_bool (pv 0)) (pisi B.isi B.bool bt_bool (pv 1)) (nomark _)) (pe_one (pe_cmpR op_eq (pv 0) (pv 1) (nomark _)))))))), ?_⟩
    rcases h2 with ⟨i, rfl, rfl⟩ | ⟨t2, vs2, ds, rfl, rfl, e2, p2, k2⟩
    · -- ints
      have ev : v1 = .int i := by
        rcases h1 with ⟨j, rfl, e⟩ | ⟨t, vs, ds, _, e, _⟩
        · injection e with e
          rw [e]
        · cases e
      subst ev
      refine ⟨_, rfl, by show 2 ≤ sizeLine; decide, fun T nT => ⟨_, T, _, _, _, _, rfl, upd_same, cls_tl, .base (.int i), ka_int, _, rfl, iteF ?_⟩⟩
      have s1 := same_upd (.tup [.ty "tuple", .ty "list"]) nT
      refine ⟨_, rfl, rfl, _, rfl, iteF ?_⟩
      refine ⟨_, rfl, _, .ty "str", _, _, _, rfl, .ty "str", .base (.int i), ky_is, _, rfl, iteF ?_⟩
      refine ⟨_, rfl, _, .ty "int", _, _, _, rfl, .ty "int", .base (.int i), ky_ii, _, rfl, iteT ?_⟩
      refine ⟨_, rfl, _, .ty "bool", _, _, _, rfl, .ty "bool", .base (.int i), ky_ib, _, rfl, _, .ty "bool", _, _, _, rfl, .ty "bool", .base (.int i), ky_ib, rfl, _, rfl, iteT ?_⟩
      refine ⟨_, rfl, _, rfl, rfl, ?_⟩
      rw [decide_eq_true rfl]
      exact q _ s1
    · -- tuples
      obtain ⟨t1, vs1, rfl, e1, p1⟩ : ∃ t1 vs1, v1 = .ref t1 ∧ H t1 = some (.tup vs1) ∧ Paired (DtN k H) vs1 ds := by
        rcases h1 with ⟨j, _, e⟩ | ⟨t, vs, ds', e0, e, e1, p1, _⟩
        · cases e
        · injection e with e
          subst e
          exact ⟨t, vs, e0, e1, p1⟩
      have l1 := paired_len p1
      have l2 := paired_len p2
      refine ⟨_, rfl, by show 2 ≤ sizeLine; decide, fun T nT => ⟨_, T, _, _, _, _, rfl, upd_same, cls_tl, .base (.tup (same_upd _ nT _ _ e2)), ka_tup, _, rfl, iteT ?_⟩⟩
      have s1 := same_upd (.tup [.ty "tuple", .ty "list"]) nT
      refine ⟨_, rfl, by show 2 ≤ sizeLine; decide, fun T2 nT2 => ⟨_, T2, _, _, _, _, rfl, upd_same, cls_tl, .base (.tup (same_upd _ nT2 _ _ (s1 _ _ e1))), ka_tup, _, rfl, iteF ?_⟩⟩
      have s2 := s1.trans (same_upd (.tup [.ty "tuple", .ty "list"]) nT2)
      refine ⟨_, rfl, _, .ty "list", _, _, _, rfl, .ty "list", .base (.tup (s2 _ _ e1)), ky_tl, _, rfl, _, .ty "list", _, _, _, rfl, .ty "list", .base (.tup (s2 _ _ e2)), ky_tl, rfl, _, rfl, iteF ?_⟩
      refine ⟨_, rfl, t1, _, rfl, .inr (SqT.of (s2 _ _ e1)), _, rfl, t2, _, rfl, .inr (SqT.of (s2 _ _ e2)), rfl, _, rfl, iteNS (congrArg (fun n : Nat => V.int (n : Int)) (l1.trans l2.symm)) ?_⟩
      refine ⟨_, rfl, t2, _, rfl, .inr (SqT.of (s2 _ _ e2)), (vs2.length : Nat), rfl, by omega, by omega, fun D nD => ?_⟩
      refine lc_range (lo := 0) (n := ((vs2.length : Nat) : Int).toNat) (fun i H' => Same _ H' ∧ H' D = some (.lst [])) ⟨same_upd _ nD, upd_same⟩ ?_ ?_
      · rintro i H3 hi ⟨s3, e3⟩
        have hi2 : i < vs2.length := by omega
        have hi1 : i < vs1.length := by omega
        have hid : i < ds.length := by omega
        obtain ⟨x1, hx1, hd1⟩ := paired_at2 p1 (List.getElem?_eq_getElem hid)
        obtain ⟨x2, hx2, hd2⟩ := paired_at2 p2 (List.getElem?_eq_getElem hid)
        have s4 := s2.trans s3
        have ez : (0 : Int) + (i : Int) = ((i : Nat) : Int) := by omega
        refine ⟨rfl, _, rfl, _, rfl, t1, vs1, 0 + (i : Int), x1, rfl, rfl, SqT.of (s4 _ _ e1), at_of ez hx1, _, rfl, _, rfl, t2, vs2, 0 + (i : Int), x2, rfl, rfl, SqT.of (s4 _ _ e2), at_of ez hx2, x1, x2, ds[i], rfl, hd1.kp (same_kp s4), hd2.kp (same_kp s4), fun H4 s5 => ⟨_, rfl, ?_⟩⟩
        exact ⟨s3.trans s5, s5 _ _ e3⟩
      · rintro H3 ⟨s3, e3⟩
        refine ⟨by show 0 ≤ sizeLine; decide, fun L nL => ?_⟩
        have s6 := same_upd (.lst []) nL
        refine ⟨.list [], .list [], .lst (SqL.of (s6 _ _ e3)) .nil, .lst (SqL.of upd_same) .nil, rfl, rfl, ?_⟩
        exact q _ (s2.trans (s3.trans s6))
theorem ok_alike (D : Df K mg "_law_alike" sAlike ["_law_found", "_law_due"] f fd) (B : Bn mg) : ∀ k, FnOk P w K mg base CX0 k f fd ["_law_found", "_law_due"] (spAlike k)
  | 0 => alike_none
  | k + 1 => ok_alike1 D B (ok_alike D B k)
end
end K61

namespace K61
open PySem PySem.Spec PyProof.Rows L2
theorem idx_at {n : Nat} {o : List Int} (h : Row n n o) {a : Int} (h0 : 0 ≤ a) (h1 : a < n) : o[o.idxOf a]? = some a ∧ ∀ m, m < o.idxOf a → o[m]? ≠ some a := by
  have hl : o.idxOf a < o.length := by rw [h.1]; exact h.idx_lt h0 h1
  refine ⟨by rw [List.getElem?_eq_getElem hl, List.getElem_idxOf hl], fun m hm e => ?_⟩
  obtain ⟨hm2, e2⟩ := List.getElem?_eq_some_iff.mp e
  have e3 := h.2.1.idxOf_getElem m hm2
  rw [e2] at e3
  omega
section
variable {P : Program} {w : World} {K : PySem.W.Frag} {mg : Str → Option Value} {base : Heap} {f : Addr} {fd : FuncData}
/-- all the defs of the text -/
structure Tx (K : PySem.W.Frag) (mg : Str → Option Value) : Prop where
  bn : Bn mg
  cn : Cn mg
  isIn : ∃ f fd, Df K mg "is_in" sIsIn ["value", "least", "most"] f fd
  isPipe : ∃ f fd, Df K mg "is_pipe" sIsPipe ["value", "boxes"] f fd
  need : ∃ f fd, Df K mg "need_flow" sNeed ["flow"] f fd
  named : ∃ f fd, Df K mg "named" sNamed ["flow", "order"] f fd
  renamed : ∃ f fd, Df K mg "renamed" sRenamed ["flow", "order"] f fd
  allOrd : ∃ f fd, Df K mg "all_orders" sAllOrd ["many"] f fd
  least : ∃ f fd, Df K mg "least_form" sLeast ["flow"] f fd
  taken : ∃ f fd, Df K mg "_law_taken" sTaken ["_law_row", "_law_many"] f fd
  pick : ∃ f fd, Df K mg "_law_pick" sPick ["_law_row", "_law_things"] f fd
  any : ∃ f fd, Df K mg "_law_any" sAny ["_law_row"] f fd
  gcd : ∃ f fd, Df K mg "_law_gcd" sGcd ["_law_one", "_law_other"] f fd
  flow : ∃ f fd, Df K mg "_law_flow" sFlow ["_law_row", "_law_most", "_law_top"] f fd
  order : ∃ f fd, Df K mg "_law_order" sOrder ["_law_row", "_law_many"] f fd
  orders : ∃ f fd, Df K mg "_law_orders" sOrders ["_law_many"] f fd
  alike : ∃ f fd, Df K mg "_law_alike" sAlike ["_law_found", "_law_due"] f fd
/-! ### the law -/
def spLaw (K : PySem.W.Frag) : Sp := fun vs H Q _ => ∃ (a : Addr) (ns : List Int), vs = [.ref a] ∧ StL K H a (ns.map V.int) ∧ ∀ H', Q (.bl true) H'
theorem ok_law (F : Fun K "law" "law" sLaw f fd) (T : Tx K mg) : FnOk P w K mg base CX0 5 f fd ["_law_script"] (spLaw K) := by
  have B := T.bn
  have C := T.cn
  obtain ⟨fa1, fb1, D1⟩ := T.isIn
  obtain ⟨fa2, fb2, D2⟩ := T.isPipe
  obtain ⟨fa3, fb3, D3⟩ := T.need
  obtain ⟨fa4, fb4, D4⟩ := T.named
  obtain ⟨fa5, fb5, D5⟩ := T.renamed
  obtain ⟨fa6, fb6, D6⟩ := T.allOrd
  obtain ⟨fa7, fb7, D7⟩ := T.least
  obtain ⟨fa8, fb8, D8⟩ := T.taken
  obtain ⟨fa9, fb9, D9⟩ := T.pick
  obtain ⟨fa10, fb10, D10⟩ := T.any
  obtain ⟨fa11, fb11, D11⟩ := T.gcd
  obtain ⟨fa12, fb12, D12⟩ := T.flow
  obtain ⟨fa13, fb13, D13⟩ := T.order
  obtain ⟨fa14, fb14, D14⟩ := T.orders
  obtain ⟨fa15, fb15, D15⟩ := T.alike
  have G5 : FnOk P w K mg base CX0 4 fa5 fb5 ["flow", "order"] spNamed := ok_renamed D5.F B C D1 D2 D3 D4
  have G7 : FnOk P w K mg base CX0 4 fa7 fb7 ["flow"] spLeast := ok_least D7.F B C D1 D2 D3 D4 D6
  have G9 : FnOk P w K mg base CX0 4 fa9 fb9 ["_law_row", "_law_things"] (spPick K) := (ok_pick D9.F B D8).mono (by decide)
  have G10 : FnOk P w K mg base CX0 4 fa10 fb10 ["_law_row"] (spAny K) := (ok_any D10.F B D8).mono (by decide)
  have G12 : FnOk P w K mg base CX0 4 fa12 fb12 ["_law_row", "_law_most", "_law_top"] (spFlow K) := (ok_flow D12.F B D8 D9 D11).mono (by decide)
  have G13 : FnOk P w K mg base CX0 4 fa13 fb13 ["_law_row", "_law_many"] (spOrder K) := (ok_order D13.F B D8).mono (by decide)
  have G14 : FnOk P w K mg base CX0 4 fa14 fb14 ["_law_many"] spOrdF := (ok_law_ordersF D14.F B).mono (by decide)
  have G15 : FnOk P w K mg base CX0 4 fa15 fb15 ["_law_found", "_law_due"] (spAlike 4) := ok_alike D15 B 4
  refine F.ok scLaw (fun vs H Q E h => ?_) (fun cdv A outer s H vs Q E hr h => ?_)
  · obtain ⟨a, ns, rfl, _⟩ := h
    rfl
  · obtain ⟨a, ns, rfl, hst, q⟩ := h
    refine ⟨_, pss_cons (ps_set (i := 1) scLaw.nd rfl (.inl rfl) (pe_lst (pa_cons (pv 0) (pa_cons pe_int (pa_cons pe_int (pa_cons pe_int pa_nil))))))
      (pss_cons (ps_par (i := 2) (j := 3) rfl scLaw.nd rfl rfl (by decide) rfl rfl
        (pa_cons (pe_call G9 hr rfl D9.g D9.F.kp D9.b .nil pass0 (pa_cons (pv 1) (pa_cons (pe_lst
            (pa_cons (pe_call G10 hr rfl D10.g D10.F.kp D10.b .nil pass0 (pa_cons (pv 1) pa_nil))
            (pa_cons (pe_call G12 hr rfl D12.g D12.F.kp D12.b .nil pass0 (pa_cons (pv 1) (pa_cons pe_int (pa_cons pe_int pa_nil)))) pa_nil))) pa_nil)))
          (pa_cons (pe_lst pa_nil) pa_nil)) (by rfl))
      (pss_cons (ps_if (pt_cmpR op_gt (pe_ix ix_tup (pv 2) pe_int (fun _ _ => rfl)) pe_int (nomark _))
        (pss_one (ps_ret (pe_cmpR (op_eqD hr.units)
          (pe_call G7 hr rfl D7.g D7.F.kp D7.b .nil pass0 (pa_cons (pe_call G5 hr rfl D5.g D5.F.kp D5.b .nil pass0 (pa_cons (pv 2) (pa_cons
            (pe_callTy call_tuple_of rfl B.tuple bt_tuple (pa_cons (pe_call G13 hr rfl D13.g D13.F.kp D13.b .nil pass0 (pa_cons (pv 1) (pa_cons (pe_ix ix_tup (pv 2) pe_int (fun _ _ => rfl)) pa_nil))) pa_nil)) pa_nil))) pa_nil))
          (pe_call G7 hr rfl D7.g D7.F.kp D7.b .nil pass0 (pa_cons (pv 2) pa_nil)) (nomark _)))) pss_nil)
      (pss_cons (ps_for PassesOwn.never rfl (pi_list (pe_call G14 hr rfl D14.g D14.F.kp D14.b .nil pass0 (pa_cons (pe_ix ix_tup (pv 2) pe_int (fun _ _ => rfl)) pa_nil))) (pg_name (i := 4) scLaw.nd rfl (.inr rfl))
        (pss_cons (ps_set (i := 5) scLaw.nd rfl (.inl rfl) (pe_callB (cr_sortT (d := 5) (B := 100000) (by decide)) rfl B.sorted bt_sorted (pa_cons
          (pe_lc (own := [("_law_pipe", 6)]) (g := gName 6) (by rfl) scLaw.nd (pi_tup (pe_ix ix_tup (pv 2) pe_int (fun _ _ => rfl)))
            (blkOk_by (N := ["_law_script", "_law_row", "_law_flow_here", "_law_found", "_law_order_here", "_law_pipes", "_law_pipe"]) (sc := defScope sLaw) (by decide +kernel))
            (fun _ _ _ _ _ => pg_name (i := 6) scLaw.nd rfl (Or.inl rfl)) (fun _ _ _ _ _ => pts_nil)
            (fun _ _ _ _ _ => pe_op (r := rCatA K) op_catA (pe_tup
                (pa_cons (pe_ixF (K := K) (pv 4) (pa_cons (pe_ix (r := rIxT K) ix_tup (pv 6) pe_int (fun _ _ => rfl)) pa_nil))
                (pa_cons (pe_ixF (K := K) (pv 4) (pa_cons (pe_ix (r := rIxT K) ix_tup (pv 6) pe_int (fun _ _ => rfl)) pa_nil)) pa_nil)))
              (pe_slice (r := rSlA K) sl_tupA (pv 6) (po_some pe_int) po_none))) pa_nil)))
        (pss_one (ps_expr (pe_bm PySem.F.plainAttrs_list PySem.F.slot_list_append PySem.F.type_list_append mt_append (pv 3) (pa_cons (pe_tup
          (pa_cons (pe_ix ix_tup (pv 2) pe_int (fun _ _ => rfl)) (pa_cons (pe_callTy call_tuple_of rfl B.tuple bt_tuple (pa_cons (pv 5) pa_nil)) pa_nil))) pa_nil))))))
      (pss_one (ps_ret (pe_call G15 hr rfl D15.g D15.F.kp D15.b .nil pass0 (pa_cons (pe_call G7 hr rfl D7.g D7.F.kp D7.b .nil pass0 (pa_cons (pv 2) pa_nil))
        (pa_cons (pe_callB (cr_minD rfl hr.units) rfl B.min bt_min (pa_cons (pv 3) pa_nil)) pa_nil)))))))), ?_⟩
    -- _law_row = [_law_script, 0, 9861, 0]
    refine ⟨_, rfl, by show 4 ≤ sizeLine; decide, fun r nr => ?_⟩
    have s0 := same_upd (.lst [.ref a, .int 0, .int 9861, .int 0]) nr
    have ro0 : RowOk K (upd H r (.lst [.ref a, .int 0, .int 9861, .int 0])) r := ⟨a, ns, 0, 9861, 0, upd_same, Int.le_refl 0, hst.kp (same_kp s0)⟩
    -- _law_flow_here, _law_found = _law_pick(_law_row, [_law_any(_law_row), _law_flow(_law_row, 4, 4)]), []
    refine ⟨_, rfl, _, rfl, r, rfl, ro0, fun va H1 na pa1 sb1 ro1 fl1 fo1 => ?_⟩
    refine ⟨_, rfl, r, rfl, ro1, fun vb H2 nb pb1 sb2 ro2 fl2 fo2 _ => ?_⟩
    refine ⟨by show 2 ≤ sizeLine; decide, fun L0 nL0 => ?_⟩
    obtain ⟨xr2, er2⟩ := ro2.lst
    have s3 := same_upd (.lst [va, vb]) nL0
    have nL0r : L0 ≠ r := (ne_of_none er2 nL0).symm
    refine ⟨r, L0, [va, vb], rfl, ro2.same s3, upd_same, nL0r, ⟨by show 1 ≤ 2; decide, by show 2 < 1000; decide⟩, fun y H4 hy sb4 ro4 => ?_⟩
    have k4 : Kp H2 H4 := (same_kp s3).trans ((ro2.same s3).sbkp sb4)
    obtain ⟨n, ps, hf4, fo⟩ : ∃ n ps, FlowAt H4 y n ps ∧ FlowOk n ps := by
      rcases List.mem_cons.mp hy with e | hy
      · subst e
        exact ⟨na, pa1, fl1.kp ((ro1.sbkp sb2).trans k4), fo1⟩
      · rcases List.mem_cons.mp hy with e | hy
        · subst e
          exact ⟨nb, pb1, fl2.kp k4, fo2⟩
        · cases hy
    have n1 := fo.n1
    have n5 := fo.n5
    have n8 : n ≤ 8 := by omega
    refine ⟨by show 0 ≤ sizeLine; decide, fun fA nfA => ⟨_, _, rfl, ?_⟩⟩
    have s5 := same_upd (.lst []) nfA
    have ro5 := ro4.same s5
    have hf5 := hf4.kp (same_kp s5)
    have ef5 : (upd H4 fA (.lst [])) fA = some (.lst []) := upd_same
    obtain ⟨H5, hH5⟩ : ∃ H5, H5 = upd H4 fA (.lst []) := ⟨_, rfl⟩
    rw [← hH5] at s5 ro5 hf5 ef5 ⊢
    clear hH5
    obtain ⟨ft, pt, pvs, rfl, hft, hpt, hps⟩ := id hf5
    -- if _law_flow_here[0] > 4
    refine ⟨_, rfl, ft, _, 0, .int n, rfl, rfl, SqT.of hft, rfl, n, 4, rfl, rfl, _, rfl, ite2 (fun c => ?_) (fun c => ?_)⟩
    · -- a drawn order
      refine ⟨_, rfl, _, rfl, _, rfl, ft, _, 0, .int n, rfl, rfl, SqT.of hft, rfl, r, n, rfl, ro5, ⟨n1, n5⟩, fun l H6 os sb6 ro6 nl el hos => ?_⟩
      have k6 := ro5.sbkp sb6
      refine ⟨l, _, rfl, .inl ⟨SqL.of el, fun T nT => ?_⟩⟩
      have s7 := same_upd (.tup (os.map V.int)) nT
      have hf7 := hf5.kp (k6.trans (same_kp s7))
      refine ⟨.ref ft, T, n, ps, os, rfl, hf7, upd_same, fo, hos, fun v' H8 s8 hv => ?_⟩
      have fo' : FlowOk n (nm os ps) := ⟨n1, n5, by rw [nm_length]; exact fo.few, nm_ok hos fo.ok⟩
      refine ⟨v', n, nm os ps, rfl, hv, fo', fun v2 H9 qs s9 hq e9 => ?_⟩
      have hf9 := (hf7.kp (same_kp s8)).kp (same_kp s9)
      refine ⟨_, rfl, .ref ft, n, ps, rfl, hf9, fo, fun v3 H10 qs3 s10 hq3 e10 => ?_⟩
      have ev : PyData.eqv (flowD n qs) (flowD n qs3) = true := by
        rw [e9, e10, least_named n8 hos fo.ok, ← e10]
        exact SeqAt.eqv_refl _ (SeqAt.canLay_of_shaped (shaped_flow n qs3))
      refine ⟨flowD n qs, flowD n qs3, (hq.kp (same_kp s10)).dp, hq3.dp, shaped_flow n qs, shaped_flow n qs3, ?_⟩
      rw [ev]
      exact q _
    -- for _law_order_here in _law_orders(_law_flow_here[0])
    refine ⟨_, rfl, ft, _, 0, .int n, rfl, rfl, SqT.of hft, rfl, n, rfl, ⟨n1, n5⟩, fun L H6 xs s6 eL ho => ?_⟩
    have ef6 := s6 _ _ ef5
    have hxl := paired_len ho
    have xne : xs ≠ [] := fun z => by
      subst z
      exact orders_ne n (List.eq_nil_of_length_eq_zero hxl.symm)
    have nLf : L ≠ fA := fun z => by
      subst z
      rw [ef6] at eL
      injection eL with eL
      injection eL with eL
      exact xne eL.symm
    have hol := ordAt_length n n
    have hpw : n ^ n ≤ 3125 := by
      have h1 : n ^ n ≤ 5 ^ n := Nat.pow_le_pow_left n5 n
      have h2 : 5 ^ n ≤ 5 ^ 5 := Nat.pow_le_pow_right (by decide) n5
      have h3 : (5 : Nat) ^ 5 = 3125 := by decide
      omega
    have hle : (orders n).length ≤ 3125 := Nat.le_trans hol hpw
    have hf6 := hf5.kp (same_kp s6)
    refine ⟨L, rfl, ⟨_, SqL.of eL⟩, for_list (K := K) (a := L) (xs := xs) (fun i σ H' => ∃ fs y4 y5, σ = [some (.ref a), some (.ref r), some (.ref ft), some (.ref fA), y4, y5, none] ∧ Sb fA H6 H' ∧ H' fA = some (.lst fs) ∧
        Paired (fun v qs => FlowAt H' v n qs) fs (((orders n).take i).map fun o => nm o ps))
      ⟨[], none, none, rfl, Sb.refl _ _, ef6, .nil⟩ (fun i σ H' _ ⟨_, _, _, _, z, _⟩ => SqL.of (z _ _ nLf eL)) ?_ ?_⟩
    · rintro i x σ H7 hx ⟨fs, y4, y5, rfl, sb7, e7, hp7⟩
      obtain ⟨o, ho1, T, oT, rfl, hT6, odT⟩ := paired_at ho hx
      have ho2 : Row n n o := mem_orders.mp (List.mem_of_getElem? ho1)
      have k7 : Kp H6 H7 := sb7.kp ef6
      have hT7 := k7.frzs _ _ _ hT6
      have hft7 := k7.tups _ _ (s6 _ _ hft)
      have hpt7 := k7.tups _ _ (s6 _ _ hpt)
      have hps7 := (hps.kp (same_kp s6)).kp k7
      have hpvl := paired_len hps7
      refine ⟨_, rfl, ft, _, 1, .ref pt, rfl, rfl, SqT.of hft7, rfl, pt, rfl, ⟨_, SqT.of hpt7⟩, fun D2 nD2 => ?_⟩
      refine lc_tup (K := K) (a := pt) (xs := pvs) (fun i H' => ∃ acc, Same H7 H' ∧ H' D2 = some (.lst acc) ∧ PipesAt H' acc ((ps.take i).map (rn o))) ⟨[], same_upd _ nD2, upd_same, .nil⟩ (fun i H' _ ⟨_, z, _⟩ => SqT.of (z _ _ hpt7)) (fun i x H3 hx hP => ?_) ?_
      · obtain ⟨acc, s3, e3, hpa⟩ := hP
        obtain ⟨p, hp1, Tp, rfl, hTp⟩ := paired_at hps7 hx
        obtain ⟨a0, b0, g0, e0, c0, rfl, ha, hb, hgec⟩ := fo.ok p (List.mem_of_getElem? hp1)
        have hTp3 := s3 _ _ hTp
        have hT3 := s3 _ _ hT7
        obtain ⟨ia1, ia2⟩ := idx_at ho2 ha.1 ha.2
        obtain ⟨ib1, ib2⟩ := idx_at ho2 hb.1 hb.2
        refine ⟨rfl, _, rfl, T, oT, _, rfl, hT3, odT, _, rfl, Tp, _, 0, .int a0, rfl, rfl, SqT.of hTp3, rfl, T, o, a0, o.idxOf a0, rfl, rfl, sqF hT3, ia1, ia2, ?_⟩
        refine ⟨_, rfl, T, oT, _, rfl, hT3, odT, _, rfl, Tp, _, 1, .int b0, rfl, rfl, SqT.of hTp3, rfl, T, o, b0, o.idxOf b0, rfl, rfl, sqF hT3, ib1, ib2, ?_⟩
        refine ⟨by show 2 ≤ sizeLine; decide, fun T1 nT1 => ?_⟩
        have s4' := same_upd (.tup [.int ((o.idxOf a0 : Nat) : Int), .int ((o.idxOf b0 : Nat) : Int)]) nT1
        have hT4 := s4' _ _ hTp3
        refine ⟨_, rfl, 2, rfl, Tp, _, rfl, SqT.of hT4, fun z => ?_, fun _ T2 nT2 => ?_⟩
        · have z1 := z.1
          rw [show (2 : Int) = ((2 : Nat) : Int) from rfl, HT.sIx_nat] at z1
          exact absurd z1 (by simp)
        · have ec : cutV ([a0, b0, g0, e0, c0].map V.int) (some 2) none = [.int g0, .int e0, .int c0] := cut_tail ([a0, b0, g0, e0, c0].map V.int) (k := 2) (by simp)
          rw [ec]
          have s5' := same_upd (.tup [.int g0, .int e0, .int c0]) nT2
          refine ⟨T1, T2, _, _, rfl, rfl, SqT.of (s5' _ _ upd_same), SqT.of upd_same, by show 5 ≤ sizeLine; decide, (fun z => (by cases z)), (fun _ z => (by cases z)), fun _ _ T3 nT3 => ?_⟩
          have s6' := same_upd (.tup ([.int ((o.idxOf a0 : Nat) : Int), .int ((o.idxOf b0 : Nat) : Int)] ++ [.int g0, .int e0, .int c0])) nT3
          have sA := s4'.trans (s5'.trans s6')
          have hal := paired_len hpa
          have hlt : (List.map (rn o) (ps.take i)).length ≤ ps.length := by
            rw [List.length_map, List.length_take]
            exact Nat.min_le_right _ _
          refine ⟨acc, sA _ _ e3, small1000 (by have := fo.few; omega), acc ++ [.ref T3], ?_⟩
          have ei : (ps.take (i + 1)).map (rn o) = (ps.take i).map (rn o) ++ [rn o [a0, b0, g0, e0, c0]] := by
            rw [List.take_add_one, hp1, List.map_append]
            rfl
          rw [ei]
          exact grow nD2 (s3.trans sA) (sA _ _ e3) (hpa.kp (same_kp sA)) upd_same
      rintro H8 ⟨acc, s8, e8, hpa⟩
      rw [List.take_of_length_le (Nat.le_of_eq hpvl.symm)] at hpa
      have okm := map_ok ho2 fo.ok
      have hal := paired_len hpa
      rw [List.length_map] at hal
      have hfew := fo.few
      refine ⟨D2, acc, rfl, SqL.of e8, by omega, fun x hx => ?_, fun ys S hperm hup nS => ?_⟩
      · obtain ⟨p, hp, t, e, ht⟩ := paired_mem hpa hx
        exact ⟨p, ⟨t, e, SqT.of ht⟩, ((okm p hp).bd n8).1, ((okm p hp).bd n8).2⟩
      have hys := sorted_is n8 okm hpa hperm hup
      have s9 := same_upd (.lst ys) nS
      have e9 : (upd H8 S (.lst ys)) S = some (.lst ys) := upd_same
      have sB := s8.trans s9
      obtain ⟨H9, hH9⟩ : ∃ H9, H9 = upd H8 S (.lst ys) := ⟨_, rfl⟩
      rw [← hH9] at s9 e9 sB ⊢
      clear hH9
      -- _law_found.append((_law_flow_here[0], tuple(_law_pipes)))
      refine ⟨.ref fA, rfl, .inl ⟨rfl, _, SqL.of (sB _ _ e7)⟩, _, rfl, ft, _, 0, .int n, rfl, rfl, SqT.of (sB _ _ hft7), rfl, _, rfl, S, ys, rfl, .inl ⟨SqL.of e9, fun TT nTT => ?_⟩⟩
      have s10 := same_upd (.tup ys) nTT
      refine ⟨by show 2 ≤ sizeLine; decide, fun T2 nT2 => ?_⟩
      have s11 := same_upd (.tup [.int n, .ref TT]) nT2
      have sC := sB.trans (s10.trans s11)
      have eTT := s11 _ _ (upd_same (H := H9) (a := TT))
      have eT2 : (upd (upd H9 TT (.tup ys)) T2 (.tup [.int n, .ref TT])) T2 = some (.tup [.int n, .ref TT]) := upd_same
      obtain ⟨H11, hH11⟩ : ∃ H11, H11 = upd (upd H9 TT (.tup ys)) T2 (.tup [.int n, .ref TT]) := ⟨_, rfl⟩
      rw [← hH11] at s11 sC eTT eT2 ⊢
      clear hH11
      have hal7 := paired_len hp7
      have htl : (((orders n).take i).map fun o => nm o ps).length ≤ (orders n).length := by
        rw [List.length_map, List.length_take]
        exact Nat.min_le_right _ _
      refine ⟨fA, fs, .ref T2, rfl, rfl, sC _ _ e7, by rw [sizeLine_eq]; omega, ?_⟩
      have kL : Kp H11 (upd H11 fA (.lst (fs ++ [.ref T2]))) := Kp.lst (sC _ _ e7)
      refine ⟨fs ++ [.ref T2], _, _, rfl, fun b u nb e => ?_, upd_same, ?_⟩
      · rw [upd_ne nb]
        exact sC _ _ (sb7 _ _ nb e)
      · have ei : ((orders n).take (i + 1)).map (fun o => nm o ps) = ((orders n).take i).map (fun o => nm o ps) ++ [nm o ps] := by
          rw [List.take_add_one, ho1, List.map_append]
          rfl
        rw [ei]
        have hv : FlowAt H11 (.ref T2) n (nm o ps) := ⟨T2, TT, ys, rfl, eT2, eTT, hys.kp (same_kp (s9.trans (s10.trans s11)))⟩
        exact paired_app (Paired.mapP hp7 fun a b z => (z.kp (same_kp sC)).kp kL) (.cons (hv.kp kL) .nil)
    · rintro σ H7 ⟨fs, y4, y5, rfl, sb7, e7, hp7⟩
      rw [List.take_of_length_le (Nat.le_of_eq hxl.symm)] at hp7
      have hf7 := hf6.kp (sb7.kp ef6)
      -- return _law_alike(least_form(_law_flow_here), min(_law_found))
      refine ⟨_, rfl, .ref ft, n, ps, rfl, hf7, fo, fun v1 H8 qs s8 hq e8 => ?_⟩
      refine ⟨_, rfl, min_flows (K := K) (s8 _ _ e7) (Paired.mapP hp7 fun a b z => z.kp (same_kp s8)) (forms_ne n ps) fun v2 qs2 hq2 e9 => ?_⟩
      have eq : qs = qs2 := flowD_inj (n := n) (e8.trans e9.symm)
      subst eq
      obtain ⟨qs', hm, hl, _⟩ := least_in (n := n) (forms_ne n ps)
      have eq2 : qs = qs' := flowD_inj (n := n) (e8.trans hl)
      subst eq2
      obtain ⟨o, ho1, ho2⟩ := List.mem_map.mp hm
      have ok' : AllOk n qs := by
        rw [← ho2]
        exact nm_ok (mem_orders.mp ho1) fo.ok
      have l1 : qs.length ≤ 1000 := by
        rw [← ho2, nm_length]
        have := fo.few
        omega
      have l2 : ∀ p ∈ qs, p.length ≤ 1000 := fun p hp => by
        have := ((ok' p hp).bd n8).1
        omega
      exact ⟨v1, v2, flowD n qs, rfl, hq.dt l1 l2, hq2.dt l1 l2, fun H' _ => q H'⟩
end
end K61

namespace K61
open PySem PySem.Spec PyProof.Rows L2
/-! ### the program's top -/
theorem all_mk {l : PySem.W.OpenLaw} {w : World} {K : PySem.W.Frag} {h : Heap} {mg : Str → Option Value} {fa : Addr} (X : K.In h) (G : h.Ns mainGlobals mg) (hfa : mg "law" = some (.ref fa))
    {f1 f2 f3 f4 f5 f6 f7 f8 f9 f10 f11 f12 f13 f14 f15 f16 : Addr} {od1 an1 od2 an2 od3 an3 od4 an4 od5 an5 od6 an6 od7 an7 od8 an8 od9 an9 od10 an10 od11 an11 od12 an12 od13 an13 od14 an14 od15 an15 od16 an16 : Option Addr} {sl1 sl2 sl3 sl4 sl5 sl6 sl7 sl8 sl9 sl10 sl11 sl12 sl13 sl14 sl15 sl16 : Array (Option Value)} {oc1 kV1 dc1 pm1 cd1 ct1 oc2 kV2 dc2 pm2 cd2 ct2 oc3 kV3 dc3 pm3 cd3 ct3 oc4 kV4 dc4 pm4 cd4 ct4 oc5 kV5 dc5 pm5 cd5 ct5 oc6 kV6 dc6 pm6 cd6 ct6 oc7 kV7 dc7 pm7 cd7 ct7 oc8 kV8 dc8 pm8 cd8 ct8 oc9 kV9 dc9 pm9 cd9 ct9 oc10 kV10 dc10 pm10 cd10 ct10 oc11 kV11 dc11 pm11 cd11 ct11 oc12 kV12 dc12 pm12 cd12 ct12 oc13 kV13 dc13 pm13 cd13 ct13 oc14 kV14 dc14 pm14 cd14 ct14 oc15 kV15 dc15 pm15 cd15 ct15 oc16 kV16 dc16 pm16 cd16 ct16 : Value} {t1 t2 t3 t4 t5 : Tok}
    (a1 : PySem.W.nsIn K mainGlobals "is_in" = some (some (.ref f1))) (l1 : K.lookup f1 = some ⟨oc1, od1, .func (PySem.W.fnOf "is_in" "is_in" (defArgs sIsIn) (defBody sIsIn) (defScope sIsIn) .none kV1 dc1 pm1 an1 cd1 ct1), sl1⟩) (c1 : PySem.W.codeIn K cd1 "is_in" = true) (k1 : PySem.W.keepIn K (.ref f1) = true)
    (a2 : PySem.W.nsIn K mainGlobals "is_pipe" = some (some (.ref f2))) (l2 : K.lookup f2 = some ⟨oc2, od2, .func (PySem.W.fnOf "is_pipe" "is_pipe" (defArgs sIsPipe) (defBody sIsPipe) (defScope sIsPipe) .none kV2 dc2 pm2 an2 cd2 ct2), sl2⟩) (c2 : PySem.W.codeIn K cd2 "is_pipe" = true) (k2 : PySem.W.keepIn K (.ref f2) = true)
    (a3 : PySem.W.nsIn K mainGlobals "need_flow" = some (some (.ref f3))) (l3 : K.lookup f3 = some ⟨oc3, od3, .func (PySem.W.fnOf "need_flow" "need_flow" (defArgs sNeed) (defBody sNeed) (defScope sNeed) .none kV3 dc3 pm3 an3 cd3 ct3), sl3⟩) (c3 : PySem.W.codeIn K cd3 "need_flow" = true) (k3 : PySem.W.keepIn K (.ref f3) = true)
    (a4 : PySem.W.nsIn K mainGlobals "named" = some (some (.ref f4))) (l4 : K.lookup f4 = some ⟨oc4, od4, .func (PySem.W.fnOf "named" "named" (defArgs sNamed) (defBody sNamed) (defScope sNamed) .none kV4 dc4 pm4 an4 cd4 ct4), sl4⟩) (c4 : PySem.W.codeIn K cd4 "named" = true) (k4 : PySem.W.keepIn K (.ref f4) = true)
    (a5 : PySem.W.nsIn K mainGlobals "renamed" = some (some (.ref f5))) (l5 : K.lookup f5 = some ⟨oc5, od5, .func (PySem.W.fnOf "renamed" "renamed" (defArgs sRenamed) (defBody sRenamed) (defScope sRenamed) .none kV5 dc5 pm5 an5 cd5 ct5), sl5⟩) (c5 : PySem.W.codeIn K cd5 "renamed" = true) (k5 : PySem.W.keepIn K (.ref f5) = true)
    (a6 : PySem.W.nsIn K mainGlobals "all_orders" = some (some (.ref f6))) (l6 : K.lookup f6 = some ⟨oc6, od6, .func (PySem.W.fnOf "all_orders" "all_orders" (defArgs sAllOrd) (defBody sAllOrd) (defScope sAllOrd) .none kV6 dc6 pm6 an6 cd6 ct6), sl6⟩) (c6 : PySem.W.codeIn K cd6 "all_orders" = true) (k6 : PySem.W.keepIn K (.ref f6) = true)
    (a7 : PySem.W.nsIn K mainGlobals "least_form" = some (some (.ref f7))) (l7 : K.lookup f7 = some ⟨oc7, od7, .func (PySem.W.fnOf "least_form" "least_form" (defArgs sLeast) (defBody sLeast) (defScope sLeast) .none kV7 dc7 pm7 an7 cd7 ct7), sl7⟩) (c7 : PySem.W.codeIn K cd7 "least_form" = true) (k7 : PySem.W.keepIn K (.ref f7) = true)
    (a8 : PySem.W.nsIn K mainGlobals "_law_taken" = some (some (.ref f8))) (l8 : K.lookup f8 = some ⟨oc8, od8, .func (PySem.W.fnOf "_law_taken" "_law_taken" (defArgs sTaken) (defBody sTaken) (defScope sTaken) .none kV8 dc8 pm8 an8 cd8 ct8), sl8⟩) (c8 : PySem.W.codeIn K cd8 "_law_taken" = true) (k8 : PySem.W.keepIn K (.ref f8) = true)
    (a9 : PySem.W.nsIn K mainGlobals "_law_pick" = some (some (.ref f9))) (l9 : K.lookup f9 = some ⟨oc9, od9, .func (PySem.W.fnOf "_law_pick" "_law_pick" (defArgs sPick) (defBody sPick) (defScope sPick) .none kV9 dc9 pm9 an9 cd9 ct9), sl9⟩) (c9 : PySem.W.codeIn K cd9 "_law_pick" = true) (k9 : PySem.W.keepIn K (.ref f9) = true)
    (a10 : PySem.W.nsIn K mainGlobals "_law_any" = some (some (.ref f10))) (l10 : K.lookup f10 = some ⟨oc10, od10, .func (PySem.W.fnOf "_law_any" "_law_any" (defArgs sAny) (defBody sAny) (defScope sAny) .none kV10 dc10 pm10 an10 cd10 ct10), sl10⟩) (c10 : PySem.W.codeIn K cd10 "_law_any" = true) (k10 : PySem.W.keepIn K (.ref f10) = true)
    (a11 : PySem.W.nsIn K mainGlobals "_law_gcd" = some (some (.ref f11))) (l11 : K.lookup f11 = some ⟨oc11, od11, .func (PySem.W.fnOf "_law_gcd" "_law_gcd" (defArgs sGcd) (defBody sGcd) (defScope sGcd) .none kV11 dc11 pm11 an11 cd11 ct11), sl11⟩) (c11 : PySem.W.codeIn K cd11 "_law_gcd" = true) (k11 : PySem.W.keepIn K (.ref f11) = true)
    (a12 : PySem.W.nsIn K mainGlobals "_law_flow" = some (some (.ref f12))) (l12 : K.lookup f12 = some ⟨oc12, od12, .func (PySem.W.fnOf "_law_flow" "_law_flow" (defArgs sFlow) (defBody sFlow) (defScope sFlow) .none kV12 dc12 pm12 an12 cd12 ct12), sl12⟩) (c12 : PySem.W.codeIn K cd12 "_law_flow" = true) (k12 : PySem.W.keepIn K (.ref f12) = true)
    (a13 : PySem.W.nsIn K mainGlobals "_law_order" = some (some (.ref f13))) (l13 : K.lookup f13 = some ⟨oc13, od13, .func (PySem.W.fnOf "_law_order" "_law_order" (defArgs sOrder) (defBody sOrder) (defScope sOrder) .none kV13 dc13 pm13 an13 cd13 ct13), sl13⟩) (c13 : PySem.W.codeIn K cd13 "_law_order" = true) (k13 : PySem.W.keepIn K (.ref f13) = true)
    (a14 : PySem.W.nsIn K mainGlobals "_law_orders" = some (some (.ref f14))) (l14 : K.lookup f14 = some ⟨oc14, od14, .func (PySem.W.fnOf "_law_orders" "_law_orders" (defArgs sOrders) (defBody sOrders) (defScope sOrders) .none kV14 dc14 pm14 an14 cd14 ct14), sl14⟩) (c14 : PySem.W.codeIn K cd14 "_law_orders" = true) (k14 : PySem.W.keepIn K (.ref f14) = true)
    (a15 : PySem.W.nsIn K mainGlobals "_law_alike" = some (some (.ref f15))) (l15 : K.lookup f15 = some ⟨oc15, od15, .func (PySem.W.fnOf "_law_alike" "_law_alike" (defArgs sAlike) (defBody sAlike) (defScope sAlike) .none kV15 dc15 pm15 an15 cd15 ct15), sl15⟩) (c15 : PySem.W.codeIn K cd15 "_law_alike" = true) (k15 : PySem.W.keepIn K (.ref f15) = true)
    (a16 : PySem.W.nsIn K mainGlobals "law" = some (some (.ref f16))) (l16 : K.lookup f16 = some ⟨oc16, od16, .func (PySem.W.fnOf "law" "law" (defArgs sLaw) (defBody sLaw) (defScope sLaw) .none kV16 dc16 pm16 an16 cd16 ct16), sl16⟩) (c16 : PySem.W.codeIn K cd16 "law" = true) (k16 : PySem.W.keepIn K (.ref f16) = true)
    (z1 : PySem.W.nsIn K mainGlobals "isinstance" = some none)
    (z2 : PySem.W.nsIn K mainGlobals "int" = some none)
    (z3 : PySem.W.nsIn K mainGlobals "bool" = some none)
    (z4 : PySem.W.nsIn K mainGlobals "tuple" = some none)
    (z5 : PySem.W.nsIn K mainGlobals "list" = some none)
    (z6 : PySem.W.nsIn K mainGlobals "str" = some none)
    (z7 : PySem.W.nsIn K mainGlobals "len" = some none)
    (z8 : PySem.W.nsIn K mainGlobals "enumerate" = some none)
    (z9 : PySem.W.nsIn K mainGlobals "dict" = some none)
    (z10 : PySem.W.nsIn K mainGlobals "sorted" = some none)
    (z11 : PySem.W.nsIn K mainGlobals "range" = some none)
    (z12 : PySem.W.nsIn K mainGlobals "min" = some none)
    (z13 : PySem.W.nsIn K mainGlobals "abs" = some none)
    (y1 : PySem.W.nsIn K mainGlobals "MOST_BOXES" = some (some (.int 8 t1)))
    (y2 : PySem.W.nsIn K mainGlobals "MOST_PIPES" = some (some (.int 16 t2)))
    (y3 : PySem.W.nsIn K mainGlobals "MOST_RATE" = some (some (.int 999 t3)))
    (y4 : PySem.W.nsIn K mainGlobals "MOST_TOKENS" = some (some (.int 99999 t4)))
    (y5 : PySem.W.nsIn K mainGlobals "MOST_NAMES" = some (some (.int 6 t5)))
    : ∃ fd : FuncData, (∀ (s : Shared) (v : Value), BindsTo s fd ⟨[v], []⟩ [("_law_script", v)]) ∧ ∀ base : Heap, K.In base → base.Ns mainGlobals mg → FnOk l.prog w K mg base CX0 5 fa fd ["_law_script"] (spLaw K) := by
  have e := hfa.symm.trans (PySem.W.mg_of X G a16)
  cases e
  have F1 := fun_mk (st := sIsIn) l1 c1 k1
  have F2 := fun_mk (st := sIsPipe) l2 c2 k2
  have F3 := fun_mk (st := sNeed) l3 c3 k3
  have F4 := fun_mk (st := sNamed) l4 c4 k4
  have F5 := fun_mk (st := sRenamed) l5 c5 k5
  have F6 := fun_mk (st := sAllOrd) l6 c6 k6
  have F7 := fun_mk (st := sLeast) l7 c7 k7
  have F8 := fun_mk (st := sTaken) l8 c8 k8
  have F9 := fun_mk (st := sPick) l9 c9 k9
  have F10 := fun_mk (st := sAny) l10 c10 k10
  have F11 := fun_mk (st := sGcd) l11 c11 k11
  have F12 := fun_mk (st := sFlow) l12 c12 k12
  have F13 := fun_mk (st := sOrder) l13 c13 k13
  have F14 := fun_mk (st := sOrders) l14 c14 k14
  have F15 := fun_mk (st := sAlike) l15 c15 k15
  have F16 := fun_mk (st := sLaw) l16 c16 k16
  have b1 := F1.binds (ps := ["value", "least", "most"]) fun _ _ _ _ _ _ us hl => match us, hl with | [_, _, _], _ => rfl
  have b2 := F2.binds (ps := ["value", "boxes"]) fun _ _ _ _ _ _ us hl => match us, hl with | [_, _], _ => rfl
  have b3 := F3.binds (ps := ["flow"]) fun _ _ _ _ _ _ us hl => match us, hl with | [_], _ => rfl
  have b4 := F4.binds (ps := ["flow", "order"]) fun _ _ _ _ _ _ us hl => match us, hl with | [_, _], _ => rfl
  have b5 := F5.binds (ps := ["flow", "order"]) fun _ _ _ _ _ _ us hl => match us, hl with | [_, _], _ => rfl
  have b6 := F6.binds (ps := ["many"]) fun _ _ _ _ _ _ us hl => match us, hl with | [_], _ => rfl
  have b7 := F7.binds (ps := ["flow"]) fun _ _ _ _ _ _ us hl => match us, hl with | [_], _ => rfl
  have b8 := F8.binds (ps := ["_law_row", "_law_many"]) fun _ _ _ _ _ _ us hl => match us, hl with | [_, _], _ => rfl
  have b9 := F9.binds (ps := ["_law_row", "_law_things"]) fun _ _ _ _ _ _ us hl => match us, hl with | [_, _], _ => rfl
  have b10 := F10.binds (ps := ["_law_row"]) fun _ _ _ _ _ _ us hl => match us, hl with | [_], _ => rfl
  have b11 := F11.binds (ps := ["_law_one", "_law_other"]) fun _ _ _ _ _ _ us hl => match us, hl with | [_, _], _ => rfl
  have b12 := F12.binds (ps := ["_law_row", "_law_most", "_law_top"]) fun _ _ _ _ _ _ us hl => match us, hl with | [_, _, _], _ => rfl
  have b13 := F13.binds (ps := ["_law_row", "_law_many"]) fun _ _ _ _ _ _ us hl => match us, hl with | [_, _], _ => rfl
  have b14 := F14.binds (ps := ["_law_many"]) fun _ _ _ _ _ _ us hl => match us, hl with | [_], _ => rfl
  have b15 := F15.binds (ps := ["_law_found", "_law_due"]) fun _ _ _ _ _ _ us hl => match us, hl with | [_, _], _ => rfl
  have B : Bn mg := ⟨PySem.W.mg_none_of X G z1, PySem.W.mg_none_of X G z2, PySem.W.mg_none_of X G z3, PySem.W.mg_none_of X G z4, PySem.W.mg_none_of X G z5, PySem.W.mg_none_of X G z6, PySem.W.mg_none_of X G z7, PySem.W.mg_none_of X G z8, PySem.W.mg_none_of X G z9, PySem.W.mg_none_of X G z10, PySem.W.mg_none_of X G z11, PySem.W.mg_none_of X G z12, PySem.W.mg_none_of X G z13⟩
  have C : Cn mg := ⟨⟨t1, PySem.W.mg_of X G y1⟩, ⟨t2, PySem.W.mg_of X G y2⟩, ⟨t3, PySem.W.mg_of X G y3⟩, ⟨t4, PySem.W.mg_of X G y4⟩, ⟨t5, PySem.W.mg_of X G y5⟩⟩
  have T : Tx K mg := ⟨B, C, ⟨_, _, ⟨F1, b1, PySem.W.mg_of X G a1⟩⟩, ⟨_, _, ⟨F2, b2, PySem.W.mg_of X G a2⟩⟩, ⟨_, _, ⟨F3, b3, PySem.W.mg_of X G a3⟩⟩, ⟨_, _, ⟨F4, b4, PySem.W.mg_of X G a4⟩⟩, ⟨_, _, ⟨F5, b5, PySem.W.mg_of X G a5⟩⟩, ⟨_, _, ⟨F6, b6, PySem.W.mg_of X G a6⟩⟩, ⟨_, _, ⟨F7, b7, PySem.W.mg_of X G a7⟩⟩, ⟨_, _, ⟨F8, b8, PySem.W.mg_of X G a8⟩⟩, ⟨_, _, ⟨F9, b9, PySem.W.mg_of X G a9⟩⟩, ⟨_, _, ⟨F10, b10, PySem.W.mg_of X G a10⟩⟩, ⟨_, _, ⟨F11, b11, PySem.W.mg_of X G a11⟩⟩, ⟨_, _, ⟨F12, b12, PySem.W.mg_of X G a12⟩⟩, ⟨_, _, ⟨F13, b13, PySem.W.mg_of X G a13⟩⟩, ⟨_, _, ⟨F14, b14, PySem.W.mg_of X G a14⟩⟩, ⟨_, _, ⟨F15, b15, PySem.W.mg_of X G a15⟩⟩⟩
  refine ⟨PySem.W.fnOf "law" "law" (defArgs sLaw) (defBody sLaw) (defScope sLaw) .none kV16 dc16 pm16 an16 cd16 ct16, fun s v => .of_eq rfl, fun base _ _ => ?_⟩
  exact ok_law F16 T
theorem st_of {K : PySem.W.Frag} {H : Hp} {a : Addr} {xs : List V} (o : Only H) (h : SqL K H a xs) : StL K H a xs := by
  rcases h with (h | ⟨ob, h⟩) | h
  · rcases o a with z | ⟨ob, ys, z⟩
    · rw [z] at h
      cases h
    · rw [z] at h
      cases h
  · exact .inl ⟨ob, h⟩
  · exact .inr fun H' => .inr h
theorem walk {l : PySem.W.OpenLaw} {q : Program} {loose : List Str} {XP : (Str → Option Value) → Heap → Prop} {YP : World → Heap → Prop} {d : DefRec} {K : Params → PySem.W.Frag} (hn : l.most = some 63) (hdf : d.params.defaults = [])
    (hY : ∀ (w : World) (h : Heap), YP w h → (K w.params).In h)
    (F : ∀ (w : World) (mg : Str → Option Value) (fa : Addr) (h : Heap), (K w.params).In h → h.Ns mainGlobals mg → mg d.name = some (.ref fa) →
      ∃ fd : FuncData, (∀ (s : Shared) (u : Value), BindsTo s fd ⟨[u], []⟩ [("_law_script", u)]) ∧ ∀ base : Heap, (K w.params).In base → base.Ns mainGlobals mg → FnOk l.prog w (K w.params) mg base CX0 5 fa fd ["_law_script"] (spLaw (K w.params))) :
    PySem.W.WalkO q loose XP YP l.row.toRowW d [] (fun f vs => PySem.call f vs) :=
  L2.walk_of (n := 63) (k := 5) (x := "_law_script") (CX := fun _ => CX0) (sp := fun w => spLaw (K w.params)) hn (by decide) hdf ⟨rfl, by decide, by decide⟩ hY F (fun _ _ a ns _ hO hS => ⟨a, ns, rfl, st_of hO hS, fun _ => rfl⟩) fun _ _ _ _ _ z => z
end K61

open PySem PySem.W PyProof.Rows
set_option maxRecDepth 100000 in
set_option maxHeartbeats 0 in
theorem PySem.Challenge.cw_rateflows_k61_whole_least_forms_holds : PySem.Challenge.rw_rateflows_k61_whole_least_forms.Holds := by
  w_on; o_law; k_head; (case hw => w_witness2)
  k_fill
  refine K61.walk (l := PySem.Challenge.rw_rateflows_k61_whole_least_forms) rfl rfl (fun w h Y => PySem.W.kIn_of Y) ?F
  case F =>
    intro w mg fa h KX G hmg
    refine' K61.all_mk KX G hmg ?a1 ?l1 ?c1 ?k1 ?a2 ?l2 ?c2 ?k2 ?a3 ?l3 ?c3 ?k3 ?a4 ?l4 ?c4 ?k4 ?a5 ?l5 ?c5 ?k5 ?a6 ?l6 ?c6 ?k6 ?a7 ?l7 ?c7 ?k7 ?a8 ?l8 ?c8 ?k8 ?a9 ?l9 ?c9 ?k9 ?a10 ?l10 ?c10 ?k10 ?a11 ?l11 ?c11 ?k11 ?a12 ?l12 ?c12 ?k12 ?a13 ?l13 ?c13 ?k13 ?a14 ?l14 ?c14 ?k14 ?a15 ?l15 ?c15 ?k15 ?a16 ?l16 ?c16 ?k16 ?z1 ?z2 ?z3 ?z4 ?z5 ?z6 ?z7 ?z8 ?z9 ?z10 ?z11 ?z12 ?z13 ?y1 ?y2 ?y3 ?y4 ?y5
    (case a1 => k_is); (case l1 => k_is); (case c1 => k_is); (case k1 => k_is)
    (case a2 => k_is); (case l2 => k_is); (case c2 => k_is); (case k2 => k_is)
    (case a3 => k_is); (case l3 => k_is); (case c3 => k_is); (case k3 => k_is)
    (case a4 => k_is); (case l4 => k_is); (case c4 => k_is); (case k4 => k_is)
    (case a5 => k_is); (case l5 => k_is); (case c5 => k_is); (case k5 => k_is)
    (case a6 => k_is); (case l6 => k_is); (case c6 => k_is); (case k6 => k_is)
    (case a7 => k_is); (case l7 => k_is); (case c7 => k_is); (case k7 => k_is)
    (case a8 => k_is); (case l8 => k_is); (case c8 => k_is); (case k8 => k_is)
    (case a9 => k_is); (case l9 => k_is); (case c9 => k_is); (case k9 => k_is)
    (case a10 => k_is); (case l10 => k_is); (case c10 => k_is); (case k10 => k_is)
    (case a11 => k_is); (case l11 => k_is); (case c11 => k_is); (case k11 => k_is)
    (case a12 => k_is); (case l12 => k_is); (case c12 => k_is); (case k12 => k_is)
    (case a13 => k_is); (case l13 => k_is); (case c13 => k_is); (case k13 => k_is)
    (case a14 => k_is); (case l14 => k_is); (case c14 => k_is); (case k14 => k_is)
    (case a15 => k_is); (case l15 => k_is); (case c15 => k_is); (case k15 => k_is)
    (case a16 => k_is); (case l16 => k_is); (case c16 => k_is); (case k16 => k_is)
    (case z1 => k_is); (case z2 => k_is); (case z3 => k_is); (case z4 => k_is)
    (case z5 => k_is); (case z6 => k_is); (case z7 => k_is); (case z8 => k_is)
    (case z9 => k_is); (case z10 => k_is); (case z11 => k_is); (case z12 => k_is)
    (case z13 => k_is); (case y1 => k_is); (case y2 => k_is); (case y3 => k_is)
    (case y4 => k_is); (case y5 => k_is)
