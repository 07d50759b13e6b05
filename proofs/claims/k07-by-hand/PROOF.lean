import PyProof.Rows.All
import Wide.All
import OpenK.AllK
import Wide.FinOn
import HandS.ForMost
import HandS.IsInst
import HandS.Conv
import HandS.More
import HandS.Zip
import HandS.Wide
import HandS.SortInts
import HandS.EndBits
import KE.IntBitsLaws
import HandS.Style
import HandS.Deep
import PyProof.P3In
import HandS.Walk
import HandS.Codes
import PySem.Challenge.RW_slipboxes_k07_by_hand
set_option Elab.async false
set_option linter.all false
set_option maxRecDepth 100000
set_option maxHeartbeats 4000000
/-! Rings of boxes, in plain Lean. -/
namespace Sb

/-- the slip in box i -/
def nxt (ns : List Nat) (i : Nat) : Nat := ns.getD i 0

/-- boxes: each number below the length once -/
structure Good (ns : List Nat) : Prop where
  perm : ns.Perm (List.range ns.length)

theorem Good.nodup {ns : List Nat} (g : Good ns) : ns.Nodup := g.perm.nodup_iff.mpr List.nodup_range
theorem Good.lt {ns : List Nat} (g : Good ns) {x : Nat} (h : x ∈ ns) : x < ns.length := List.mem_range.mp (g.perm.mem_iff.mp h)
theorem Good.mem {ns : List Nat} (g : Good ns) {x : Nat} (h : x < ns.length) : x ∈ ns := g.perm.mem_iff.mpr (List.mem_range.mpr h)

theorem nxt_get {ns : List Nat} {i : Nat} (h : i < ns.length) : nxt ns i = ns[i] := by
  unfold nxt; rw [List.getD_eq_getElem?_getD, List.getElem?_eq_getElem h]; rfl
theorem nxt_get? {ns : List Nat} {i : Nat} (h : i < ns.length) : ns[i]? = some (nxt ns i) := by
  rw [nxt_get h, List.getElem?_eq_getElem h]
theorem Good.nxt_lt {ns : List Nat} (g : Good ns) {i : Nat} (h : i < ns.length) : nxt ns i < ns.length := by
  rw [nxt_get h]; exact g.lt (List.getElem_mem h)
theorem Good.inj {ns : List Nat} (g : Good ns) {i j : Nat} (hi : i < ns.length) (hj : j < ns.length) (e : nxt ns i = nxt ns j) : i = j := by
  rw [nxt_get hi, nxt_get hj] at e
  exact (List.getElem_inj g.nodup).mp e

/-- r goes from h on where the slips lead, no box twice -/
structure Chain (ns : List Nat) (h : Nat) (r : List Nat) : Prop where
  head : r[0]? = some h
  step : ∀ i x y, r[i]? = some x → r[i + 1]? = some y → nxt ns x = y
  nd : r.Nodup
  lt : ∀ x ∈ r, x < ns.length

/-- a ring from h on -/
structure IsRing (ns : List Nat) (h : Nat) (r : List Nat) : Prop extends Chain ns h r where
  back : ∀ x, r[r.length - 1]? = some x → nxt ns x = h

theorem Chain.pos {ns : List Nat} {h : Nat} {r : List Nat} (c : Chain ns h r) : 0 < r.length := by
  have := c.head
  cases r with
  | nil => simp at this
  | cons a l => simp
theorem Chain.hlt {ns : List Nat} {h : Nat} {r : List Nat} (c : Chain ns h r) : h < ns.length := c.lt h (List.mem_of_getElem? c.head)
theorem Chain.hmem {ns : List Nat} {h : Nat} {r : List Nat} (c : Chain ns h r) : h ∈ r := List.mem_of_getElem? c.head
theorem Chain.one {ns : List Nat} {h : Nat} (hh : h < ns.length) : Chain ns h [h] where
  head := rfl
  step := fun i x y _ e => by simp at e
  nd := by simp
  lt := fun x hx => by simp at hx; subst hx; exact hh

theorem nodup_le : ∀ {n : Nat} {r : List Nat}, r.Nodup → (∀ x ∈ r, x < n) → r.length ≤ n
  | 0, r, _, lt => by
    cases r with
    | nil => simp
    | cons a l => exact absurd (lt a List.mem_cons_self) (Nat.not_lt_zero a)
  | n + 1, r, nd, lt => by
    have ih := nodup_le (n := n) (r := r.erase n) (nd.erase n) fun x hx => by
      have h1 := lt x (List.mem_of_mem_erase hx)
      have h2 : x ≠ n := fun e => by
        subst e
        exact (List.Nodup.not_mem_erase nd) hx
      omega
    by_cases h : n ∈ r
    · rw [List.length_erase_of_mem h] at ih
      omega
    · rw [List.erase_of_not_mem h] at ih
      omega
theorem Chain.len_le {ns : List Nat} {h : Nat} {r : List Nat} (c : Chain ns h r) : r.length ≤ ns.length := nodup_le c.nd c.lt

/-- the slip behind a chain is its first box, or a new one -/
theorem Chain.slip {ns : List Nat} {h : Nat} {r : List Nat} (g : Good ns) (c : Chain ns h r) {x : Nat} (hx : r[r.length - 1]? = some x) (hm : nxt ns x ∈ r) : nxt ns x = h := by
  obtain ⟨j, hj, e⟩ := List.mem_iff_getElem.mp hm
  cases j with
  | zero =>
    have := c.head
    rw [List.getElem?_eq_getElem hj] at this
    rw [← e]; exact Option.some.inj this
  | succ j =>
    exfalso
    have hj' : j < r.length := by omega
    have e1 : nxt ns r[j] = r[j + 1] := c.step j _ _ (List.getElem?_eq_getElem hj') (List.getElem?_eq_getElem hj)
    have hl : r.length - 1 < r.length := by omega
    have ex : r[r.length - 1] = x := by
      rw [List.getElem?_eq_getElem hl] at hx
      exact Option.some.inj hx
    have e2 : r[j] = x := g.inj (c.lt _ (List.getElem_mem hj')) (c.lt _ (ex ▸ List.getElem_mem hl)) (by rw [e1, e])
    have : j = r.length - 1 := (List.getElem_inj c.nd).mp (e2.trans ex.symm)
    omega

theorem last?_append {r : List Nat} {y : Nat} : (r ++ [y])[(r ++ [y]).length - 1]? = some y := by
  simp

theorem Chain.more {ns : List Nat} {h : Nat} {r : List Nat} (c : Chain ns h r) {x : Nat} (hx : r[r.length - 1]? = some x) (hn : nxt ns x ∉ r) (hl : nxt ns x < ns.length) : Chain ns h (r ++ [nxt ns x]) where
  head := by
    rw [List.getElem?_append_left c.pos]; exact c.head
  step := fun i a b ha hb => by
    by_cases hi : i + 1 < r.length
    · rw [List.getElem?_append_left (by omega)] at ha
      rw [List.getElem?_append_left hi] at hb
      exact c.step i a b ha hb
    · have hlt : i + 1 < (r ++ [nxt ns x]).length := by
        obtain ⟨h1, _⟩ := List.getElem?_eq_some_iff.mp hb; exact h1
      rw [List.length_append] at hlt
      simp at hlt
      have hi2 : i = r.length - 1 := by omega
      have hp := c.pos
      rw [List.getElem?_append_left (by omega), hi2, hx] at ha
      rw [List.getElem?_append_right (by omega)] at hb
      have : i + 1 - r.length = 0 := by omega
      rw [this] at hb
      cases ha
      simpa using hb
  nd := by
    rw [List.nodup_append]
    refine ⟨c.nd, by simp, ?_⟩
    intro a ha b hb
    simp at hb
    subst hb
    intro e; subst e; exact hn ha
  lt := fun y hy => by
    rcases List.mem_append.mp hy with z | z
    · exact c.lt y z
    · simp at z; subst z; exact hl

theorem Chain.last {ns : List Nat} {h : Nat} {r : List Nat} (c : Chain ns h r) : ∃ x, r[r.length - 1]? = some x ∧ x ∈ r ∧ x < ns.length := by
  have hp := c.pos
  have hl : r.length - 1 < r.length := by omega
  exact ⟨r[r.length - 1], List.getElem?_eq_getElem hl, List.getElem_mem hl, c.lt _ (List.getElem_mem hl)⟩

/-- the ring of a hand, by steps -/
def ringGo (ns : List Nat) (h : Nat) : Nat → List Nat → List Nat
  | 0, r => r
  | k + 1, r => if nxt ns (r.getLastD 0) = h then r else ringGo ns h k (r ++ [nxt ns (r.getLastD 0)])
def ringOf (ns : List Nat) (h : Nat) : List Nat := ringGo ns h ns.length [h]

theorem getLastD_of {r : List Nat} {x : Nat} (hx : r[r.length - 1]? = some x) : r.getLastD 0 = x := by
  rw [List.getLastD_eq_getLast?, List.getLast?_eq_getElem?, hx]; rfl

theorem ringGo_is {ns : List Nat} {h : Nat} (g : Good ns) : ∀ (k : Nat) (r : List Nat), Chain ns h r → ns.length < r.length + k → IsRing ns h (ringGo ns h k r)
  | 0, r, c, hk => by have := c.len_le; omega
  | k + 1, r, c, hk => by
    obtain ⟨x, hx, hm, hl⟩ := c.last
    unfold ringGo
    rw [getLastD_of hx]
    by_cases e : nxt ns x = h
    · rw [if_pos e]
      exact ⟨c, fun y hy => by rw [hx] at hy; cases hy; exact e⟩
    · rw [if_neg e]
      refine ringGo_is g k _ (c.more hx (fun z => e (c.slip g hx z)) (g.nxt_lt hl)) ?_
      rw [List.length_append, List.length_singleton]; omega

theorem ringOf_is {ns : List Nat} {h : Nat} (g : Good ns) (hh : h < ns.length) : IsRing ns h (ringOf ns h) :=
  ringGo_is g _ _ (Chain.one hh) (by simp)

theorem Chain.same {ns : List Nat} {h : Nat} {r q : List Nat} (c : Chain ns h r) (d : Chain ns h q) : ∀ i, i < r.length → i < q.length → r[i]? = q[i]?
  | 0, _, _ => c.head.trans d.head.symm
  | i + 1, h1, h2 => by
    have ih := Chain.same c d i (by omega) (by omega)
    have e1 := c.step i _ _ (List.getElem?_eq_getElem (by omega)) (List.getElem?_eq_getElem h1)
    have e2 := d.step i _ _ (List.getElem?_eq_getElem (by omega)) (List.getElem?_eq_getElem h2)
    rw [List.getElem?_eq_getElem (by omega), List.getElem?_eq_getElem (by omega)] at ih
    rw [List.getElem?_eq_getElem h1, List.getElem?_eq_getElem h2, ← e1, ← e2, Option.some.inj ih]

theorem IsRing.not_lt {ns : List Nat} {h : Nat} {r q : List Nat} (c : IsRing ns h r) (d : Chain ns h q) : ¬ r.length < q.length := fun hlt => by
  have hp := c.pos
  obtain ⟨x, hx, hm, hl⟩ := c.toChain.last
  have e := Chain.same c.toChain d (r.length - 1) (by omega) (by omega)
  have b := c.back x hx
  rw [hx] at e
  have s := d.step (r.length - 1) x _ e.symm (by rw [show r.length - 1 + 1 = r.length by omega]; exact List.getElem?_eq_getElem hlt)
  rw [b] at s
  have h0 := d.head
  have hq : 0 < q.length := by omega
  rw [List.getElem?_eq_getElem hq] at h0
  have : 0 = r.length := (List.getElem_inj d.nd).mp ((Option.some.inj h0).trans s)
  omega

theorem IsRing.unique {ns : List Nat} {h : Nat} {r q : List Nat} (c : IsRing ns h r) (d : IsRing ns h q) : r = q := by
  have hl : r.length = q.length := by
    have h1 := c.not_lt d.toChain
    have h2 := d.not_lt c.toChain
    omega
  apply List.ext_getElem? 
  intro i
  by_cases hi : i < r.length
  · exact Chain.same c.toChain d.toChain i hi (by omega)
  · rw [List.getElem?_eq_none (by omega), List.getElem?_eq_none (by omega)]

theorem IsRing.eq {ns : List Nat} {h : Nat} {r : List Nat} (g : Good ns) (c : IsRing ns h r) : r = ringOf ns h := c.unique (ringOf_is g c.toChain.hlt)

end Sb

namespace Sb

theorem ringOf_nd {ns : List Nat} {h : Nat} (g : Good ns) (hh : h < ns.length) : (ringOf ns h).Nodup := (ringOf_is g hh).nd
theorem ringOf_lt {ns : List Nat} {h x : Nat} (g : Good ns) (hh : h < ns.length) (hx : x ∈ ringOf ns h) : x < ns.length := (ringOf_is g hh).lt x hx
theorem ringOf_mem {ns : List Nat} {h : Nat} (g : Good ns) (hh : h < ns.length) : h ∈ ringOf ns h := (ringOf_is g hh).toChain.hmem
theorem ringOf_len {ns : List Nat} {h : Nat} (g : Good ns) (hh : h < ns.length) : (ringOf ns h).length ≤ ns.length := (ringOf_is g hh).toChain.len_le
theorem ringOf_pos {ns : List Nat} {h : Nat} (g : Good ns) (hh : h < ns.length) : 0 < (ringOf ns h).length := (ringOf_is g hh).toChain.pos

/-- consecutive boxes of a list, each leading to the next -/
def Leads (ns : List Nat) : List Nat → Prop
  | x :: y :: r => nxt ns x = y ∧ Leads ns (y :: r)
  | _ => True

/-- IsRing by a list's own form -/
theorem isRing_iff {ns : List Nat} {h : Nat} {r : List Nat} : IsRing ns h r ↔ r[0]? = some h ∧ r.Nodup ∧ (∀ x ∈ r, x < ns.length) ∧ ∀ i x y, r[i]? = some x → r[(i + 1) % r.length]? = some y → nxt ns x = y := by
  constructor
  · intro c
    refine ⟨c.head, c.nd, c.lt, fun i x y hx hy => ?_⟩
    have hi : i < r.length := (List.getElem?_eq_some_iff.mp hx).1
    by_cases hl : i + 1 < r.length
    · rw [Nat.mod_eq_of_lt hl] at hy
      exact c.step i x y hx hy
    · have e : i + 1 = r.length := by omega
      rw [e, Nat.mod_self, c.head] at hy
      cases hy
      exact c.back x (by rw [← e]; exact hx)
  · rintro ⟨h0, nd, lt, st⟩
    refine ⟨⟨h0, fun i x y hx hy => ?_, nd, lt⟩, fun x hx => ?_⟩
    · have hl : i + 1 < r.length := (List.getElem?_eq_some_iff.mp hy).1
      exact st i x y hx (by rw [Nat.mod_eq_of_lt hl]; exact hy)
    · have hi : r.length - 1 < r.length := (List.getElem?_eq_some_iff.mp hx).1
      exact st (r.length - 1) x h hx (by rw [show r.length - 1 + 1 = r.length by omega, Nat.mod_self]; exact h0)

/-- a ring turned -/
theorem IsRing.turn {ns : List Nat} {h y : Nat} {a b : List Nat} (c : IsRing ns h (a ++ y :: b)) : IsRing ns y (y :: b ++ a) := by
  rw [isRing_iff] at c ⊢
  obtain ⟨h0, nd, lt, st⟩ := c
  refine ⟨rfl, ?_, fun x hx => lt x ?_, fun i x z hx hz => ?_⟩
  · exact (List.perm_append_comm.nodup_iff).mp nd
  · exact (List.perm_append_comm.mem_iff).mp hx
  · have hn : (y :: b ++ a).length = (a ++ y :: b).length := by simp; omega
    have key : ∀ j, j < (a ++ y :: b).length → (y :: b ++ a)[j]? = (a ++ y :: b)[(j + a.length) % (a ++ y :: b).length]? := by
      intro j hj
      by_cases hjb : j < (y :: b).length
      · have e : (j + a.length) % (a ++ y :: b).length = j + a.length := Nat.mod_eq_of_lt (by rw [List.length_append]; omega)
        rw [e, List.getElem?_append_left hjb, List.getElem?_append_right (by omega)]
        congr 1; omega
      · have hl : (a ++ y :: b).length = a.length + (y :: b).length := List.length_append
        have e : (j + a.length) % (a ++ y :: b).length = j - (y :: b).length := by
          rw [Nat.mod_eq_sub_mod (by omega), Nat.mod_eq_of_lt (by omega)]; omega
        rw [e, List.getElem?_append_right (by omega), List.getElem?_append_left (by omega)]
    have hi : i < (a ++ y :: b).length := by
      have := (List.getElem?_eq_some_iff.mp hx).1; omega
    rw [key i hi] at hx
    rw [hn, key _ (Nat.mod_lt _ (by omega))] at hz
    refine st _ x z hx ?_
    rw [← hz]
    congr 1
    rw [Nat.mod_add_mod, Nat.mod_add_mod]
    congr 1; omega

theorem ringOf_turn {ns : List Nat} {h y : Nat} (g : Good ns) (hh : h < ns.length) (hy : y ∈ ringOf ns h) : ∃ a b, ringOf ns h = a ++ y :: b ∧ ringOf ns y = y :: b ++ a := by
  obtain ⟨a, b, e⟩ := List.append_of_mem hy
  have c := ringOf_is g hh
  rw [e] at c
  exact ⟨a, b, e, (c.turn.eq g).symm⟩

theorem ringOf_perm {ns : List Nat} {h y : Nat} (g : Good ns) (hh : h < ns.length) (hy : y ∈ ringOf ns h) : (ringOf ns y).Perm (ringOf ns h) := by
  obtain ⟨a, b, e1, e2⟩ := ringOf_turn g hh hy
  rw [e1, e2]
  exact List.perm_append_comm
theorem ringOf_mem_iff {ns : List Nat} {h y x : Nat} (g : Good ns) (hh : h < ns.length) (hy : y ∈ ringOf ns h) : x ∈ ringOf ns y ↔ x ∈ ringOf ns h := (ringOf_perm g hh hy).mem_iff
theorem ringOf_symm {ns : List Nat} {h y : Nat} (g : Good ns) (hh : h < ns.length) (hy : y ∈ ringOf ns h) : h ∈ ringOf ns y := (ringOf_mem_iff g hh hy).mpr (ringOf_mem g hh)
theorem ringOf_len_eq {ns : List Nat} {h y : Nat} (g : Good ns) (hh : h < ns.length) (hy : y ∈ ringOf ns h) : (ringOf ns y).length = (ringOf ns h).length := (ringOf_perm g hh hy).length_eq

/-- h is the least of its ring -/
def isMin (ns : List Nat) (h : Nat) : Bool := (ringOf ns h).all fun x => decide (h ≤ x)
theorem isMin_iff {ns : List Nat} {h : Nat} : isMin ns h = true ↔ ∀ x ∈ ringOf ns h, h ≤ x := by
  unfold isMin
  rw [List.all_eq_true]
  simp
/-- the rings from the boxes below k on -/
def ringsTo (ns : List Nat) (k : Nat) : List (List Nat) := ((List.range k).filter (isMin ns)).map (ringOf ns)
def ringsOf (ns : List Nat) : List (List Nat) := ringsTo ns ns.length
theorem ringsTo_zero (ns : List Nat) : ringsTo ns 0 = [] := rfl
theorem ringsTo_succ (ns : List Nat) (k : Nat) : ringsTo ns (k + 1) = if isMin ns k = true then ringsTo ns k ++ [ringOf ns k] else ringsTo ns k := by
  unfold ringsTo
  rw [List.range_succ, List.filter_append, List.map_append]
  by_cases h : isMin ns k = true
  · rw [if_pos h]; simp [h]
  · rw [if_neg h]; simp [h]

theorem exists_min : ∀ (r : List Nat), r ≠ [] → ∃ m, m ∈ r ∧ ∀ x ∈ r, m ≤ x
  | [], h => absurd rfl h
  | [a], _ => ⟨a, by simp, fun x hx => by simp at hx; omega⟩
  | a :: b :: l, _ => by
    obtain ⟨m, hm, hl⟩ := exists_min (b :: l) (by simp)
    by_cases h : a ≤ m
    · exact ⟨a, by simp, fun x hx => by
        rcases List.mem_cons.mp hx with e | e
        · omega
        · have := hl x e; omega⟩
    · exact ⟨m, List.mem_cons_of_mem _ hm, fun x hx => by
        rcases List.mem_cons.mp hx with e | e
        · omega
        · exact hl x e⟩

/-- box k stands in a ring from a lesser box on, just where it is not the least of its own -/
theorem gone_iff {ns : List Nat} (g : Good ns) {k : Nat} (hk : k < ns.length) : k ∈ (ringsTo ns k).flatten ↔ ¬ isMin ns k = true := by
  unfold ringsTo
  rw [List.mem_flatten]
  constructor
  · rintro ⟨r, hr, hkr⟩ hm
    obtain ⟨h, hh, rfl⟩ := List.mem_map.mp hr
    obtain ⟨h1, h2⟩ := List.mem_filter.mp hh
    have h3 := List.mem_range.mp h1
    have := isMin_iff.mp hm h (ringOf_symm g (by omega) hkr)
    omega
  · intro hm
    obtain ⟨m, hm1, hm2⟩ := exists_min (ringOf ns k) (fun e => by have := ringOf_pos g hk; rw [e] at this; simp at this)
    have hmk : m ≤ k := hm2 k (ringOf_mem g hk)
    have hml : m < ns.length := ringOf_lt g hk hm1
    have hmin : isMin ns m = true := isMin_iff.mpr fun x hx => hm2 x ((ringOf_mem_iff g hk hm1).mp hx)
    have hne : m ≠ k := fun e => by subst e; exact hm hmin
    exact ⟨ringOf ns m, List.mem_map.mpr ⟨m, List.mem_filter.mpr ⟨List.mem_range.mpr (by omega), hmin⟩, rfl⟩, ringOf_symm g hk hm1⟩

theorem ringsOf_mem {ns : List Nat} {r : List Nat} (h : r ∈ ringsOf ns) : ∃ k, k < ns.length ∧ isMin ns k = true ∧ r = ringOf ns k := by
  unfold ringsOf ringsTo at h
  obtain ⟨k, hk, rfl⟩ := List.mem_map.mp h
  obtain ⟨h1, h2⟩ := List.mem_filter.mp hk
  exact ⟨k, List.mem_range.mp h1, h2, rfl⟩
theorem ringsTo_len (ns : List Nat) (k : Nat) : (ringsTo ns k).length ≤ k := by
  unfold ringsTo
  rw [List.length_map]
  have := List.length_filter_le (isMin ns) (List.range k)
  rwa [List.length_range] at this
end Sb

namespace Sb

/-! ### boxes laid by a law's own steps -/
theorem good_of_perm {ns : List Nat} {m : Nat} (h : ns.Perm (List.range m)) : Good ns := ⟨by
  have e : ns.length = m := by rw [h.length_eq, List.length_range]
  rw [e]; exact h⟩
theorem insert_perm {ns : List Nat} {i m : Nat} (h : ns.Perm (List.range m)) : (ns.take i ++ [m] ++ ns.drop i).Perm (List.range (m + 1)) := by
  rw [List.range_succ]
  have h1 : (ns.take i ++ [m] ++ ns.drop i).Perm (ns.take i ++ ns.drop i ++ [m]) := by
    rw [List.append_assoc, List.append_assoc]
    exact List.Perm.append_left _ List.perm_append_comm
  rw [List.take_append_drop] at h1
  exact h1.trans (List.Perm.append_right _ h)

/-- slips laid one after the other -/
def layAll (f : List Nat) (ps : List (Nat × Nat)) : List Nat := ps.foldl (fun f p => f.set p.1 p.2) f
theorem layAll_snoc (f : List Nat) (ps : List (Nat × Nat)) (p : Nat × Nat) : layAll f (ps ++ [p]) = (layAll f ps).set p.1 p.2 := by
  unfold layAll; rw [List.foldl_append]; rfl
theorem layAll_len : ∀ (ps : List (Nat × Nat)) (f : List Nat), (layAll f ps).length = f.length
  | [], _ => rfl
  | p :: ps, f => by
    show (layAll (f.set p.1 p.2) ps).length = f.length
    rw [layAll_len ps, List.length_set]
theorem nxt_set_ne {f : List Nat} {i j v : Nat} (h : i ≠ j) : nxt (f.set i v) j = nxt f j := by
  unfold nxt; rw [List.getD_eq_getElem?_getD, List.getD_eq_getElem?_getD, List.getElem?_set_ne h]
theorem nxt_set_eq {f : List Nat} {i v : Nat} (h : i < f.length) : nxt (f.set i v) i = v := by
  unfold nxt; rw [List.getD_eq_getElem?_getD, List.getElem?_set_self h]; rfl
theorem layAll_out : ∀ (ps : List (Nat × Nat)) (f : List Nat) (x : Nat), x ∉ ps.map (·.1) → nxt (layAll f ps) x = nxt f x
  | [], _, _, _ => rfl
  | p :: ps, f, x, h => by
    show nxt (layAll (f.set p.1 p.2) ps) x = nxt f x
    rw [List.map_cons, List.mem_cons, not_or] at h
    rw [layAll_out ps _ x h.2, nxt_set_ne (fun e => h.1 e.symm)]
theorem layAll_in : ∀ (ps : List (Nat × Nat)) (f : List Nat), (ps.map (·.1)).Nodup → (∀ p ∈ ps, p.1 < f.length) → (ps.map (·.1)).map (nxt (layAll f ps)) = ps.map (·.2)
  | [], _, _, _ => rfl
  | p :: ps, f, nd, lt => by
    rw [List.map_cons, List.nodup_cons] at nd
    have e1 : nxt (layAll (f.set p.1 p.2) ps) p.1 = p.2 := by
      rw [layAll_out ps _ _ nd.1, nxt_set_eq (lt p List.mem_cons_self)]
    have e2 := layAll_in ps (f.set p.1 p.2) nd.2 (fun q hq => by rw [List.length_set]; exact lt q (List.mem_cons_of_mem _ hq))
    show nxt (layAll (f.set p.1 p.2) ps) p.1 :: (ps.map (·.1)).map (nxt (layAll (f.set p.1 p.2) ps)) = _
    rw [e1, e2]; rfl

/-- a ring's boxes and their slips -/
def rot (r : List Nat) : List Nat := r.drop 1 ++ r.take 1
theorem rot_perm (r : List Nat) : (rot r).Perm r := by
  unfold rot
  exact List.perm_append_comm.trans (by rw [List.take_append_drop])
theorem rot_len (r : List Nat) : (rot r).length = r.length := (rot_perm r).length_eq
theorem zip_fst {r q : List Nat} (h : r.length = q.length) : (r.zip q).map (·.1) = r := by
  rw [List.map_fst_zip]; omega
theorem zip_snd {r q : List Nat} (h : r.length = q.length) : (r.zip q).map (·.2) = q := by
  rw [List.map_snd_zip]; omega

/-- what holds between the blocks: the boxes of the first b of the order lead to one another -/
structure Laid (order f : List Nat) (b : Nat) : Prop where
  len : f.length = order.length
  perm : ((order.take b).map (nxt f)).Perm (order.take b)
theorem Laid.start (order : List Nat) (f : List Nat) (h : f.length = order.length) : Laid order f 0 := ⟨h, by simp⟩
theorem Laid.step {order f : List Nat} {b s : Nat} (ho : order.Perm (List.range order.length)) (L : Laid order f b) :
    Laid order (layAll f (((order.drop b).take s).zip (rot ((order.drop b).take s)))) (b + s) := by
  have nd : order.Nodup := ho.nodup_iff.mpr List.nodup_range
  have hr : ((order.drop b).take s).length = (rot ((order.drop b).take s)).length := (rot_len _).symm
  have et : order.take (b + s) = order.take b ++ (order.drop b).take s := List.take_add
  have nd2 : (order.take b ++ (order.drop b).take s).Nodup := by
    rw [← et]; exact nd.sublist (List.take_sublist _ _)
  rw [List.nodup_append] at nd2
  refine ⟨by rw [layAll_len]; exact L.len, ?_⟩
  rw [et, List.map_append]
  refine List.Perm.append ?_ ?_
  · have e : (order.take b).map (nxt (layAll f (((order.drop b).take s).zip (rot ((order.drop b).take s))))) = (order.take b).map (nxt f) := by
      apply List.map_congr_left
      intro x hx
      refine layAll_out _ _ _ ?_
      rw [zip_fst hr]
      exact fun z => nd2.2.2 x hx x z rfl
    rw [e]; exact L.perm
  · have e := layAll_in (((order.drop b).take s).zip (rot ((order.drop b).take s))) f (by rw [zip_fst hr]; exact nd2.2.1) (fun p hp => by
      have h1 : p.1 ∈ (order.drop b).take s := by
        rw [← zip_fst hr]; exact List.mem_map.mpr ⟨p, hp, rfl⟩
      have h2 : p.1 ∈ order := List.mem_of_mem_drop (List.mem_of_mem_take h1)
      rw [L.len]
      exact List.mem_range.mp (ho.mem_iff.mp h2))
    rw [zip_fst hr, zip_snd hr] at e
    rw [e]; exact rot_perm _
theorem map_nxt_range (f : List Nat) : (List.range f.length).map (nxt f) = f := by
  apply List.ext_getElem?
  intro i
  rw [List.getElem?_map]
  by_cases h : i < f.length
  · rw [List.getElem?_range h, nxt_get? h]; rfl
  · rw [List.getElem?_eq_none (by rw [List.length_range]; omega), List.getElem?_eq_none (by omega)]; rfl
theorem Laid.done {order f : List Nat} {b : Nat} (ho : order.Perm (List.range order.length)) (L : Laid order f b) (hb : order.length ≤ b) : Good f := by
  have p := L.perm
  rw [List.take_of_length_le hb] at p
  have q : ((List.range f.length).map (nxt f)).Perm (order.map (nxt f)) := by
    rw [L.len]; exact (ho.map _).symm
  rw [map_nxt_range] at q
  refine good_of_perm (m := order.length) ?_
  exact (q.trans p).trans ho

theorem flatten_len {n : Nat} : ∀ (l : List (List Nat)), (∀ r ∈ l, r.length ≤ n) → l.flatten.length ≤ l.length * n
  | [], _ => by simp
  | r :: l, h => by
    have ih := flatten_len l fun q hq => h q (List.mem_cons_of_mem _ hq)
    have h1 := h r List.mem_cons_self
    rw [List.flatten_cons, List.length_append, List.length_cons, Nat.succ_mul]
    omega
theorem ringsTo_flat {ns : List Nat} (g : Good ns) {k : Nat} (hk : k ≤ ns.length) : (ringsTo ns k).flatten.length ≤ k * ns.length := by
  have h := flatten_len (n := ns.length) (ringsTo ns k) fun r hr => by
    unfold ringsTo at hr
    obtain ⟨h, hh, rfl⟩ := List.mem_map.mp hr
    have := List.mem_range.mp (List.mem_filter.mp hh).1
    exact ringOf_len g (by omega)
  exact Nat.le_trans h (Nat.mul_le_mul_right _ (ringsTo_len ns k))
end Sb

namespace Sb

/-! ### hands that open at most m boxes; lists of any numbers that are rings -/
def Short (ns : List Nat) (m : Nat) : Prop := ∀ h, h < ns.length → (ringOf ns h).length ≤ m
def longOf (ns : List Nat) (m : Nat) : List (List Nat) := (ringsOf ns).filter fun r => decide (m < r.length)
theorem min_of {ns : List Nat} (g : Good ns) {h : Nat} (hh : h < ns.length) : ∃ k, k < ns.length ∧ isMin ns k = true ∧ k ∈ ringOf ns h ∧ (ringOf ns k).length = (ringOf ns h).length := by
  obtain ⟨m, hm1, hm2⟩ := exists_min (ringOf ns h) (fun e => by have := ringOf_pos g hh; rw [e] at this; simp at this)
  exact ⟨m, ringOf_lt g hh hm1, isMin_iff.mpr fun x hx => hm2 x ((ringOf_mem_iff g hh hm1).mp hx), hm1, ringOf_len_eq g hh hm1⟩
theorem mem_ringsOf {ns : List Nat} {k : Nat} (hk : k < ns.length) (hm : isMin ns k = true) : ringOf ns k ∈ ringsOf ns :=
  List.mem_map.mpr ⟨k, List.mem_filter.mpr ⟨List.mem_range.mpr hk, hm⟩, rfl⟩
theorem longOf_nil {ns : List Nat} (g : Good ns) {m : Nat} : longOf ns m = [] ↔ Short ns m := by
  unfold longOf
  rw [List.filter_eq_nil_iff]
  constructor
  · intro h i hi
    obtain ⟨k, hk, hmin, _, hl⟩ := min_of g hi
    have := h _ (mem_ringsOf hk hmin)
    simp at this
    omega
  · intro h r hr
    obtain ⟨k, hk, _, rfl⟩ := ringsOf_mem hr
    have := h k hk
    simp
    omega
theorem longOf_mem {ns : List Nat} {m : Nat} {r : List Nat} (h : r ∈ longOf ns m) : ∃ k, k < ns.length ∧ isMin ns k = true ∧ r = ringOf ns k ∧ m < r.length := by
  unfold longOf at h
  obtain ⟨h1, h2⟩ := List.mem_filter.mp h
  obtain ⟨k, hk, hm, e⟩ := ringsOf_mem h1
  exact ⟨k, hk, hm, e, by simpa using h2⟩
theorem longOf_len (ns : List Nat) (m : Nat) : (longOf ns m).length ≤ ns.length := by
  unfold longOf
  exact Nat.le_trans (List.length_filter_le _ _) (ringsTo_len ns ns.length)

/-- a list of numbers of any kind is a ring, from some box on -/
def RingI (ns : List Nat) (r : List Int) : Prop := ∃ (h : Nat) (q : List Nat), r = q.map (fun (n : Nat) => (n : Int)) ∧ IsRing ns h q
theorem ringOf_ringI {ns : List Nat} (g : Good ns) {h : Nat} (hh : h < ns.length) : RingI ns ((ringOf ns h).map fun (n : Nat) => (n : Int)) := ⟨h, _, rfl, ringOf_is g hh⟩
theorem cast_toNat {r : List Int} (h : ∀ x ∈ r, 0 ≤ x) : r = (r.map Int.toNat).map (fun (n : Nat) => (n : Int)) := by
  rw [List.map_map]
  conv => lhs; rw [← List.map_id r]
  apply List.map_congr_left
  intro x hx
  have := h x hx
  show x = ((x.toNat : Nat) : Int)
  omega
theorem castN_inj {a b : List Nat} (h : a.map (fun (n : Nat) => (n : Int)) = b.map (fun (n : Nat) => (n : Int))) : a = b := by
  have := congrArg (List.map Int.toNat) h
  rw [List.map_map, List.map_map] at this
  have e : ∀ l : List Nat, l.map (Int.toNat ∘ fun (n : Nat) => (n : Int)) = l := fun l => by
    conv => rhs; rw [← List.map_id l]
    apply List.map_congr_left
    intro x _
    rfl
  rwa [e, e] at this
theorem castN_nodup {q : List Nat} : (q.map (fun (n : Nat) => (n : Int))).Nodup ↔ q.Nodup := by
  constructor
  · intro h
    exact (List.pairwise_map.mp h).imp fun hab e => hab (by rw [e])
  · intro h
    exact List.Pairwise.map _ (fun a b hab e => hab (by omega)) h
/-- by its consecutive boxes -/
theorem ringI_steps {ns : List Nat} {r : List Int} : RingI ns r ↔ r ≠ [] ∧ r.Nodup ∧ (∀ x ∈ r, 0 ≤ x ∧ x < (ns.length : Int)) ∧ ∀ (i : Nat) (x y : Int), r[i]? = some x → (r.drop 1 ++ r.take 1)[i]? = some y → ((nxt ns x.toNat : Nat) : Int) = y := by
  have rotg : ∀ {α : Type} (l : List α) (i : Nat), i < l.length → (l.drop 1 ++ l.take 1)[i]? = l[(i + 1) % l.length]? := by
    intro α l i hi
    by_cases h : i + 1 < l.length
    · rw [Nat.mod_eq_of_lt h, List.getElem?_append_left (by rw [List.length_drop]; omega), List.getElem?_drop]
      congr 1; omega
    · have e : i + 1 = l.length := by omega
      rw [e, Nat.mod_self, List.getElem?_append_right (by rw [List.length_drop]; omega), List.length_drop]
      rw [show i - (l.length - 1) = 0 by omega, List.getElem?_take, if_pos (by omega)]
  constructor
  · rintro ⟨h, q, rfl, c⟩
    have c' := isRing_iff.mp c
    obtain ⟨h0, nd, lt, st⟩ := c'
    refine ⟨fun e => ?_, castN_nodup.mpr nd, fun x hx => ?_, fun i x y hx hy => ?_⟩
    · have : q = [] := by simpa using e
      rw [this] at h0; simp at h0
    · obtain ⟨n, hn, rfl⟩ := List.mem_map.mp hx
      have := lt n hn
      omega
    · have hi : i < (q.map (fun (n : Nat) => (n : Int))).length := (List.getElem?_eq_some_iff.mp hx).1
      rw [rotg _ _ hi, List.getElem?_map, List.length_map] at hy
      rw [List.getElem?_map] at hx
      obtain ⟨a, ha, rfl⟩ := Option.map_eq_some_iff.mp hx
      obtain ⟨b, hb, rfl⟩ := Option.map_eq_some_iff.mp hy
      have := st i a b ha hb
      rw [Int.toNat_natCast, this]
  · rintro ⟨hne, nd, lt, st⟩
    have e := cast_toNat (fun x hx => (lt x hx).1)
    generalize eq : r.map Int.toNat = q at e
    subst e
    have hq : q ≠ [] := fun z => hne (by rw [z]; rfl)
    obtain ⟨h, l, rfl⟩ := List.exists_cons_of_ne_nil hq
    refine ⟨h, _, rfl, isRing_iff.mpr ⟨rfl, castN_nodup.mp nd, fun x hx => ?_, fun i x y hx hy => ?_⟩⟩
    · have := lt (x : Int) (List.mem_map.mpr ⟨x, hx, rfl⟩)
      omega
    · have hi : i < (h :: l).length := (List.getElem?_eq_some_iff.mp hx).1
      have h1 : ((h :: l).map (fun (n : Nat) => (n : Int)))[i]? = some (x : Int) := by rw [List.getElem?_map, hx]; rfl
      have h2 : (((h :: l).map (fun (n : Nat) => (n : Int))).drop 1 ++ ((h :: l).map (fun (n : Nat) => (n : Int))).take 1)[i]? = some (y : Int) := by
        rw [rotg _ _ (by rw [List.length_map]; exact hi), List.getElem?_map, List.length_map, hy]; rfl
      have := st i _ _ h1 h2
      rw [Int.toNat_natCast] at this
      omega
/-- by the ring of its first box -/
theorem ringI_first {ns : List Nat} (g : Good ns) {r : List Int} {x : Int} (hr : r[0]? = some x) (lt : ∀ x ∈ r, 0 ≤ x ∧ x < (ns.length : Int)) :
    RingI ns r ↔ r = (ringOf ns x.toNat).map (fun (n : Nat) => (n : Int)) := by
  have hx := lt x (List.mem_of_getElem? hr)
  constructor
  · rintro ⟨h, q, rfl, c⟩
    have h0 := c.head
    rw [List.getElem?_map, h0] at hr
    cases hr
    rw [Int.toNat_natCast, ← c.eq g]
  · intro e
    rw [e]
    exact ringOf_ringI g (by omega)
theorem ring_back {ns : List Nat} (g : Good ns) {h x : Nat} (hh : h < ns.length) (hx : (ringOf ns h)[(ringOf ns h).length - 1]? = some x) : nxt ns x = h := (ringOf_is g hh).back x hx
/-- a ring with one more box is none -/
theorem ring_more {ns : List Nat} {h x : Nat} {q : List Nat} (c : IsRing ns h q) : ¬ RingI ns (q.map (fun (n : Nat) => (n : Int)) ++ [(x : Int)]) := by
  rintro ⟨h', q', e, c'⟩
  have e2 : q' = q ++ [x] := castN_inj (by rw [← e, List.map_append]; rfl)
  subst e2
  have hh : h' = h := by
    have h1 := c'.head
    have h2 := c.head
    rw [List.getElem?_append_left c.toChain.pos, h2] at h1
    cases h1; rfl
  subst hh
  exact c.not_lt c'.toChain (by rw [List.length_append]; show _ < _ + 1; omega)
end Sb

namespace Sb

/-! ### the slips of two boxes exchanged -/
def exch (ns : List Nat) (i j : Nat) : List Nat := (ns.set i (nxt ns j)).set j (nxt ns i)
theorem exch_len (ns : List Nat) (i j : Nat) : (exch ns i j).length = ns.length := by
  unfold exch; rw [List.length_set, List.length_set]
theorem exch_perm {ns : List Nat} {i j : Nat} (hi : i < ns.length) (hj : j < ns.length) : (exch ns i j).Perm ns := by
  unfold exch
  rw [nxt_get hi, nxt_get hj]
  exact List.set_set_perm hi hj
theorem exch_good {ns : List Nat} (g : Good ns) {i j : Nat} (hi : i < ns.length) (hj : j < ns.length) : Good (exch ns i j) := ⟨by
  rw [exch_len]
  exact (exch_perm hi hj).trans g.perm⟩
theorem exch_nxt {ns : List Nat} {i j x : Nat} (h1 : x ≠ i) (h2 : x ≠ j) : nxt (exch ns i j) x = nxt ns x := by
  unfold exch
  rw [nxt_set_ne (fun e => h2 e.symm), nxt_set_ne (fun e => h1 e.symm)]
theorem exch_nxt_j {ns : List Nat} {i j : Nat} (hj : j < ns.length) : nxt (exch ns i j) j = nxt ns i := by
  unfold exch
  rw [nxt_set_eq (by rw [List.length_set]; exact hj)]
theorem exch_nxt_i {ns : List Nat} {i j : Nat} (hi : i < ns.length) : nxt (exch ns i j) i = nxt ns j := by
  by_cases e : i = j
  · subst e; exact exch_nxt_j hi
  · unfold exch
    rw [nxt_set_ne (fun z => e z.symm), nxt_set_eq hi]
theorem exch_self {ns : List Nat} {i : Nat} (hi : i < ns.length) : exch ns i i = ns := by
  unfold exch
  rw [List.set_set, nxt_get hi, List.set_getElem_self]
theorem exch_comm (ns : List Nat) (i j : Nat) : exch ns i j = exch ns j i := by
  by_cases e : i = j
  · rw [e]
  · unfold exch
    exact List.set_comm _ _ e

theorem mem_dropLast_of {r : List Nat} {k x y : Nat} (hx : r[k]? = some x) (hy : r[k + 1]? = some y) : x ∈ r.dropLast := by
  have hl : k + 1 < r.length := (List.getElem?_eq_some_iff.mp hy).1
  have hk : k < r.length := by omega
  have ex : r[k] = x := by
    rw [List.getElem?_eq_getElem hk] at hx
    exact Option.some.inj hx
  have hd : k < r.dropLast.length := by rw [List.length_dropLast]; omega
  have : r.dropLast[k] = x := by rw [List.getElem_dropLast, ex]
  rw [← this]
  exact List.getElem_mem hd
theorem Chain.exch {ns : List Nat} {h : Nat} {q : List Nat} {i j : Nat} (c : Chain ns h q) (hi : i ∉ q.dropLast) (hj : j ∉ q.dropLast) : Chain (exch ns i j) h q where
  head := c.head
  step := fun k x y hx hy => by
    have hm := mem_dropLast_of hx hy
    rw [exch_nxt (x := x) (fun e => hi (by rw [← e]; exact hm)) (fun e => hj (by rw [← e]; exact hm))]
    exact c.step k x y hx hy
  nd := c.nd
  lt := fun x hx => by rw [exch_len]; exact c.lt x hx
theorem Chain.left {ns : List Nat} {h : Nat} {a b : List Nat} (c : Chain ns h (a ++ b)) (ha : a ≠ []) : Chain ns h a where
  head := by
    have := c.head
    rwa [List.getElem?_append_left (List.length_pos_iff.mpr ha)] at this
  step := fun k x y hx hy => by
    have h2 := (List.getElem?_eq_some_iff.mp hy).1
    refine c.step k x y ?_ ?_
    · rw [List.getElem?_append_left (by omega)]; exact hx
    · rw [List.getElem?_append_left h2]; exact hy
  nd := (List.nodup_append.mp c.nd).1
  lt := fun x hx => c.lt x (List.mem_append_left _ hx)
theorem Chain.right {ns : List Nat} {h y : Nat} {a b : List Nat} (c : Chain ns h (a ++ y :: b)) : Chain ns y (y :: b) where
  head := rfl
  step := fun k x z hx hz => by
    refine c.step (a.length + k) x z ?_ ?_
    · rw [List.getElem?_append_right (by omega), Nat.add_sub_cancel_left]; exact hx
    · rw [List.getElem?_append_right (by omega), show a.length + k + 1 - a.length = k + 1 by omega]; exact hz
  nd := (List.nodup_append.mp c.nd).2.1
  lt := fun x hx => c.lt x (List.mem_append_right _ hx)
theorem Chain.notShort {ns : List Nat} (g : Good ns) {h m : Nat} {q : List Nat} (c : Chain ns h q) (hm : m < q.length) : ¬ Short ns m := fun s => by
  have h1 := s h c.hlt
  have h2 := (ringOf_is g c.hlt).not_lt c
  omega
theorem nxt_mem {ns : List Nat} (g : Good ns) {i : Nat} (hi : i < ns.length) : nxt ns i ∈ ringOf ns i := by
  obtain ⟨h0, _, _, st⟩ := isRing_iff.mp (ringOf_is g hi)
  have hp := ringOf_pos g hi
  have hl : (0 + 1) % (ringOf ns i).length < (ringOf ns i).length := Nat.mod_lt _ hp
  rw [st 0 i _ h0 (List.getElem?_eq_getElem hl)]
  exact List.getElem_mem hl
/-- the ring of the box behind i ends with i -/
theorem ring_ends {ns : List Nat} (g : Good ns) {i : Nat} (hi : i < ns.length) : ∃ d, ringOf ns (nxt ns i) = d ++ [i] := by
  have hn := g.nxt_lt hi
  have R := ringOf_is g hn
  obtain ⟨x, hx, hm, hl⟩ := R.toChain.last
  have e : x = i := g.inj hl hi (R.back x hx)
  subst e
  have hne : ringOf ns (nxt ns x) ≠ [] := fun z => by rw [z] at hm; cases hm
  have hlt : (ringOf ns (nxt ns x)).length - 1 < (ringOf ns (nxt ns x)).length := by
    have := List.length_pos_iff.mpr hne
    omega
  refine ⟨(ringOf ns (nxt ns x)).dropLast, ?_⟩
  have := List.dropLast_concat_getLast hne
  rw [List.getLast_eq_getElem] at this
  rw [List.getElem?_eq_getElem hlt] at hx
  rw [Option.some.inj hx] at this
  exact this.symm
/-- a ring that is too long stays so, where not both boxes are its own -/
theorem bars_one {ns : List Nat} (g : Good ns) {i j h m : Nat} (hi : i < ns.length) (hj : j < ns.length) (hh : h < ns.length) (hm : m < (ringOf ns h).length) (ho : ¬ (i ∈ ringOf ns h ∧ j ∈ ringOf ns h) ∨ i = j) : ¬ Short (exch ns i j) m := by
  by_cases e : i = j
  · subst e
    rw [exch_self hi]
    intro s
    have := s h hh
    omega
  have hnb : ¬ (i ∈ ringOf ns h ∧ j ∈ ringOf ns h) := ho.resolve_right e
  have one : ∀ i j : Nat, i < ns.length → j < ns.length → i ∈ ringOf ns h → j ∉ ringOf ns h → ¬ Short (exch ns i j) m := fun i j hi hj hir hjr => by
    obtain ⟨d, ed⟩ := ring_ends g hi
    have hn := g.nxt_lt hi
    have hmem : nxt ns i ∈ ringOf ns h := (ringOf_mem_iff g hh hir).mp (nxt_mem g hi)
    have c := (ringOf_is g hn).toChain
    have nd := c.nd
    rw [ed] at nd
    have hlen := ringOf_len_eq g hh hmem
    refine (c.exch (i := i) (j := j) ?_ ?_).notShort (exch_good g hi hj) (by omega)
    · rw [ed, List.dropLast_concat]
      intro z
      exact (List.nodup_append.mp nd).2.2 i z i (by simp) rfl
    · rw [ed, List.dropLast_concat]
      intro z
      apply hjr
      rw [← ringOf_mem_iff g hh hmem, ed]
      exact List.mem_append_left _ z
  by_cases hir : i ∈ ringOf ns h
  · exact one i j hi hj hir fun z => hnb ⟨hir, z⟩
  · by_cases hjr : j ∈ ringOf ns h
    · rw [exch_comm]
      exact one j i hj hi hjr hir
    · refine ((ringOf_is g hh).toChain.exch (i := i) (j := j) (fun z => hir (List.dropLast_subset _ z)) (fun z => hjr (List.dropLast_subset _ z))).notShort (exch_good g hi hj) hm
/-- a ring more than twice too long bars every exchange -/
theorem bars_two {ns : List Nat} (g : Good ns) {i j h m : Nat} (hi : i < ns.length) (hj : j < ns.length) (hh : h < ns.length) (hm : 2 * m < (ringOf ns h).length) : ¬ Short (exch ns i j) m := by
  by_cases ho : ¬ (i ∈ ringOf ns h ∧ j ∈ ringOf ns h) ∨ i = j
  · exact bars_one g hi hj hh (by omega) ho
  have hb : i ∈ ringOf ns h ∧ j ∈ ringOf ns h := by
    by_cases z : i ∈ ringOf ns h ∧ j ∈ ringOf ns h
    · exact z
    · exact absurd (.inl z) ho
  have hne : i ≠ j := fun z => ho (.inr z)
  obtain ⟨hir, hjr⟩ := hb
  obtain ⟨d, ed⟩ := ring_ends g hi
  have hn := g.nxt_lt hi
  have hmem : nxt ns i ∈ ringOf ns h := (ringOf_mem_iff g hh hir).mp (nxt_mem g hi)
  have c := (ringOf_is g hn).toChain
  have hlen := ringOf_len_eq g hh hmem
  have hjd : j ∈ d := by
    have : j ∈ ringOf ns (nxt ns i) := (ringOf_mem_iff g hh hmem).mpr hjr
    rw [ed] at this
    rcases List.mem_append.mp this with z | z
    · exact z
    · simp at z; exact absurd z.symm hne
  obtain ⟨q1, q2, eq⟩ := List.append_of_mem hjd
  have er : ringOf ns (nxt ns i) = (q1 ++ [j]) ++ (q2 ++ [i]) := by rw [ed, eq]; simp
  rw [er] at c hlen
  have nd := c.nd
  have g' := exch_good g hi hj
  have hl : (q1 ++ [j]).length + (q2 ++ [i]).length = (ringOf ns h).length := by rw [← List.length_append]; exact hlen
  obtain ⟨nd1, nd2, nd3⟩ := List.nodup_append.mp nd
  by_cases h1 : m < (q1 ++ [j]).length
  · refine ((c.left (by simp)).exch (i := i) (j := j) ?_ ?_).notShort g' h1
    · rw [List.dropLast_concat]
      intro z
      exact nd3 i (List.mem_append_left _ z) i (by simp) rfl
    · rw [List.dropLast_concat]
      intro z
      exact (List.nodup_append.mp nd1).2.2 j z j (by simp) rfl
  · have h2 : m < (q2 ++ [i]).length := by omega
    obtain ⟨y, t, ey⟩ := List.exists_cons_of_ne_nil (show q2 ++ [i] ≠ [] by simp)
    rw [ey] at c
    have c2 := c.right
    rw [← ey] at c2
    refine (c2.exch (i := i) (j := j) ?_ ?_).notShort g' h2
    · rw [List.dropLast_concat]
      intro z
      exact (List.nodup_append.mp nd2).2.2 i z i (by simp) rfl
    · rw [List.dropLast_concat]
      intro z
      exact nd3 j (by simp) j (List.mem_append_left _ z) rfl

/-! ### the rings that are too long, by their least boxes -/
theorem longOf_eq (ns : List Nat) (m : Nat) : longOf ns m = ((List.range ns.length).filter fun k => isMin ns k && decide (m < (ringOf ns k).length)).map (ringOf ns) := by
  unfold longOf ringsOf ringsTo
  rw [List.filter_map, List.filter_filter]
  congr 1
  apply List.filter_congr
  intro k _
  show (decide (m < (ringOf ns k).length) && isMin ns k) = _
  rw [Bool.and_comm]
theorem min_disj {ns : List Nat} (g : Good ns) {a b : Nat} (ha : a < ns.length) (hb : b < ns.length) (h1 : isMin ns a = true) (h2 : isMin ns b = true) (hab : a ≠ b) {x : Nat} (hx : x ∈ ringOf ns a) : x ∉ ringOf ns b := fun z => by
  have e1 : b ∈ ringOf ns a := (ringOf_mem_iff g ha hx).mp (ringOf_symm g hb z)
  have e2 : a ∈ ringOf ns b := (ringOf_mem_iff g hb z).mp (ringOf_symm g ha hx)
  have := isMin_iff.mp h1 b e1
  have := isMin_iff.mp h2 a e2
  omega
theorem longOf_disj {ns : List Nat} (g : Good ns) (m : Nat) : (longOf ns m).Pairwise fun r q => ∀ x ∈ r, x ∉ q := by
  rw [longOf_eq, List.pairwise_map]
  have h0 : ((List.range ns.length).filter fun k => isMin ns k && decide (m < (ringOf ns k).length)).Pairwise (· < ·) := List.Pairwise.filter _ (List.pairwise_lt_range)
  refine List.Pairwise.imp_of_mem ?_ h0
  intro a b ha hb hab x hx
  obtain ⟨ha1, ha2⟩ := List.mem_filter.mp ha
  obtain ⟨hb1, hb2⟩ := List.mem_filter.mp hb
  rw [Bool.and_eq_true] at ha2 hb2
  exact min_disj g (List.mem_range.mp ha1) (List.mem_range.mp hb1) ha2.1 hb2.1 (by omega) hx
theorem bars_rings {ns : List Nat} (g : Good ns) {m : Nat} (h : 1 < (longOf ns m).length) {i j : Nat} (hi : i < ns.length) (hj : j < ns.length) : ¬ Short (exch ns i j) m := by
  have h0 : 0 < (longOf ns m).length := by omega
  obtain ⟨k0, hk0, _, e0, hl0⟩ := longOf_mem (List.getElem_mem h0)
  obtain ⟨k1, hk1, _, e1, hl1⟩ := longOf_mem (List.getElem_mem h)
  have dj := List.pairwise_iff_getElem.mp (longOf_disj g m) 0 1 h0 h (by omega)
  rw [e0, e1] at dj
  rw [e0] at hl0
  rw [e1] at hl1
  by_cases hb : i ∈ ringOf ns k0 ∧ j ∈ ringOf ns k0
  · exact bars_one g hi hj hk1 hl1 (.inl fun z => dj i hb.1 z.1)
  · exact bars_one g hi hj hk0 hl0 (.inl hb)

/-! ### one ring that is too long, not more than twice: cut -/
theorem mend_ok {ns : List Nat} (g : Good ns) {m : Nat} (hm : 1 ≤ m) {r : List Nat} (er : longOf ns m = [r]) (hr : r.length ≤ 2 * m) {i j : Nat} (hi : r[m - 1]? = some i) (hj : r[r.length - 1]? = some j) :
    i < ns.length ∧ j < ns.length ∧ Short (exch ns i j) m := by
  obtain ⟨k, hk, hmin, e, hl⟩ := longOf_mem (r := r) (m := m) (by rw [er]; simp)
  have R := ringOf_is g hk
  rw [← e] at R
  have hil := R.lt i (List.mem_of_getElem? hi)
  have hjl := R.lt j (List.mem_of_getElem? hj)
  refine ⟨hil, hjl, ?_⟩
  have g' := exch_good g hil hjl
  -- the two parts
  have ea : r.take m = r.take (m - 1) ++ [i] := by
    have := List.take_add_one (l := r) (i := m - 1)
    rw [show m - 1 + 1 = m by omega, hi] at this
    exact this
  have hne : r ≠ [] := fun z => by rw [z] at hl; simp at hl
  have eb : r.drop m = (r.drop m).dropLast ++ [j] := by
    have hd : r.drop m ≠ [] := fun z => by
      have := congrArg List.length z
      rw [List.length_drop] at this
      simp at this
      omega
    have := List.dropLast_concat_getLast hd
    rw [List.getLast_drop, List.getLast_eq_getElem] at this
    have hlt : r.length - 1 < r.length := by omega
    rw [List.getElem?_eq_getElem hlt] at hj
    rw [Option.some.inj hj] at this
    exact this.symm
  have eab : r.take m ++ r.drop m = r := List.take_append_drop m r
  have la : (r.take m).length = m := by rw [List.length_take]; omega
  have lb : (r.drop m).length = r.length - m := List.length_drop
  have c := R.toChain
  rw [← eab] at c
  have nd := c.nd
  obtain ⟨nd1, nd2, nd3⟩ := List.nodup_append.mp nd
  have hia : i ∈ r.take m := by rw [ea]; simp
  have hjb : j ∈ r.drop m := by rw [eb]; simp
  have ca : IsRing (exch ns i j) k (r.take m) := by
    refine ⟨(c.left (fun z => by rw [z] at la; simp at la; omega)).exch ?_ ?_, fun x hx => ?_⟩
    · intro z
      rw [ea, List.dropLast_concat] at z
      rw [ea] at nd1
      exact (List.nodup_append.mp nd1).2.2 i z i (by simp) rfl
    · intro z
      exact nd3 j (List.dropLast_subset _ z) j hjb rfl
    · rw [la, List.getElem?_take, if_pos (by omega), hi] at hx
      cases hx
      rw [exch_nxt_i hil]
      exact R.back j hj
  obtain ⟨y, t, ey⟩ := List.exists_cons_of_ne_nil (show r.drop m ≠ [] from fun z => by rw [z] at hjb; cases hjb)
  have cb : IsRing (exch ns i j) y (r.drop m) := by
    have c2 := c
    rw [ey] at c2
    have c3 := c2.right
    rw [← ey] at c3
    refine ⟨c3.exch ?_ ?_, fun x hx => ?_⟩
    · intro z
      exact nd3 i hia i (List.dropLast_subset _ z) rfl
    · intro z
      rw [eb, List.dropLast_concat] at z
      rw [eb] at nd2
      exact (List.nodup_append.mp nd2).2.2 j z j (by simp) rfl
    · have hx2 : x = j := by
        rw [List.getElem?_drop, lb, show m + (r.length - m - 1) = r.length - 1 by omega, hj] at hx
        cases hx; rfl
      rw [hx2, exch_nxt_j hjl]
      refine R.step (m - 1) i y hi ?_
      rw [show m - 1 + 1 = m by omega]
      have : (r.drop m)[0]? = some y := by rw [ey]; rfl
      rw [List.getElem?_drop, Nat.add_zero] at this
      exact this
  have eqa := ca.eq g'
  have eqb := cb.eq g'
  have hk' : k < (exch ns i j).length := ca.toChain.hlt
  have hy' : y < (exch ns i j).length := cb.toChain.hlt
  intro h hh
  by_cases ha : h ∈ r.take m
  · rw [ringOf_len_eq g' hk' (by rw [← eqa]; exact ha), ← eqa]
    omega
  · by_cases hb : h ∈ r.drop m
    · rw [ringOf_len_eq g' hy' (by rw [← eqb]; exact hb), ← eqb]
      omega
    · have hr0 : h ∉ r := fun z => by
        rw [← eab] at z
        rcases List.mem_append.mp z with z | z
        · exact ha z
        · exact hb z
      rw [exch_len] at hh
      have out : ∀ x, x ∈ r → x ∉ ringOf ns h := fun x hx z => by
        apply hr0
        rw [e] at hx ⊢
        exact (ringOf_mem_iff g hk hx).mp (ringOf_symm g hh z)
      have hio := out i (List.mem_of_getElem? hi)
      have hjo := out j (List.mem_of_getElem? hj)
      have H := ringOf_is g hh
      have H' : IsRing (exch ns i j) h (ringOf ns h) := by
        refine ⟨H.toChain.exch (fun z => hio (List.dropLast_subset _ z)) (fun z => hjo (List.dropLast_subset _ z)), fun x hx => ?_⟩
        have hxm := List.mem_of_getElem? hx
        rw [exch_nxt (x := x) (fun z => hio (by rw [← z]; exact hxm)) (fun z => hjo (by rw [← z]; exact hxm))]
        exact H.back x hx
      rw [← H'.eq g']
      by_cases hlong : (ringOf ns h).length ≤ m
      · exact hlong
      · exfalso
        obtain ⟨k2, hk2, hmin2, hm2, hl2⟩ := min_of g hh
        have hin : ringOf ns k2 ∈ longOf ns m := by
          unfold longOf
          exact List.mem_filter.mpr ⟨mem_ringsOf hk2 hmin2, by simp; omega⟩
        rw [er, List.mem_singleton] at hin
        apply hr0
        rw [← hin]
        exact ringOf_symm g hh hm2

/-- some exchange mends it -/
def Can (ns : List Nat) (m : Nat) : Prop := ∃ i j, i ≤ j ∧ j < ns.length ∧ Short (exch ns i j) m
theorem Can.of {ns : List Nat} {m i j : Nat} (hi : i < ns.length) (hj : j < ns.length) (s : Short (exch ns i j) m) : Can ns m := by
  by_cases h : i ≤ j
  · exact ⟨i, j, h, hj, s⟩
  · exact ⟨j, i, by omega, hi, by rw [exch_comm]; exact s⟩
/-- how it is mended, or barred -/
theorem can_iff {ns : List Nat} (g : Good ns) (h1 : 1 ≤ ns.length) {m : Nat} (hm : 1 ≤ m) : Can ns m ↔ longOf ns m = [] ∨ ∃ r, longOf ns m = [r] ∧ r.length ≤ 2 * m := by
  constructor
  · rintro ⟨i, j, hij, hj, s⟩
    cases e : longOf ns m with
    | nil => exact .inl rfl
    | cons r l =>
      right
      cases l with
      | nil =>
        refine ⟨r, rfl, ?_⟩
        by_cases h : r.length ≤ 2 * m
        · exact h
        · obtain ⟨k, hk, _, er, _⟩ := longOf_mem (r := r) (m := m) (ns := ns) (by rw [e]; simp)
          rw [er] at h
          exact absurd s (bars_two g (by omega) hj hk (by omega))
      | cons q l =>
        exact absurd s (bars_rings g (by rw [e]; simp) (by omega) hj)
  · rintro (e | ⟨r, e, hr⟩)
    · refine Can.of (i := 0) (j := 0) (by omega) (by omega) ?_
      rw [exch_self (by omega)]
      exact (longOf_nil g).mp e
    · obtain ⟨k, hk, _, er, hl⟩ := longOf_mem (r := r) (m := m) (ns := ns) (by rw [e]; simp)
      obtain ⟨a, b, s⟩ := mend_ok g hm e hr (List.getElem?_eq_getElem (show m - 1 < r.length by omega)) (List.getElem?_eq_getElem (show r.length - 1 < r.length by omega))
      exact Can.of a b s
end Sb

namespace Sb

/-! ### rings that bar a mending, or not -/
abbrev castN (q : List Nat) : List Int := q.map fun (n : Nat) => (n : Int)
theorem ringI_of {ns : List Nat} (g : Good ns) {r : List Int} (h : RingI ns r) : ∃ k, k < ns.length ∧ r = castN (ringOf ns k) ∧ r[0]? = some (k : Int) := by
  obtain ⟨k, q, rfl, c⟩ := h
  have e := c.eq g
  refine ⟨k, c.toChain.hlt, by rw [e], ?_⟩
  rw [List.getElem?_map, c.head]
  rfl
theorem castN_mem {q : List Nat} {x : Nat} : (x : Int) ∈ castN q ↔ x ∈ q := by
  constructor
  · intro h
    obtain ⟨y, hy, e⟩ := List.mem_map.mp h
    have : y = x := by omega
    subst this
    exact hy
  · intro h
    exact List.mem_map.mpr ⟨x, h, rfl⟩
theorem ringI_apart {ns : List Nat} (g : Good ns) {a b : List Int} (ha : RingI ns a) (hb : RingI ns b) {x : Int} (hx : a[0]? = some x) : x ∉ b ↔ ∀ y ∈ a, y ∉ b := by
  constructor
  · intro h y hya hyb
    obtain ⟨i, hi, ea, h0⟩ := ringI_of g ha
    obtain ⟨j, hj, eb, _⟩ := ringI_of g hb
    rw [h0] at hx
    cases hx
    rw [ea] at hya
    rw [eb] at hyb h
    obtain ⟨u, hu, rfl⟩ := List.mem_map.mp hya
    apply h
    rw [castN_mem] at hyb ⊢
    exact (ringOf_mem_iff g hj hyb).mp (ringOf_symm g hi hu)
  · intro h
    exact h x (List.mem_of_getElem? hx)
theorem ringI_pos {ns : List Nat} {r : List Int} (h : RingI ns r) : 0 < r.length := List.length_pos_iff.mpr (ringI_steps.mp h).1
/-- what is told of a Barred -/
def BarD (ns : List Nat) (m : Nat) (rs : List (List Int)) : Prop := (∀ r ∈ rs, RingI ns r) ∧ ((∃ a, rs = [a] ∧ 2 * m < a.length) ∨ ∃ a b, rs = [a, b] ∧ (∀ x ∈ a, x ∉ b) ∧ m < a.length ∧ m < b.length)
/-- what is told of a Mend -/
def MendD (ns : List Nat) (m : Nat) (i j : Int) : Prop := (0 ≤ i ∧ i < (ns.length : Int)) ∧ (0 ≤ j ∧ j < (ns.length : Int)) ∧ Short (exch ns i.toNat j.toNat) m
theorem longOf_ring {ns : List Nat} (g : Good ns) {m : Nat} {r : List Nat} (h : r ∈ longOf ns m) : RingI ns (castN r) ∧ m < r.length ∧ r.length ≤ ns.length := by
  obtain ⟨k, hk, _, e, hl⟩ := longOf_mem h
  refine ⟨?_, hl, ?_⟩
  · rw [e]; exact ringOf_ringI g hk
  · rw [e]; exact ringOf_len g hk
theorem bar_two {ns : List Nat} (g : Good ns) {m : Nat} {a b : List Nat} {l : List (List Nat)} (h : longOf ns m = a :: b :: l) : BarD ns m [castN a, castN b] := by
  have ra := longOf_ring g (m := m) (r := a) (by rw [h]; simp)
  have rb := longOf_ring g (m := m) (r := b) (by rw [h]; simp)
  have dj := longOf_disj g m
  rw [h] at dj
  have d := (List.pairwise_cons.mp dj).1 b (by simp)
  refine ⟨fun r hr => ?_, .inr ⟨_, _, rfl, fun x hx hy => ?_, by rw [List.length_map]; exact ra.2.1, by rw [List.length_map]; exact rb.2.1⟩⟩
  · simp only [List.mem_cons, List.not_mem_nil, or_false] at hr
    rcases hr with rfl | rfl
    · exact ra.1
    · exact rb.1
  · obtain ⟨u, hu, rfl⟩ := List.mem_map.mp hx
    exact d u hu (castN_mem.mp hy)
theorem bar_one {ns : List Nat} (g : Good ns) {m : Nat} {a : List Nat} (h : longOf ns m = [a]) (hl : 2 * m < a.length) : BarD ns m [castN a] := by
  have ra := longOf_ring g (m := m) (r := a) (by rw [h]; simp)
  refine ⟨fun r hr => ?_, .inl ⟨_, rfl, by rw [List.length_map]; exact hl⟩⟩
  simp only [List.mem_cons, List.not_mem_nil, or_false] at hr
  subst hr
  exact ra.1
/-- an answer of mending -/
inductive MA where
  | mend (i j : Int)
  | barred (rs : List (List Int))
def MA.isMend : MA → Bool
  | .mend .. => true
  | .barred .. => false
def MDue (ns : List Nat) (m : Nat) : MA → Prop
  | .mend i j => MendD ns m i j
  | .barred rs => BarD ns m rs
theorem min_head {r : List Nat} {h : Nat} {mn : Nat} (hm : mn ∈ r) (hle : ∀ x ∈ r, mn ≤ x) (hh : h ∈ r) : mn = h ↔ ∀ x ∈ r, h ≤ x := by
  constructor
  · rintro rfl; exact hle
  · intro z
    have := z mn hm
    have := hle h hh
    omega
end Sb

/-! ### the layer's words turned to lists of whole numbers -/
namespace Sb
open PySem PySem.Spec PyProof.Rows L2

/-- numbers from 0 on as values -/
abbrev iv (ns : List Nat) : List V := ns.map fun (n : Nat) => V.int (n : Int)
theorem iv_eq (ns : List Nat) : iv ns = (ns.map fun (n : Nat) => (n : Int)).map V.int := by
  rw [List.map_map]; rfl
theorem iv_len (ns : List Nat) : (iv ns).length = ns.length := List.length_map ..
theorem iv_get? (ns : List Nat) (i : Nat) : (iv ns)[i]? = (ns[i]?).map fun (n : Nat) => V.int (n : Int) := List.getElem?_map ..
theorem iv_at {ns : List Nat} {i x : Nat} (h : ns[i]? = some x) : atI (iv ns) (i : Int) = some (.int (x : Int)) := atI_nat (by rw [iv_get?, h]; rfl)
theorem iv_snoc (ns : List Nat) (x : Nat) : iv ns ++ [.int (x : Int)] = iv (ns ++ [x]) := by
  show _ = List.map _ _
  rw [List.map_append]; rfl
theorem iv_last {ns : List Nat} {x : Nat} (h : ns[ns.length - 1]? = some x) : atI (iv ns) (-1) = some (.int (x : Int)) := by
  have hne : ns ≠ [] := fun e => by subst e; simp at h
  have e : ns = ns.dropLast ++ [x] := by
    have := List.dropLast_concat_getLast hne
    rw [List.getLast_eq_getElem] at this
    have hl : ns.length - 1 < ns.length := by have := List.length_pos_iff.mpr hne; omega
    rw [List.getElem?_eq_getElem hl] at h
    rw [Option.some.inj h] at this
    exact this.symm
  rw [e, ← iv_snoc]
  exact atI_last _ _
theorem iv_inj {a b : List Nat} (h : iv a = iv b) : a = b := by
  induction a generalizing b with
  | nil => cases b with
    | nil => rfl
    | cons y b => cases h
  | cons x a ih => cases b with
    | nil => cases h
    | cons y b =>
      have h' : V.int (x : Int) :: iv a = V.int (y : Int) :: iv b := h
      injection h' with h1 h2
      injection h1 with h3
      rw [ih h2]
      have : x = y := by omega
      rw [this]
theorem flat_iv (ns : List Nat) : (iv ns).all flatV = true := by
  rw [List.all_eq_true]
  intro v hv
  obtain ⟨n, _, rfl⟩ := List.mem_map.mp hv
  rfl
theorem inV_iv (ns : List Nat) (x : Nat) : inV (.int (x : Int)) (iv ns) = decide (x ∈ ns) := by
  unfold inV
  rw [Bool.eq_iff_iff, List.any_eq_true, decide_eq_true_iff]
  constructor
  · rintro ⟨v, hv, e⟩
    obtain ⟨n, hn, rfl⟩ := List.mem_map.mp hv
    have : (n : Int) = (x : Int) := by
      have e' : eqV (V.int (n : Int)) (V.int (x : Int)) = true := e
      simpa [eqV] using e'
    have : n = x := by omega
    subst this; exact hn
  · intro h
    refine ⟨_, List.mem_map.mpr ⟨x, h, rfl⟩, ?_⟩
    simp [eqV]

/-! ### heaps -/
theorem same_upd {H : Hp} {p : Addr} {o : HO} (h : H p = none) : Same H (upd H p o) := fun b x e => by
  rw [upd_ne (ne_of_none e h)]
  exact e
/-- an object that H does not know is changed behind H -/
theorem same_mut {H H' : Hp} {p : Addr} {o : HO} (e : Same H H') (h : H p = none) : Same H (upd H' p o) := fun a u ha => by
  rw [upd_ne (ne_of_none ha h)]
  exact e a u ha
theorem same_t {K : PySem.W.Frag} {H H' : Hp} {a : Addr} {xs : List V} (e : Same H H') (h : SqT K H a xs) : SqT K H' a xs := by
  rcases h with (h | ⟨o, h⟩) | h
  · exact .inl (.inl (e _ _ h))
  · exact .inl (.inr ⟨o, e _ _ h⟩)
  · exact .inr h
theorem sz {n : Nat} (h : n ≤ 100000) : n ≤ sizeLine := Nat.le_trans h (by decide)
theorem szl {n : Nat} (h : n < 100000) : n < sizeLine := Nat.lt_of_lt_of_le h (by decide)

/-! ### lists of whole numbers compared -/
abbrev dI (ns : List Int) : PyData := .list (ns.map PyData.int)
abbrev dN (ns : List Nat) : PyData := .list (ns.map fun (n : Nat) => PyData.int (n : Int))
theorem canI : ∀ ns : List Int, PyData.canLayAll0 (ns.map PyData.int) = true
  | [] => by unfold PyData.canLayAll0; rfl
  | n :: r => by
    rw [List.map_cons]
    unfold PyData.canLayAll0
    rw [canI r]; unfold PyData.canLay0; rfl
theorem depI : ∀ ns : List Int, PyData.depthAll (ns.map PyData.int) ≤ 1
  | [] => by unfold PyData.depthAll; exact Nat.zero_le _
  | n :: r => by
    rw [List.map_cons]
    unfold PyData.depthAll
    have h := depI r
    have e : PyData.depth (.int n) ≤ 1 := by
      unfold PyData.depth
      omega
    exact Nat.max_le.mpr ⟨e, h⟩
theorem shapedI (ns : List Int) : SeqAt.shaped (dI ns) = true := by
  unfold SeqAt.shaped
  rw [Bool.and_eq_true_iff]
  refine ⟨by unfold PyData.canLay0; exact canI ns, decide_eq_true ?_⟩
  have h := depI ns
  unfold PyData.depth
  omega
theorem eqvI : ∀ a b : List Int, PyData.eqvAll (a.map PyData.int) (b.map PyData.int) = decide (a = b)
  | [], [] => by unfold PyData.eqvAll; rfl
  | [], y :: b => by rw [List.map_cons]; unfold PyData.eqvAll; rfl
  | x :: a, [] => by rw [List.map_cons]; unfold PyData.eqvAll; rfl
  | x :: a, y :: b => by
    rw [List.map_cons, List.map_cons]
    unfold PyData.eqvAll
    rw [eqvI a b]
    unfold PyData.eqv
    rw [Bool.eq_iff_iff]
    simp
theorem dpI {K : PySem.W.Frag} {H : Hp} : ∀ ns : List Int, DpAll K H (ns.map V.int) (ns.map PyData.int)
  | [] => .nil
  | n :: r => .cons (.int n) (dpI r)
theorem dp_ints {K : PySem.W.Frag} {H : Hp} {a : Addr} {ns : List Int} (h : SqL K H a (ns.map V.int)) : Dp K H (.ref a) (dI ns) := .lst h (dpI ns)
theorem dp_iv {K : PySem.W.Frag} {H : Hp} {a : Addr} {ns : List Nat} (h : SqL K H a (iv ns)) : Dp K H (.ref a) (dN ns) := by
  have h' : SqL K H a ((ns.map fun (n : Nat) => (n : Int)).map V.int) := by rw [← iv_eq]; exact h
  have r := dp_ints h'
  unfold dI at r
  rw [List.map_map] at r
  exact r
theorem dN_eq (ns : List Nat) : dN ns = dI (ns.map fun (n : Nat) => (n : Int)) := by
  unfold dN dI; rw [List.map_map]; rfl
theorem shapedN (ns : List Nat) : SeqAt.shaped (dN ns) = true := by rw [dN_eq]; exact shapedI _
theorem cast_inj {a b : List Nat} : a.map (fun (n : Nat) => (n : Int)) = b.map (fun (n : Nat) => (n : Int)) ↔ a = b := by
  constructor
  · intro h
    refine iv_inj ?_
    rw [iv_eq, iv_eq, h]
  · intro h; rw [h]
theorem eqvN (a b : List Nat) : PyData.eqv (dN a) (dN b) = decide (a = b) := by
  rw [dN_eq, dN_eq]
  show PyData.eqv (PyData.list _) (PyData.list _) = _
  unfold PyData.eqv
  rw [eqvI, Bool.eq_iff_iff, decide_eq_true_iff, decide_eq_true_iff]
  exact cast_inj
/-- two lists of numbers, unlike each other or not -/
theorem ne_iv {K : PySem.W.Frag} {H : Hp} {a b : Addr} {x y : List Nat} {Q : VK} (ha : SqL K H a (iv x)) (hb : SqL K H b (iv y)) (q : Q (.bl (!decide (x = y))) H) : rNeD K (.ref a) (.ref b) H Q :=
  ⟨dN x, dN y, dp_iv ha, dp_iv hb, shapedN x, shapedN y, by rw [eqvN]; exact q⟩
theorem eq_iv {K : PySem.W.Frag} {H : Hp} {a b : Addr} {x y : List Nat} {Q : VK} (ha : SqL K H a (iv x)) (hb : SqL K H b (iv y)) (q : Q (.bl (decide (x = y))) H) : rEqD K (.ref a) (.ref b) H Q :=
  ⟨dN x, dN y, dp_iv ha, dp_iv hb, shapedN x, shapedN y, by rw [eqvN]; exact q⟩

/-! ### a def of the text, and its call -/
structure Df (K : PySem.W.Frag) (mg : Str → Option Value) (x : Str) (st : Stmt) (ps : List Str) where
  f : Addr
  fd : FuncData
  F : Fun K x x st f fd
  g : mg x = some (.ref f)
  b : Binds K fd ps []
section
variable {X : Cx} {x : Str} {st : Stmt} {ps : List Str} {k : Nat} {sp : Sp} {e : Expr} {es : List Expr} {t : TA} {p pos : Pos}
theorem pe_df (D : Df X.K X.mg x st ps) (G : FnOk X.prog X.w X.K X.mg X.base CX0 k D.f D.fd ps sp) (hr : Room k X.A) (ha : PA X (e :: es) t) (hg : Gl X x := by rfl) (hdb : (x == ("__debug__" : Str)) = false := by decide)
    (he : starEach (e :: es) X.env = (false, eval e X.env) :: starEach es X.env := by rfl) (hpl : (backTo pos (starEach es X.env)).any (·.1) = false := by rfl) :
    PE X (.Call (.Name x p) (e :: es) [] pos) (tCall sp [] E0 t) := pe_call G hr hg D.g D.F.kp D.b .nil pass0 ha hdb he hpl
/-- len and an item, in a comprehension's block: the written part told -/
def rLenK (K : PySem.W.Frag) : List V → Hp → VK → Prop := fun xs H Q => ∃ p ys, xs = [.ref p] ∧ (SqL K H p ys ∨ SqT K H p ys) ∧ Q (.int ys.length) H
theorem call_lenK {K : PySem.W.Frag} (h : X.K = K) : CallR X (.builtin "len") (rLenK K) := by subst h; exact call_len_seq
theorem ix_listK {K : PySem.W.Frag} (h : X.K = K) : IxR X (rIxL K) := by subst h; exact ix_list
/-- a product of whole numbers, told by the model's own line -/
theorem op_mulX : OpR X (binaryOp .Mult) (rI (fun i j => IntMulOk i j) fun i j => .int (i * j)) := opI fun _ _ _ _ _ _ _ hc q => mul_int q hc
end
end Sb
/-! ### own classes; what a value may be; how many unlike numbers -/
namespace Sb
open PySem PySem.Spec PyProof.Rows L2
/-- a class of the text -/
structure Cs (K : PySem.W.Frag) (mg : Str → Option Value) (x : Str) where
  C : Addr
  g : mg x = some (.ref C)
  cl : Cls K C
  mks : PySem.W.makesIn K C = true
  kp : PySem.W.keepIn K (.ref C) = true
  ha : PySem.W.findIn K (.ref C) "__class__" = some (some (.builtin "object.__class__"))
  hm : PySem.W.mroIn K C (.type "object") = some true
/-- what isinstance leans on besides -/
structure Cg (K : PySem.W.Frag) : Prop where
  hn : PySem.W.specialIn K (.builtin "object.__class__") "__get__" = some (some (.builtin "getset_descriptor.__get__"))
  htk : PySem.W.takesIn K (.builtin "object.__class__") = some true
theorem Cs.ty {K : PySem.W.Frag} {mg : Str → Option Value} {x : Str} (c : Cs K mg x) (G : Cg K) {H : Hp} {a dx : Addr} {fs : List (Str × V)} (e : H a = some (.ins c.C dx fs)) : TyX K H (.ref a) (.ref c.C) :=
  .base (.ins e c.cl c.ha G.hn G.htk c.hm)
/-- a method of the class at C -/
structure Mt (K : PySem.W.Frag) (C : Addr) (x qual : Str) (st : Stmt) (ps : List Str) where
  f : Addr
  fd : FuncData
  F : Fun K x qual st f fd
  at_ : PySem.W.findIn K (.ref C) x = some (some (.ref f))
  fn : PySem.W.isFn K (.ref f) = true
  b : Binds K fd ps []
theorem Mt.meth {K : PySem.W.Frag} {C : Addr} {x qual : Str} {st : Stmt} {ps : List Str} (m : Mt K C x qual st ps) : Meth K C x m.f := ⟨m.at_, m.fn, m.F.kp⟩
theorem Cs.mak {K : PySem.W.Frag} {mg : Str → Option Value} {x qual : Str} {st : Stmt} {ps : List Str} (c : Cs K mg x) (m : Mt K c.C "__init__" qual st ps) : Mk K c.C m.f := ⟨c.mks, m.at_, m.fn, c.kp⟩
section
variable {X : Cx} {x : Str} {st : Stmt} {ps : List Str} {k : Nat} {sp : Sp} {e : Expr} {es : List Expr} {t : TA} {p pos : Pos} {C : Addr}
/-- C() of a class without an __init__ of its own -/
def tBare (C : Addr) : TE := fun _ H Q => ∀ a dx, H a = none → H dx = none → dx ≠ a → Q (.ref a) (upd (upd H dx (.own a)) a (.ins C dx []))
theorem pe_bare (cg : X.mg x = some (.ref C)) (ckp : PySem.W.keepIn X.K (.ref C) = true) (cmk : PySem.W.makesIn X.K C = true) (hi : PySem.W.findIn X.K (.ref C) "__init__" = some (some (.builtin "object.__init__"))) (hg : Gl X x := by rfl) (hdb : (x == ("__debug__" : Str)) = false := by decide) : PE X (.Call (.Name x p) [] [] pos) (tBare C) := by
  refine ⟨fun pins s σ H Q I h => ?_⟩
  refine wpAny_Call_Name_kw (ld_glob I hg cg ?_ hdb)
  refine PySem.W.callWith_K0 I.kIn ckp (wpAny_call ?_)
  have J := Inv.made (C := C) I
  have q := h (s.heap.objs.size + 1) s.heap.objs.size (I.hok.fresh (Nat.le_succ _)) (I.hok.fresh (Nat.le_refl _)) (Nat.ne_of_lt (Nat.lt_succ_self _))
  have KI := I.kIn
  have Y := PySem.W.makes_of (M := model X.prog X.w) KI cmk
  have L := PySem.W.looks_findIn (M := model X.prog X.w) KI hi
  obtain ⟨hh, gn, dr, tk, os⟩ := s
  refine PySem.W.make_core Y L (fun self => PySem.W.Looks.of_pure (PySem.W.oi_bind self)) (.inr ⟨rfl, rfl⟩) ?_
  have hx : ((hh.push PySem.W.emptyDict).push (PySem.W.instObj C hh.objs.size)).get? (hh.objs.size + 1) = some (PySem.W.instObj C hh.objs.size) := by heap_get
  have u1 : PySem.W.Looks (model X.prog X.w) ((hh.push PySem.W.emptyDict).push (PySem.W.instObj C hh.objs.size)) (typeOf (.ref (hh.objs.size + 1))) (.ref C) := (PySem.W.Looks.ld hx).andThen .now
  have u2 : PySem.W.Looks (model X.prog X.w) ((hh.push PySem.W.emptyDict).push (PySem.W.instObj C hh.objs.size)) (isInstance (.ref (hh.objs.size + 1)) (.type "object")) true :=
    u1.andThen (Y.top.keeps fun b o z => Heap.get?_push_of_some _ (Heap.get?_push_of_some _ z))
  refine codeAny_call_builtin PySem.W.oi_plain PySem.W.entry_oi (@PySem.W.check_slot (model X.prog X.w) _ _ _ "object.__init__" "object" "__init__" (.ref (hh.objs.size + 1)) [] [] _ PySem.W.oi_kind PySem.W.oi_split u2 (PySem.W.oi_args (.ref (hh.objs.size + 1))) ?_)
  show wpAny _ _ (Builtin.«object.__init__» ⟨[Value.ref (hh.objs.size + 1)], []⟩) _ _ _
  rw [PySem.W.oi_run]
  exact wpAny_pure ⟨rfl, ⟨V.ref (hh.objs.size + 1), _, J, rfl, q⟩⟩
/-- an expression with two readings: either will do -/
def tEither (t u : TE) : TE := fun σ H Q => t σ H Q ∨ u σ H Q
theorem pe_either {e : Expr} {t u : TE} (h1 : PE X e t) (h2 : PE X e u) : PE X e (tEither t u) := ⟨fun pins s σ H Q I h => h.elim (h1.run pins s σ H Q I) (h2.run pins s σ H Q I)⟩
theorem met_len (val : Nat → Int) : ∀ n, (PyProof.Rows.firstMet val n).length = n → ∀ i j, i < j → j < n → val i ≠ val j
  | 0, _, _, _, _, h => by omega
  | n + 1, h, i, j, hij, hj => by
    rw [PyProof.Rows.firstMet_succ] at h
    unfold PyProof.Rows.step_dedup at h
    have hle := PyProof.Rows.firstMet_length_le val n
    by_cases hb : (PyProof.Rows.firstMet val n).any (· == val n) = true
    · rw [if_pos hb] at h
      omega
    · rw [if_neg hb, List.length_append, List.length_singleton] at h
      by_cases hjn : j < n
      · exact met_len val n (by omega) i j hij hjn
      · have : j = n := by omega
        subst this
        intro e
        apply hb
        rw [PyProof.Rows.firstMet_any, List.any_eq_true]
        exact ⟨val i, List.mem_map.mpr ⟨i, List.mem_range.mpr hij, rfl⟩, by rw [e]; exact beq_self_eq_true _⟩
/-- len(set(xs)): as many as xs has, just where no number stands twice -/
def tLenSetG (K : PySem.W.Frag) (ta : TE) : TE := fun σ H Q => ta σ H fun x H1 => ∃ (l : Addr) (ns : List Int), x = .ref l ∧ SqL K H1 l (ns.map V.int) ∧ ns.length ≤ 4000 ∧ ∀ k : Nat, (k = ns.length ↔ ns.Nodup) → Q (.int (k : Int)) H1
theorem pe_lenSetG {a : Expr} {ta : TE} {p2 q : Pos} (hg : Gl X "len") (hm : X.mg "len" = none) (hg2 : Gl X "set") (hm2 : X.mg "set" = none) (ha : PE X a ta) (hc : X.calm = true := by rfl)
    (na : starEach [a] X.env = (false, eval a X.env) :: starEach [] X.env := by rfl) : PE X (.Call (.Name "len" p) [.Call (.Name "set" p2) [a] [] q] [] pos) (tLenSetG X.K ta) := by
  constructor
  intro pins s σ H Q I h
  apply Call_ (ld_blt I hg hm boot_len ?_)
  apply PyProof.Rows.callWith_builtin1 (PyProof.Rows.args_cons ?_ rfl) rfl rfl
  apply Call_ (ld_blt I hg2 hm2 boot_set ?_)
  apply PyProof.Rows.callWith_type1 (PyProof.Rows.args_cons (thn (ha.run pins s σ H _ I h) ?_) na) na rfl
  rintro v s1 ⟨x, H1, I1, r1, l, ns, rfl, hq, hl, q1⟩
  apply PyProof.Rows.args_nil
  cases r1
  obtain ⟨its, r, pl, hz⟩ := I1.list hq
  have en : its.toArray.size = ns.length := by rw [List.size_toArray, ← r.length, List.length_map]
  apply call_set_list (I1.ok.hd hc) pl.isList (by simpa using RZ.intsAre_vals r) (by rw [en]; unfold scanBound; omega)
  intro h' tk hS hk
  apply PyProof.Rows.args_nil
  rw [en] at hS
  have hle := PyProof.Rows.firstMet_length_le (fun i => ns.getD i 0) ns.length
  have key : (PyProof.Rows.firstMet (fun i => ns.getD i 0) ns.length).length = ns.length ↔ ns.Nodup := by
    constructor
    · intro e
      rw [List.Nodup, List.pairwise_iff_getElem]
      intro i j hi hj hij
      have z := met_len _ _ e i j hij hj
      rw [List.getD_eq_getElem?_getD, List.getD_eq_getElem?_getD, List.getElem?_eq_getElem hi, List.getElem?_eq_getElem hj] at z
      exact z
    · intro nd
      rw [RZ.firstMet_nodup nd ns.length (Nat.le_refl _), List.take_length]
  generalize PyProof.Rows.firstMet (fun i => ns.getD i 0) ns.length = fm at hS hle key
  obtain ⟨o, es, ep, tb, ho, hex, hd, _, _, _, hf, hn⟩ := hS
  have I2 : Inv X pins σ H1 { s1 with heap := h', toks := tk } := I1.kept fun b o z => hk b o (Heap.lt_size z) z
  exact call_len_set ho hex hd hf (by rw [hn] <;> omega) ⟨.int fm.length, H1, I2.tok _, ⟨_, by rw [hn]⟩, q1 _ key⟩
end
end Sb
/-! ### the text -/
namespace Sb
open PySem PySem.Spec PyProof.Rows L2
def topS (i : Nat) : Stmt := PySem.Challenge.pw_slipboxes_k07_by_hand.main.body.getD i (.Pass ⟨0, 0, 0, 0⟩)
abbrev s_is_whole : Stmt := topS 1
abbrev s_ring_from : Stmt := topS 2
abbrev s_rings_of : Stmt := topS 3
abbrev s_exchanged : Stmt := topS 4
abbrev s_long_rings : Stmt := topS 5
abbrev s_is_ring : Stmt := topS 8
abbrev s_law_cell_at : Stmt := topS 14
abbrev s_law_draw : Stmt := topS 15
abbrev s_law_value : Stmt := topS 16
abbrev s_law_says : Stmt := topS 17
abbrev s_law_boxes : Stmt := topS 18
abbrev s_law_ring : Stmt := topS 19
abbrev s_law_longest : Stmt := topS 20
abbrev s_law_changed : Stmt := topS 21
abbrev s_law_is_ring : Stmt := topS 22
abbrev s_law_barred : Stmt := topS 23
abbrev s_law_ring_right : Stmt := topS 24
abbrev s_law_rings_right : Stmt := topS 25
abbrev s_law_pair_right : Stmt := topS 26
abbrev s_law : Stmt := topS 27
abbrev s_All_shows : Stmt := inClass (topS 9) 0
abbrev s_Long___init__ : Stmt := inClass (topS 10) 0
abbrev s_Long_shows : Stmt := inClass (topS 10) 1
abbrev s_Mend___init__ : Stmt := inClass (topS 11) 0
abbrev s_Mend_shows : Stmt := inClass (topS 11) 1
abbrev s_Barred___init__ : Stmt := inClass (topS 12) 0
abbrev s_Barred_shows : Stmt := inClass (topS 12) 1
structure Tx (K : PySem.W.Frag) (mg : Str → Option Value) where
  is_whole : Df K mg "is_whole" s_is_whole ["thing"]
  ring_from : Df K mg "ring_from" s_ring_from ["boxes", "hand"]
  rings_of : Df K mg "rings_of" s_rings_of ["boxes"]
  exchanged : Df K mg "exchanged" s_exchanged ["boxes", "one", "other"]
  long_rings : Df K mg "long_rings" s_long_rings ["boxes", "most"]
  is_ring : Df K mg "is_ring" s_is_ring ["boxes", "ring"]
  law_cell_at : Df K mg "_law_cell_at" s_law_cell_at ["_law_script", "_law_k"]
  law_draw : Df K mg "_law_draw" s_law_draw ["_law_cell", "_law_k", "_law_many"]
  law_value : Df K mg "_law_value" s_law_value ["_law_cell", "_law_turn"]
  law_says : Df K mg "_law_says" s_law_says ["_law_said", "_law_due"]
  law_boxes : Df K mg "_law_boxes" s_law_boxes ["_law_script", "_law_by", "_law_most"]
  law_ring : Df K mg "_law_ring" s_law_ring ["_law_boxes_here", "_law_hand"]
  law_longest : Df K mg "_law_longest" s_law_longest ["_law_boxes_here"]
  law_changed : Df K mg "_law_changed" s_law_changed ["_law_boxes_here", "_law_one", "_law_other"]
  law_is_ring : Df K mg "_law_is_ring" s_law_is_ring ["_law_boxes_here", "_law_ring_here"]
  law_barred : Df K mg "_law_barred" s_law_barred ["_law_boxes_here", "_law_most", "_law_several"]
  law_ring_right : Df K mg "_law_ring_right" s_law_ring_right ["_law_boxes_here", "_law_most", "_law_ring_here"]
  law_rings_right : Df K mg "_law_rings_right" s_law_rings_right ["_law_boxes_here", "_law_most", "_law_several"]
  law_pair_right : Df K mg "_law_pair_right" s_law_pair_right ["_law_boxes_here", "_law_most", "_law_one", "_law_other"]
  cg : Cg K
  Answer : Cs K mg "Answer"
  i_Answer : PySem.W.findIn K (.ref Answer.C) "__init__" = some (some (.builtin "object.__init__"))
  All : Cs K mg "All"
  i_All : PySem.W.findIn K (.ref All.C) "__init__" = some (some (.builtin "object.__init__"))
  All_shows : Mt K All.C "shows" "All.shows" s_All_shows ["self", "boxes", "most"]
  Long : Cs K mg "Long"
  Long_init : Mt K Long.C "__init__" "Long.__init__" s_Long___init__ ["self", "ring"]
  Long_shows : Mt K Long.C "shows" "Long.shows" s_Long_shows ["self", "boxes", "most"]
  n_Long_ring : NoAttr K Long.C "ring"
  Mend : Cs K mg "Mend"
  Mend_init : Mt K Mend.C "__init__" "Mend.__init__" s_Mend___init__ ["self", "one", "other"]
  Mend_shows : Mt K Mend.C "shows" "Mend.shows" s_Mend_shows ["self", "boxes", "most"]
  n_Mend_one : NoAttr K Mend.C "one"
  n_Mend_other : NoAttr K Mend.C "other"
  Barred : Cs K mg "Barred"
  Barred_init : Mt K Barred.C "__init__" "Barred.__init__" s_Barred___init__ ["self", "rings"]
  Barred_shows : Mt K Barred.C "shows" "Barred.shows" s_Barred_shows ["self", "boxes", "most"]
  n_Barred_rings : NoAttr K Barred.C "rings"
  q_All_Answer : PySem.W.kitOne K (.ref All.C) (.ref Answer.C) = some true
  q_All_All : PySem.W.kitOne K (.ref All.C) (.ref All.C) = some true
  q_All_Long : PySem.W.kitOne K (.ref All.C) (.ref Long.C) = some false
  q_All_Mend : PySem.W.kitOne K (.ref All.C) (.ref Mend.C) = some false
  q_All_Barred : PySem.W.kitOne K (.ref All.C) (.ref Barred.C) = some false
  q_Long_Answer : PySem.W.kitOne K (.ref Long.C) (.ref Answer.C) = some true
  q_Long_All : PySem.W.kitOne K (.ref Long.C) (.ref All.C) = some false
  q_Long_Long : PySem.W.kitOne K (.ref Long.C) (.ref Long.C) = some true
  q_Long_Mend : PySem.W.kitOne K (.ref Long.C) (.ref Mend.C) = some false
  q_Long_Barred : PySem.W.kitOne K (.ref Long.C) (.ref Barred.C) = some false
  q_Mend_Answer : PySem.W.kitOne K (.ref Mend.C) (.ref Answer.C) = some true
  q_Mend_All : PySem.W.kitOne K (.ref Mend.C) (.ref All.C) = some false
  q_Mend_Long : PySem.W.kitOne K (.ref Mend.C) (.ref Long.C) = some false
  q_Mend_Mend : PySem.W.kitOne K (.ref Mend.C) (.ref Mend.C) = some true
  q_Mend_Barred : PySem.W.kitOne K (.ref Mend.C) (.ref Barred.C) = some false
  q_Barred_Answer : PySem.W.kitOne K (.ref Barred.C) (.ref Answer.C) = some true
  q_Barred_All : PySem.W.kitOne K (.ref Barred.C) (.ref All.C) = some false
  q_Barred_Long : PySem.W.kitOne K (.ref Barred.C) (.ref Long.C) = some false
  q_Barred_Mend : PySem.W.kitOne K (.ref Barred.C) (.ref Mend.C) = some false
  q_Barred_Barred : PySem.W.kitOne K (.ref Barred.C) (.ref Barred.C) = some true
  m_len : mg "len" = none
  m_range : mg "range" = none
  m_list : mg "list" = none
  m_isinstance : mg "isinstance" = none
  m_all : mg "all" = none
  m_any : mg "any" = none
  m_int : mg "int" = none
  m_bool : mg "bool" = none
  m_max : mg "max" = none
  m_min : mg "min" = none
  m_zip : mg "zip" = none
  m_set : mg "set" = none
end Sb

namespace Sb
open PySem PySem.Spec PyProof.Rows L2
section
variable {P : Program} {w : World} {K : PySem.W.Frag} {mg : Str → Option Value} {base : Heap}
/-! ### is_whole -/
/-- a thing of the type ty (no list of one's own): a number, or not -/
def spWhole (K : PySem.W.Frag) : Sp := fun vs H Q _ => ∃ (v : V) (ty : String) (b1 b2 : Bool), vs = [v] ∧ TyX K H v (.type ty) ∧ kitB ty "int" = some b1 ∧ kitB ty "bool" = some b2 ∧ Q (.bl (b1 && !b2)) H
abbrev n_is_whole : List Str := ["thing"]
theorem sc_is_whole : FnScope n_is_whole ["thing"] (defScope s_is_whole) := ⟨rfl, rfl, rfl, by decide +kernel, rfl, by decide +kernel, by decide +kernel⟩
theorem ok_is_whole (T : Tx K mg) : FnOk P w K mg base CX0 1 T.is_whole.f T.is_whole.fd ["thing"] (spWhole K) := by
  refine T.is_whole.F.ok sc_is_whole (fun vs H Q E h => ?_) (fun cdv A outer s H vs Q E hr h => ?_)
  · obtain ⟨v, ty, b1, b2, rfl, _⟩ := h
    rfl
  · obtain ⟨v, ty, b1, b2, rfl, hty, h1, h2, q⟩ := h
    refine ⟨_, (pss_one (ps_ret (pe_and (pe_callB call_isi (by rfl) T.m_isinstance (by decide +kernel) (pa_cons (pv 0) (pa_cons (pe_bltn (v := .ty "int") (by rfl) T.m_int (by decide +kernel) rfl) pa_nil))) (pe_one (pe_not (pe_callB call_isi (by rfl) T.m_isinstance (by decide +kernel) (pa_cons (pv 0) (pa_cons (pe_bltn (v := .ty "bool") (by rfl) T.m_bool (by decide +kernel) rfl) pa_nil)))))))), ?_⟩
    refine ⟨v, rfl, v, .ty "int", .type ty, .type "int", b1, rfl, .ty "int", hty, kit_ty h1, b1, rfl, ite2 (fun e => ?_) (fun e => ?_)⟩
    · refine ⟨v, rfl, v, .ty "bool", .type ty, .type "bool", b2, rfl, .ty "bool", hty, kit_ty h2, b2, rfl, ?_⟩
      rw [e] at q
      exact q
    · have e' : b1 = false := by cases b1 with
        | true => exact absurd rfl e
        | false => rfl
      rw [e'] at q
      exact q
theorem whole_int {H : Hp} {Q : VK} {E : XK} {i : Int} (q : Q (.bl true) H) : spWhole K [.int i] H Q E :=
  ⟨.int i, "int", true, false, rfl, .base (.int i), by decide +kernel, by decide +kernel, q⟩
end
end Sb
namespace Sb
open PySem PySem.Spec PyProof.Rows L2
section
variable {P : Program} {w : World} {K : PySem.W.Frag} {mg : Str → Option Value} {base : Heap}
/-! ### a new list of numbers; the boxes that a hand opens -/
/-- a new list at p: the numbers r -/
def NewL (H : Hp) (Q : VK) (r : List Nat) : Prop := ∀ (H' : Hp) (p : Addr), Same H H' → H p = none → H' p = some (.lst (iv r)) → Q (.ref p) H'
def spRing (K : PySem.W.Frag) : Sp := fun vs H Q _ => ∃ (a : Addr) (ns : List Nat) (h : Nat), vs = [.ref a, .int (h : Int)] ∧ SqL K H a (iv ns) ∧ Good ns ∧ h < ns.length ∧ ns.length ≤ 1000 ∧ NewL H Q (ringOf ns h)
end
end Sb
namespace Sb
open PySem PySem.Spec PyProof.Rows L2
section
variable {P : Program} {w : World} {K : PySem.W.Frag} {mg : Str → Option Value} {base : Heap}
/-! ### ring_from -/
abbrev n_ring_from : List Str := ["boxes", "hand", "found"]
theorem sc_ring_from : FnScope n_ring_from ["boxes", "hand"] (defScope s_ring_from) := ⟨rfl, rfl, rfl, by decide +kernel, rfl, by decide +kernel, by decide +kernel⟩
theorem ok_ring_from (T : Tx K mg) : FnOk P w K mg base CX0 1 T.ring_from.f T.ring_from.fd ["boxes", "hand"] (spRing K) := by
  refine T.ring_from.F.ok sc_ring_from (fun vs H Q E h => ?_) (fun cdv A outer s H vs Q E hr h => ?_)
  · obtain ⟨a, ns, h, rfl, _⟩ := h
    rfl
  · obtain ⟨a, ns, h, rfl, hS, g, hh, hlen, q⟩ := h
    refine ⟨_, (pss_cons (ps_set (i := 2) sc_ring_from.nd rfl (.inl rfl) (pe_lst (pa_cons (pv 1) pa_nil)))
    (pss_cons (ps_while PassesOwn.never (pt_cmpR op_ne (pe_ix ix_list (pv 0) (pe_ix ix_list (pv 2) (pe_un un_neg pe_int) (fun _ _ => rfl)) (fun _ _ => rfl)) (pv 1) (nomark _))
      (pss_one (ps_expr (pe_bm PySem.F.plainAttrs_list PySem.F.slot_list_append PySem.F.type_list_append mt_append (pv 2) (pa_cons (pe_ix ix_list (pv 0) (pe_ix ix_list (pv 2) (pe_un un_neg pe_int) (fun _ _ => rfl)) (fun _ _ => rfl)) pa_nil)))))
    (pss_one (ps_ret (pv 2))))), ?_⟩
    refine ⟨.int h, rfl, sz (by simp), fun o no => ?_⟩
    refine ⟨fun m σ H3 => ∃ r, σ = [some (.ref a), some (.int (h : Int)), some (.ref o)] ∧ Same H H3 ∧ H3 o = some (.lst (iv r)) ∧ Chain ns h r ∧ m = ns.length - r.length,
      ⟨_, [h], rfl, same_upd no, upd_same, Chain.one hh, rfl⟩, fun m σ H3 hW => ?_⟩
    obtain ⟨r, rfl, sm, eo, c, rfl⟩ := hW
    obtain ⟨x, hx, hm, hl⟩ := c.last
    have hA : SqL K H3 a (iv ns) := sm.seq hS
    have hO : SqL K H3 o (iv r) := .of eo
    have ax : atI (iv ns) ((x : Nat) : Int) = some (.int ((nxt ns x : Nat) : Int)) := iv_at (nxt_get? hl)
    refine ⟨.ref a, rfl, .ref o, rfl, 1, rfl, o, _, -1, _, rfl, rfl, hO, iv_last hx, a, _, _, _, rfl, rfl, hA, ax, .int h, rfl, rfl, _, rfl, ite2 (fun e => ?_) (fun e => ?_)⟩
    · have ne : nxt ns x ≠ h := fun z => by
        rw [z] at e
        simp at e
      have hn : nxt ns x ∉ r := fun z => ne (c.slip g hx z)
      have c' := c.more hx hn (g.nxt_lt hl)
      refine ⟨fun σ' H' => ∃ r', σ' = [some (.ref a), some (.int (h : Int)), some (.ref o)] ∧ Same H H' ∧ H' o = some (.lst (iv r')) ∧ Chain ns h r' ∧ r'.length = r.length + 1, fun σ' H' hN => ?_, ?_⟩
      · obtain ⟨r', e1, e2, e3, e4, e5⟩ := hN
        have := e4.len_le
        exact ⟨_, by omega, r', e1, e2, e3, e4, rfl⟩
      · refine ⟨.ref o, rfl, .inl ⟨rfl, _, hO⟩, .ref a, rfl, .ref o, rfl, 1, rfl, o, _, -1, _, rfl, rfl, hO, iv_last hx, a, _, _, _, rfl, rfl, hA, ax, o, _, _, rfl, rfl, eo, ?_, ?_⟩
        · rw [iv_len]
          have := c.len_le
          exact szl (by omega)
        · rw [iv_snoc]
          exact ⟨_, rfl, same_mut sm no, upd_same, c', by rw [List.length_append]; rfl⟩
    · have e2 : nxt ns x = h := by
        have : V.int ((nxt ns x : Nat) : Int) = V.int (h : Int) := by
          cases hd : decide (V.int ((nxt ns x : Nat) : Int) = V.int (h : Int)) with
          | true => exact of_decide_eq_true hd
          | false => rw [hd] at e; exact absurd rfl e
        injection this with this
        omega
      have R : IsRing ns h r := ⟨c, fun y hy => by rw [hx] at hy; cases hy; exact e2⟩
      rw [R.eq g] at eo
      exact ⟨.ref o, rfl, q H3 o sm no eo⟩
end
end Sb
namespace Sb
open PySem PySem.Spec PyProof.Rows L2
/-- the rows of a list of lists, at ps: new ones -/
structure Rows (H H' : Hp) (ps : List Addr) (rs : List (List Nat)) : Prop where
  len : ps.length = rs.length
  row : ∀ (i : Nat) (q : Addr) (r : List Nat), ps[i]? = some q → rs[i]? = some r → H' q = some (.lst (iv r))
  new : ∀ q ∈ ps, H q = none
  nd : ps.Nodup
theorem Rows.nil {H H' : Hp} : Rows H H' [] [] := ⟨rfl, fun i q r h _ => by simp at h, fun q h => by simp at h, List.nodup_nil⟩
theorem Rows.at {H H' : Hp} {ps : List Addr} {rs : List (List Nat)} (R : Rows H H' ps rs) {q : Addr} (h : q ∈ ps) : ∃ r, r ∈ rs ∧ H' q = some (.lst (iv r)) := by
  obtain ⟨i, hi, e⟩ := List.mem_iff_getElem.mp h
  have hr : i < rs.length := by rw [← R.len]; exact hi
  exact ⟨rs[i], List.getElem_mem hr, R.row i q _ (by rw [List.getElem?_eq_getElem hi, e]) (List.getElem?_eq_getElem hr)⟩
theorem Rows.moved {H H' H'' : Hp} {ps : List Addr} {rs : List (List Nat)} (R : Rows H H' ps rs) (k : ∀ q ∈ ps, H'' q = H' q) : Rows H H'' ps rs :=
  ⟨R.len, fun i q r h1 h2 => by rw [k q (List.mem_of_getElem? h1)]; exact R.row i q r h1 h2, R.new, R.nd⟩
theorem Rows.same {H H' H'' : Hp} {ps : List Addr} {rs : List (List Nat)} (R : Rows H H' ps rs) (s : Same H' H'') : Rows H H'' ps rs :=
  ⟨R.len, fun i q r h1 h2 => s _ _ (R.row i q r h1 h2), R.new, R.nd⟩
theorem Rows.upd {H H' : Hp} {ps : List Addr} {rs : List (List Nat)} {o : Addr} {x : HO} (R : Rows H H' ps rs) (h : o ∉ ps) : Rows H (upd H' o x) ps rs :=
  R.moved fun q hq => upd_ne fun e => h (e ▸ hq)
theorem Rows.snoc {H H' : Hp} {ps : List Addr} {rs : List (List Nat)} {p : Addr} {r : List Nat} (R : Rows H H' ps rs) (hp : H' p = some (.lst (iv r))) (hn : H p = none) (hd : p ∉ ps) : Rows H H' (ps ++ [p]) (rs ++ [r]) where
  len := by rw [List.length_append, List.length_append, R.len]; rfl
  row := fun i q r' h1 h2 => by
    by_cases hi : i < ps.length
    · rw [List.getElem?_append_left hi] at h1
      rw [List.getElem?_append_left (by rw [← R.len]; exact hi)] at h2
      exact R.row i q r' h1 h2
    · rw [List.getElem?_append_right (by omega)] at h1
      rw [List.getElem?_append_right (by rw [← R.len]; omega)] at h2
      have e : i - ps.length = 0 := by
        obtain ⟨h, _⟩ := List.getElem?_eq_some_iff.mp h1
        simpa using h
      rw [← R.len, e] at h2
      rw [e] at h1
      cases h1
      cases h2
      exact hp
  new := fun q hq => by
    rcases List.mem_append.mp hq with z | z
    · exact R.new q z
    · simp at z; subst z; exact hn
  nd := by
    rw [List.nodup_append]
    refine ⟨R.nd, by simp, fun a ha b hb => ?_⟩
    simp at hb
    subst hb
    intro e; subst e; exact hd ha
/-- a new list of new lists: the rows rs -/
def NewLL (H : Hp) (Q : VK) (rs : List (List Nat)) : Prop := ∀ (H' : Hp) (p : Addr) (ps : List Addr), Same H H' → H p = none → H' p = some (.lst (ps.map V.ref)) → Rows H H' ps rs → p ∉ ps → Q (.ref p) H'
theorem refs_last {ps : List Addr} {p : Addr} : atI ((ps ++ [p]).map V.ref) (-1) = some (.ref p) := by
  rw [List.map_append]; exact atI_last _ _
end Sb
namespace Sb
open PySem PySem.Spec PyProof.Rows L2
section
variable {P : Program} {w : World} {K : PySem.W.Frag} {mg : Str → Option Value} {base : Heap}
/-! ### rings_of -/
def spRings (K : PySem.W.Frag) : Sp := fun vs H Q _ => ∃ (a : Addr) (ns : List Nat), vs = [.ref a] ∧ SqL K H a (iv ns) ∧ Good ns ∧ ns.length ≤ 100 ∧ NewLL H Q (ringsOf ns)
abbrev n_rings_of : List Str := ["boxes", "found", "gone", "box"]
theorem sc_rings_of : FnScope n_rings_of ["boxes"] (defScope s_rings_of) := ⟨rfl, rfl, rfl, by decide +kernel, rfl, by decide +kernel, by decide +kernel⟩
theorem ok_rings_of (T : Tx K mg) : FnOk P w K mg base CX0 2 T.rings_of.f T.rings_of.fd ["boxes"] (spRings K) := by
  refine T.rings_of.F.ok sc_rings_of (fun vs H Q E h => ?_) (fun cdv A outer s H vs Q E hr h => ?_)
  · obtain ⟨a, ns, rfl, _⟩ := h
    rfl
  · obtain ⟨a, ns, rfl, hS, g, hlen, q⟩ := h
    refine ⟨_, (pss_cons (ps_par (i := 1) (j := 2) (by rfl) sc_rings_of.nd rfl rfl (by decide) rfl rfl (pa_cons (pe_lst pa_nil) (pa_cons (pe_lst pa_nil) pa_nil)) (by rfl))
    (pss_cons (ps_for PassesOwn.never rfl (pi_range1 (by rfl) T.m_range (pa_cons (pe_callB call_len_seq (by rfl) T.m_len (by decide +kernel) (pa_cons (pv 0) pa_nil)) pa_nil)) (pg_name (i := 3) sc_rings_of.nd rfl (.inl rfl))
      (pss_one (ps_if (pt_cmpR op_notIn_seq (pv 3) (pv 2) (by rfl))
        (pss_cons (ps_expr (pe_bm PySem.F.plainAttrs_list PySem.F.slot_list_append PySem.F.type_list_append mt_append (pv 1) (pa_cons (pe_df T.ring_from (ok_ring_from T) (hr.mono (by decide)) (pa_cons (pv 0) (pa_cons (pv 3) pa_nil))) pa_nil)))
        (pss_one (ps_expr (pe_bm PySem.F.plainAttrs_list PySem.F.slot_list_extend PySem.F.type_list_extend mt_extend (pv 2) (pa_cons (pe_ix ix_list (pv 1) (pe_un un_neg pe_int) (fun _ _ => rfl)) pa_nil)))))
        pss_nil)))
    (pss_one (ps_ret (pv 1))))), ?_⟩
    refine ⟨Nat.zero_le _, fun o no => ⟨Nat.zero_le _, fun z nz => ⟨_, _, rfl, ?_⟩⟩⟩
    have s1 : Same H (upd H o (.lst [])) := same_upd no
    have s2 := same_upd (o := .lst []) nz
    have nzo : z ≠ o := fun e => by
      rw [e, upd_same] at nz
      cases nz
    have nzH : H z = none := s1.free nz
    refine ⟨.ref a, rfl, a, _, rfl, .inl (s2.seq (s1.seq hS)), _, rfl, by omega, by rw [iv_len]; omega, ?_⟩
    rw [iv_len, show ((ns.length : Int)).toNat = ns.length by omega]
    refine for_range (lo := 0) (n := ns.length) (fun i σ H3 => ∃ ps v, σ = [some (.ref a), some (.ref o), some (.ref z), v] ∧ Same H H3 ∧ H3 o = some (.lst (ps.map V.ref)) ∧ H3 z = some (.lst (iv (ringsTo ns i).flatten)) ∧ Rows H H3 ps (ringsTo ns i) ∧ o ∉ ps ∧ z ∉ ps) ?_ (fun i σ H3 hi hP => ?_) (fun σ H3 hP => ?_)
    · refine ⟨[], none, rfl, s1.trans s2, ?_, upd_same, Rows.nil, by simp, by simp⟩
      rw [upd_ne nzo.symm, upd_same]
      rfl
    · obtain ⟨ps, v, rfl, sm, eo, ez, R, ho, hz⟩ := hP
      have hA : SqL K H3 a (iv ns) := sm.seq hS
      refine ⟨_, rfl, .ref z, rfl, z, _, rfl, .inl (.of ez), rfl, flat_iv _, _, rfl, ?_⟩
      rw [if_pos rfl, show (0 : Int) + ((i : Nat) : Int) = ((i : Nat) : Int) by omega, inV_iv]
      have hg := gone_iff g hi
      by_cases hmin : isMin ns i = true
      · have hd : decide (i ∈ (ringsTo ns i).flatten) = false := decide_eq_false fun z => hg.mp z hmin
        rw [hd]
        refine iteT ?_
        refine ⟨.ref o, rfl, .inl ⟨rfl, _, .of eo⟩, .ref a, rfl, _, rfl, a, ns, i, rfl, hA, g, hi, by omega, fun H4 p sm4 np ep => ?_⟩
        have eo4 := sm4 _ _ eo
        have ez4 := sm4 _ _ ez
        have nop : o ≠ p := ne_of_none eo np
        have nzp : z ≠ p := ne_of_none ez np
        have npp : p ∉ ps := fun hp => by
          obtain ⟨r, _, e⟩ := R.at hp
          rw [np] at e
          cases e
        refine ⟨o, _, _, rfl, rfl, eo4, ?_, ?_⟩
        · rw [List.length_map, R.len]
          have := ringsTo_len ns i
          exact szl (by omega)
        · have ep5 : (upd H4 o (.lst (ps.map V.ref ++ [.ref p]))) p = some (.lst (iv (ringOf ns i))) := by
            rw [upd_ne nop.symm]; exact ep
          have ez5 : (upd H4 o (.lst (ps.map V.ref ++ [.ref p]))) z = some (.lst (iv (ringsTo ns i).flatten)) := by
            rw [upd_ne nzo]; exact ez4
          have eo5 : (upd H4 o (.lst (ps.map V.ref ++ [.ref p]))) o = some (.lst ((ps ++ [p]).map V.ref)) := by
            rw [upd_same, List.map_append]; rfl
          refine ⟨.ref z, rfl, .inl ⟨rfl, _, .of ez5⟩, .ref o, rfl, 1, rfl, o, _, -1, _, rfl, rfl, .of eo5, refs_last, z, p, _, _, rfl, rfl, ez5, ep5, ?_, ?_⟩
          · rw [iv_len, iv_len]
            have h1 := ringsTo_flat g (k := i) (by omega)
            have h2 := ringOf_len g hi
            have h3 : i * ns.length ≤ 100 * 100 := Nat.mul_le_mul (by omega) hlen
            exact sz (by omega)
          · refine ⟨ps ++ [p], _, rfl, same_mut (same_mut (sm.trans sm4) no) nzH, ?_, ?_, ?_, ?_, ?_⟩
            · rw [upd_ne nzo.symm]; exact eo5
            · rw [upd_same, ringsTo_succ, if_pos hmin, List.flatten_append, ← List.map_append]
              simp
            · rw [ringsTo_succ, if_pos hmin]
              have R5 := ((R.same sm4).upd (x := .lst (ps.map V.ref ++ [.ref p])) ho).snoc ep5 (sm.free np) npp
              exact R5.upd (by
                intro h
                rcases List.mem_append.mp h with y | y
                · exact hz y
                · simp at y; exact nzp y)
            · intro h
              rcases List.mem_append.mp h with y | y
              · exact ho y
              · simp at y; exact nop y
            · intro h
              rcases List.mem_append.mp h with y | y
              · exact hz y
              · simp at y; exact nzp y
      · have hd : decide (i ∈ (ringsTo ns i).flatten) = true := decide_eq_true (hg.mpr hmin)
        rw [hd]
        refine iteF ?_
        refine ⟨ps, _, rfl, sm, eo, ?_, ?_, ho, hz⟩
        · rw [ringsTo_succ, if_neg hmin]; exact ez
        · rw [ringsTo_succ, if_neg hmin]; exact R
    · obtain ⟨ps, v, rfl, sm, eo, ez, R, ho, hz⟩ := hP
      exact ⟨.ref o, rfl, q H3 o ps sm no eo R ho⟩
end
end Sb
namespace Sb
open PySem PySem.Spec PyProof.Rows L2
/-! ### lists of lists compared -/
abbrev dNN (rs : List (List Nat)) : PyData := .list (rs.map dN)
theorem canN (ns : List Nat) : PyData.canLay0 (dN ns) = true := by
  rw [dN_eq]; unfold PyData.canLay0; exact canI _
theorem canNN : ∀ rs : List (List Nat), PyData.canLayAll0 (rs.map dN) = true
  | [] => by unfold PyData.canLayAll0; rfl
  | n :: r => by
    rw [List.map_cons]
    unfold PyData.canLayAll0
    rw [canNN r, canN n]; rfl
theorem depN (ns : List Nat) : PyData.depth (dN ns) ≤ 3 := by
  rw [dN_eq]
  have h := depI (ns.map fun (n : Nat) => (n : Int))
  unfold PyData.depth
  omega
theorem depNN : ∀ rs : List (List Nat), PyData.depthAll (rs.map dN) ≤ 3
  | [] => by unfold PyData.depthAll; exact Nat.zero_le _
  | n :: r => by
    rw [List.map_cons]
    unfold PyData.depthAll
    exact Nat.max_le.mpr ⟨depN n, depNN r⟩
theorem shapedNN (rs : List (List Nat)) : SeqAt.shaped (dNN rs) = true := by
  unfold SeqAt.shaped
  rw [Bool.and_eq_true_iff]
  refine ⟨by unfold PyData.canLay0; exact canNN rs, decide_eq_true ?_⟩
  have h := depNN rs
  unfold PyData.depth
  omega
theorem eqvNN : ∀ a b : List (List Nat), PyData.eqvAll (a.map dN) (b.map dN) = decide (a = b)
  | [], [] => by unfold PyData.eqvAll; rfl
  | [], y :: b => by rw [List.map_cons]; unfold PyData.eqvAll; rfl
  | x :: a, [] => by rw [List.map_cons]; unfold PyData.eqvAll; rfl
  | x :: a, y :: b => by
    rw [List.map_cons, List.map_cons]
    unfold PyData.eqvAll
    rw [eqvNN a b, eqvN, Bool.eq_iff_iff]
    simp
/-- a list of lists of numbers that is read -/
structure Sees (K : PySem.W.Frag) (H : Hp) (p : Addr) (rs : List (List Nat)) : Prop where
  ex : ∃ ps : List Addr, SqL K H p (ps.map V.ref) ∧ ps.length = rs.length ∧ ∀ (i : Nat) (q : Addr) (r : List Nat), ps[i]? = some q → rs[i]? = some r → SqL K H q (iv r)
theorem dpAll_rows {K : PySem.W.Frag} {H : Hp} : ∀ (ps : List Addr) (rs : List (List Nat)), ps.length = rs.length → (∀ (i : Nat) (q : Addr) (r : List Nat), ps[i]? = some q → rs[i]? = some r → SqL K H q (iv r)) → DpAll K H (ps.map V.ref) (rs.map dN)
  | [], [], _, _ => .nil
  | [], _ :: _, h, _ => by simp at h
  | _ :: _, [], h, _ => by simp at h
  | p :: ps, r :: rs, h, f => .cons (dp_iv (f 0 p r rfl rfl)) (dpAll_rows ps rs (by simpa using h) fun i q r' h1 h2 => f (i + 1) q r' (by simpa using h1) (by simpa using h2))
theorem Sees.dp {K : PySem.W.Frag} {H : Hp} {p : Addr} {rs : List (List Nat)} (S : Sees K H p rs) : Dp K H (.ref p) (dNN rs) := by
  obtain ⟨ps, h1, h2, h3⟩ := S.ex
  exact .lst h1 (dpAll_rows ps rs h2 h3)
theorem Rows.sees {K : PySem.W.Frag} {H H' : Hp} {p : Addr} {ps : List Addr} {rs : List (List Nat)} (R : Rows H H' ps rs) (hp : H' p = some (.lst (ps.map V.ref))) : Sees K H' p rs :=
  ⟨ps, .of hp, R.len, fun i q r h1 h2 => .of (R.row i q r h1 h2)⟩
theorem Sees.same {K : PySem.W.Frag} {H H' : Hp} {p : Addr} {rs : List (List Nat)} (S : Sees K H p rs) (s : Same H H') : Sees K H' p rs := by
  obtain ⟨ps, h1, h2, h3⟩ := S.ex
  exact ⟨ps, s.seq h1, h2, fun i q r a b => s.seq (h3 i q r a b)⟩
theorem ne_rows {K : PySem.W.Frag} {H : Hp} {a b : Addr} {x y : List (List Nat)} {Q : VK} (ha : Sees K H a x) (hb : Sees K H b y) (q : Q (.bl (!decide (x = y))) H) : rNeD K (.ref a) (.ref b) H Q :=
  ⟨dNN x, dNN y, ha.dp, hb.dp, shapedNN x, shapedNN y, by unfold PyData.eqv; rw [eqvNN]; exact q⟩
theorem eq_rows {K : PySem.W.Frag} {H : Hp} {a b : Addr} {x y : List (List Nat)} {Q : VK} (ha : Sees K H a x) (hb : Sees K H b y) (q : Q (.bl (decide (x = y))) H) : rEqD K (.ref a) (.ref b) H Q :=
  ⟨dNN x, dNN y, ha.dp, hb.dp, shapedNN x, shapedNN y, by unfold PyData.eqv; rw [eqvNN]; exact q⟩
/-! ### slices of any list -/
theorem cut_to (xs : List V) (k : Nat) : cutV xs none (some (k : Int)) = xs.take k := by
  unfold cutV
  rw [HT.sIx_nat, HT.sIx_none, List.drop_zero, Nat.sub_zero]
  by_cases h : k ≤ xs.length
  · rw [Nat.min_eq_left h]
  · rw [Nat.min_eq_right (by omega), List.take_of_length_le (Nat.le_refl _), List.take_of_length_le (by omega)]
theorem cut_m1 (xs : List V) (x : V) : cutV (xs ++ [x]) none (some (-1)) = xs := by
  unfold cutV
  rw [HT.sIx_none, List.drop_zero, Nat.sub_zero]
  have e : HT.sIx (xs ++ [x]).length (xs ++ [x]).length (some (-1)) = xs.length := by
    unfold HT.sIx
    dsimp only
    rw [if_pos (by decide), List.length_append]
    show ((-1 : Int) + ((xs.length + 1 : Nat) : Int)).toNat = xs.length
    omega
  rw [e, List.take_left' rfl]
theorem Good.rev {ns : List Nat} (g : Good ns) : Good ns.reverse := ⟨by
  rw [List.length_reverse]
  exact (List.reverse_perm ns).trans g.perm⟩
theorem rev_iv (ns : List Nat) : (iv ns).reverse = iv ns.reverse := (List.map_reverse ..).symm
end Sb
namespace Sb
open PySem PySem.Spec PyProof.Rows L2
theorem Rows.subset {H H' : Hp} {ps : List Addr} {rs : List (List Nat)} (R : Rows H H' ps rs) {i : Nat} {p : Addr} {r : List Nat} (h1 : ps[i]? = some p) (h2 : rs[i]? = some r) : H' p = some (.lst (iv r)) := R.row i p r h1 h2
section
variable {P : Program} {w : World} {K : PySem.W.Frag} {mg : Str → Option Value} {base : Heap}
/-! ### long_rings -/
def spLong (K : PySem.W.Frag) : Sp := fun vs H Q _ => ∃ (a : Addr) (ns : List Nat) (m : Nat), vs = [.ref a, .int (m : Int)] ∧ SqL K H a (iv ns) ∧ Good ns ∧ ns.length ≤ 100 ∧ NewLL H Q (longOf ns m)
abbrev n_long_rings : List Str := ["boxes", "most", "ring"]
theorem sc_long_rings : FnScope n_long_rings ["boxes", "most"] (defScope s_long_rings) := ⟨rfl, rfl, rfl, by decide +kernel, rfl, by decide +kernel, by decide +kernel⟩
theorem ok_long_rings (T : Tx K mg) : FnOk P w K mg base CX0 3 T.long_rings.f T.long_rings.fd ["boxes", "most"] (spLong K) := by
  refine T.long_rings.F.ok sc_long_rings (fun vs H Q E h => ?_) (fun cdv A outer s H vs Q E hr h => ?_)
  · obtain ⟨a, ns, m, rfl, _⟩ := h
    rfl
  · obtain ⟨a, ns, m, rfl, hS, g, hlen, q⟩ := h
    refine ⟨_, (pss_one (ps_ret (pe_lc (own := [("ring", 2)]) (g := gName 2) rfl sc_long_rings.nd (pi_list (pe_df T.rings_of (ok_rings_of T) (hr.mono (by decide)) (pa_cons (pv 0) pa_nil))) (blkOk_by (own := [("ring", 2)]) (N := n_long_rings) (sc := defScope s_long_rings) (by decide +kernel)) (fun _ _ _ _ _ => (pg_name (i := 2) sc_long_rings.nd rfl (.inl rfl))) (fun _ _ _ _ _ => (pts_one (pt_cmpR op_gt (pe_callB (call_lenK (K := K) rfl) (by rfl) T.m_len PySem.boot_len (pa_cons (pv 2) pa_nil)) (pv 1) (nomark _)))) (fun _ _ _ _ _ => (pv 2))))), ?_⟩
    refine ⟨_, rfl, a, ns, rfl, hS, g, hlen, fun H1 pr ps s1 npr epr R hpr => ⟨pr, rfl, ⟨_, .of epr⟩, fun D nD => ?_⟩⟩
    have nDp : D ∉ ps := fun h => by
      obtain ⟨r, _, e⟩ := R.at h
      rw [nD] at e
      cases e
    have nDH : H D = none := s1.free nD
    have nDr : D ≠ pr := fun e => by rw [e, epr] at nD; cases nD
    refine lc_list (K := K) (a := pr) (xs := ps.map V.ref) (fun i H3 => ∃ qs, H3 D = some (.lst (qs.map V.ref)) ∧ Same H1 H3 ∧ Rows H H3 qs (((ringsOf ns).take i).filter fun r => decide (m < r.length)) ∧ ∀ q ∈ qs, q ∈ ps.take i) ⟨[], upd_same, same_upd nD, Rows.nil, fun q h => by simp at h⟩ (fun i H3 _ h => ?_) (fun i x H3 hx h => ?_) (fun H3 h => ?_)
    · obtain ⟨qs, _, sm, _⟩ := h
      exact .of (sm _ _ epr)
    · obtain ⟨qs, eD, sm, R3, hq⟩ := h
      rw [List.getElem?_map] at hx
      obtain ⟨p, hp, rfl⟩ := Option.map_eq_some_iff.mp hx
      have hi : i < ps.length := (List.getElem?_eq_some_iff.mp hp).1
      have hi2 : i < (ringsOf ns).length := by rw [← R.len]; exact hi
      have er1 := R.row i p _ hp (List.getElem?_eq_getElem hi2)
      have er3 := sm _ _ er1
      have et : (ringsOf ns).take (i + 1) = (ringsOf ns).take i ++ [(ringsOf ns)[i]] := by
        rw [List.take_add_one, List.getElem?_eq_getElem hi2]; rfl
      have ep : ps.take (i + 1) = ps.take i ++ [p] := by
        rw [List.take_add_one, hp]; rfl
      refine ⟨rfl, _, rfl, p, _, rfl, .inl (.of er3), _, rfl, _, _, rfl, rfl, _, rfl, ite2 (fun e => ?_) (fun e => ?_)⟩
      · have hl : m < ((ringsOf ns)[i]).length := by
          have := of_decide_eq_true e
          rw [iv_len] at this
          omega
        refine ⟨_, rfl, _, eD, ?_, ?_⟩
        · rw [List.length_map, R3.len]
          have h1 : ((ringsOf ns).take i |>.filter fun r => decide (m < r.length)).length ≤ ((ringsOf ns).take i).length := List.length_filter_le _ _
          rw [List.length_take] at h1
          have h2 : (ringsOf ns).length ≤ ns.length := ringsTo_len ns ns.length
          exact szl (by omega)
        · have npq : p ∉ qs := fun h => by
            obtain ⟨j, hj⟩ := List.mem_iff_getElem?.mp (hq p h)
            rw [List.getElem?_take] at hj
            by_cases hji : j < i
            · rw [if_pos hji] at hj
              have := nd_ix R.nd hj hp
              omega
            · rw [if_neg hji] at hj
              cases hj
          have npD : D ≠ p := fun z => nDp (by rw [z]; exact List.mem_of_getElem? hp)
          have nDq : D ∉ qs := fun h => nDp (List.mem_of_mem_take (hq D h))
          refine ⟨qs ++ [p], ?_, same_mut sm nD, ?_, fun z hz => ?_⟩
          · rw [upd_same, List.map_append]; rfl
          · rw [et, List.filter_append, List.filter_cons_of_pos (by simpa using hl)]
            refine (R3.snoc er3 (R.new p (List.mem_of_getElem? hp)) npq).upd ?_
            intro h
            rcases List.mem_append.mp h with y | y
            · exact nDq y
            · simp at y; exact npD y
          · rw [ep]
            rcases List.mem_append.mp hz with y | y
            · exact List.mem_append_left _ (hq z y)
            · exact List.mem_append_right _ y
      · have hl : ¬ m < ((ringsOf ns)[i]).length := fun z => e (decide_eq_true (by rw [iv_len]; omega))
        refine ⟨qs, eD, sm, ?_, fun z hz => ?_⟩
        · rw [et, List.filter_append, List.filter_cons_of_neg (by simpa using hl), List.filter_nil, List.append_nil]
          exact R3
        · rw [ep]; exact List.mem_append_left _ (hq z hz)
    · obtain ⟨qs, eD, sm, R3, hq⟩ := h
      rw [List.length_map, R.len, List.take_length] at R3
      refine q H3 D qs (s1.trans sm) nDH eD R3 fun h => nDp ?_
      have := hq D h
      exact List.mem_of_mem_take this
end
end Sb
namespace Sb
open PySem PySem.Spec PyProof.Rows L2
theorem eqv_dI (a b : List Int) : PyData.eqv (dI a) (dI b) = decide (a = b) := by
  show PyData.eqv (PyData.list _) (PyData.list _) = _
  unfold PyData.eqv
  exact eqvI a b
theorem eq_ii {K : PySem.W.Frag} {H : Hp} {a b : Addr} {x y : List Int} {Q : VK} (ha : SqL K H a (x.map V.int)) (hb : SqL K H b (y.map V.int)) (q : Q (.bl (decide (x = y))) H) : rEqD K (.ref a) (.ref b) H Q :=
  ⟨dI x, dI y, dp_ints ha, dp_ints hb, shapedI x, shapedI y, by rw [eqv_dI]; exact q⟩
theorem ne_ii {K : PySem.W.Frag} {H : Hp} {a b : Addr} {x y : List Int} {Q : VK} (ha : SqL K H a (x.map V.int)) (hb : SqL K H b (y.map V.int)) (q : Q (.bl (!decide (x = y))) H) : rNeD K (.ref a) (.ref b) H Q :=
  ⟨dI x, dI y, dp_ints ha, dp_ints hb, shapedI x, shapedI y, by rw [eqv_dI]; exact q⟩
theorem cut_from1 (xs : List V) : cutV xs (some 1) none = xs.drop 1 := by
  unfold cutV
  rw [show HT.sIx xs.length 0 (some 1) = min 1 xs.length from HT.sIx_nat _ 0 1, HT.sIx_none]
  cases xs with
  | nil => rfl
  | cons x r =>
    rw [show min 1 (x :: r).length = 1 by rw [List.length_cons]; omega]
    rw [List.take_of_length_le]
    rw [List.length_drop]
    exact Nat.le_refl _
theorem ints_at {ns : List Int} {i : Nat} {x : Int} (h : ns[i]? = some x) : (ns.map V.int)[i]? = some (.int x) := by
  rw [List.getElem?_map, h]; rfl
theorem take_zip {r q : List Int} {i : Nat} {x y : Int} (hx : r[i]? = some x) (hy : q[i]? = some y) : (r.zip q).take (i + 1) = (r.zip q).take i ++ [(x, y)] := by
  have h : (r.zip q)[i]? = some (x, y) := List.getElem?_zip_eq_some.mpr ⟨hx, hy⟩
  rw [List.take_add_one, h]; rfl
theorem dec_int (a b : Int) : decide (V.int a = V.int b) = decide (a = b) := by
  rw [Bool.eq_iff_iff, decide_eq_true_iff, decide_eq_true_iff]
  constructor
  · intro h; injection h
  · intro h; rw [h]
theorem bool_iff {b c : Bool} {p : Prop} (h1 : b = true ↔ p) (h2 : c = true ↔ p) : b = c := by
  rw [Bool.eq_iff_iff]; exact h1.trans h2.symm
section
variable {P : Program} {w : World} {K : PySem.W.Frag} {mg : Str → Option Value} {base : Heap}
/-! ### is_ring -/
def Says (H : Hp) (Q : VK) (p : Prop) : Prop := ∀ (b : Bool) (H' : Hp), Same H H' → (b = true ↔ p) → Q (.bl b) H'
def spIsRing (K : PySem.W.Frag) : Sp := fun vs H Q _ => ∃ (a l : Addr) (ns : List Nat) (r : List Int), vs = [.ref a, .ref l] ∧ SqL K H a (iv ns) ∧ SqL K H l (r.map V.int) ∧ ns.length ≤ 100 ∧ r.length ≤ 4000 ∧ Says H Q (RingI ns r)
abbrev n_is_ring : List Str := ["boxes", "ring", "box", "one", "other"]
theorem sc_is_ring : FnScope n_is_ring ["boxes", "ring"] (defScope s_is_ring) := ⟨rfl, rfl, rfl, by decide +kernel, rfl, by decide +kernel, by decide +kernel⟩
theorem ok_is_ring (T : Tx K mg) : FnOk P w K mg base CX0 2 T.is_ring.f T.is_ring.fd ["boxes", "ring"] (spIsRing K) := by
  refine T.is_ring.F.ok sc_is_ring (fun vs H Q E h => ?_) (fun cdv A outer s H vs Q E hr h => ?_)
  · obtain ⟨a, l, ns, r, rfl, _⟩ := h
    rfl
  · obtain ⟨a, l, ns, r, rfl, hA, hL, hn, hr4, q⟩ := h
    refine ⟨_, (pss_cons (ps_if (PW.pt (pw_or (pt_cmpR (op_eqD hr.units) (pv 1) (pe_lst pa_nil) (nomark _)) (pw_or1 (pt_cmpR op_ne (pe_lenSetG (by rfl) T.m_len (by rfl) T.m_set (pv 1)) (pe_callB call_len_seq (by rfl) T.m_len (by decide +kernel) (pa_cons (pv 1) pa_nil)) (nomark _)))))
      (pss_one (ps_ret pe_bl))
      pss_nil)
    (pss_cons (ps_if (pt_not (pt_val (pe_callB (cr_all rfl) (by rfl) T.m_all (by decide +kernel) (pa_cons (pe_lc (own := [("box", 2)]) (g := gName 2) rfl sc_is_ring.nd (pi_list (pv 1)) (blkOk_by (own := [("box", 2)]) (N := n_is_ring) (sc := defScope s_is_ring) (by decide +kernel)) (fun _ _ _ _ _ => (pg_name (i := 2) sc_is_ring.nd rfl (.inl rfl))) (fun _ _ _ _ _ => pts_nil) (fun _ _ _ _ _ => (pe_and (pe_df T.is_whole (ok_is_whole T) (hr.mono (by decide)) (pa_cons (pv 2) pa_nil)) (pe_one (pe_chain op_le op_lt pe_int (pv 2) (pe_callB (call_lenK (K := K) rfl) (by rfl) T.m_len PySem.boot_len (pa_cons (pv 0) pa_nil))))))) pa_nil))))
      (pss_one (ps_ret pe_bl))
      pss_nil)
    (pss_one (ps_ret (pe_callB (cr_all rfl) (by rfl) T.m_all (by decide +kernel) (pa_cons (pe_lc (own := [("one", 3), ("other", 4)]) (g := gTup K 2 (gCons (gName 3) (gCons (gName 4) gNil))) rfl sc_is_ring.nd (pi_zip (by rfl) T.m_zip (pa_cons (pv 1) (pa_cons (pe_op op_cat (pe_slice sl_list (pv 1) (po_some pe_int) po_none) (pe_slice sl_list (pv 1) po_none (po_some pe_int))) pa_nil))) (blkOk_by (own := [("one", 3), ("other", 4)]) (N := n_is_ring) (sc := defScope s_is_ring) (by decide +kernel)) (fun _ _ _ _ _ => (pg_tup rfl (pgs_cons (pg_name (i := 3) sc_is_ring.nd rfl (.inl rfl)) (pgs_cons (pg_name (i := 4) sc_is_ring.nd rfl (.inl rfl)) pgs_nil)))) (fun _ _ _ _ _ => pts_nil) (fun _ _ _ _ _ => (pe_cmpR op_eq (pe_ix (ix_listK (K := K) rfl) (pv 0) (pv 3) (fun _ _ => rfl)) (pv 4) (nomark _)))) pa_nil)))))), ?_⟩
    refine ⟨_, rfl, Nat.zero_le _, fun p np => ?_⟩
    have s1 := same_upd (o := .lst []) np
    refine eq_ii (y := []) (s1.seq hL) (.of upd_same) ⟨_, rfl, ite2 (fun e => ?_) (fun e => ?_)⟩
    · have e1 : r = [] := of_decide_eq_true e
      refine q false _ s1 ⟨fun z => Bool.noConfusion z, fun z => ?_⟩
      exact absurd e1 (ringI_steps.mp z).1
    have hne : r ≠ [] := fun z => e (decide_eq_true z)
    refine ⟨_, rfl, l, r, rfl, s1.seq hL, hr4, fun k hk => ⟨_, rfl, l, _, rfl, .inl (s1.seq hL), rfl, _, rfl, ite2 (fun e => ?_) (fun e => ?_)⟩⟩
    · refine q false _ s1 ⟨fun z => Bool.noConfusion z, fun z => ?_⟩
      have nd := (ringI_steps.mp z).2.1
      rw [hk.mpr nd, List.length_map] at e
      simp at e
    have nd : r.Nodup := by
      apply hk.mp
      have : V.int (k : Int) = V.int (((r.map V.int).length : Nat) : Int) := by
        cases hd : decide (V.int (k : Int) = V.int (((r.map V.int).length : Nat) : Int)) with
        | true => exact of_decide_eq_true hd
        | false => rw [hd] at e; exact absurd rfl e
      injection this with this
      rw [List.length_map] at this
      omega
    -- all boxes
    refine ⟨_, rfl, l, rfl, ⟨_, s1.seq hL⟩, fun D nD => ?_⟩
    refine lc_list (K := K) (a := l) (xs := r.map V.int) (fun i H3 => Same H H3 ∧ H3 D = some (.lst (((r.take i).map fun x => decide (0 ≤ x) && decide (x < (ns.length : Int))).map V.bl))) ⟨s1.trans (same_upd nD), upd_same⟩ (fun i H3 _ h => h.1.seq hL) (fun i x H3 hx h => ?_) (fun H3 h => ?_)
    · obtain ⟨sm, eD⟩ := h
      rw [List.getElem?_map] at hx
      obtain ⟨z, hz, rfl⟩ := Option.map_eq_some_iff.mp hx
      have hi : i < r.length := (List.getElem?_eq_some_iff.mp hz).1
      have nDH : H D = none := s1.free nD
      have fin : ∀ b : Bool, b = (decide (0 ≤ z) && decide (z < (ns.length : Int))) → ∃ acc, H3 D = some (.lst acc) ∧ acc.length < sizeLine ∧ (Same H (upd H3 D (.lst (acc ++ [.bl b]))) ∧ (upd H3 D (.lst (acc ++ [.bl b]))) D = some (.lst (((r.take (i + 1)).map fun x => decide (0 ≤ x) && decide (x < (ns.length : Int))).map V.bl))) := fun b hb => by
        refine ⟨_, eD, ?_, same_mut sm nDH, ?_⟩
        · rw [List.length_map, List.length_map, List.length_take]
          exact szl (by omega)
        · rw [upd_same, List.take_add_one, hz, hb, List.map_append, List.map_append]
          rfl
      refine ⟨rfl, _, rfl, .int z, "int", true, false, rfl, .base (.int _), by decide +kernel, by decide +kernel, true, rfl, ?_⟩
      rw [if_pos rfl]
      refine ⟨_, rfl, 0, z, rfl, rfl, _, rfl, ite2 (fun e => ?_) (fun e => ?_)⟩
      · refine ⟨_, rfl, a, _, rfl, .inl (sm.seq hA), z, _, rfl, rfl, fin _ ?_⟩
        rw [iv_len, show decide (0 ≤ z) = true from e, Bool.true_and]
      · refine fin _ ?_
        have e' : decide (0 ≤ z) = false := by
          cases hd : decide (0 ≤ z) with
          | true => exact absurd hd e
          | false => rfl
        rw [e', Bool.false_and]
    obtain ⟨sm, eD⟩ := h
    rw [List.length_map, List.take_length] at eD
    have eall : (r.map fun x => decide (0 ≤ x) && decide (x < (ns.length : Int))).all id = true ↔ ∀ x ∈ r, 0 ≤ x ∧ x < (ns.length : Int) := by
      rw [List.all_map, List.all_eq_true]
      constructor
      · intro h x hx
        have := h x hx
        simpa using this
      · intro h x hx
        have := h x hx
        simpa using this
    refine ⟨D, _, rfl, .of eD, _, rfl, ?_⟩
    generalize (r.map fun x => decide (0 ≤ x) && decide (x < (ns.length : Int))).all id = ball at eall
    cases ball with
    | false =>
      refine iteT ?_
      refine q false _ sm ⟨fun z => Bool.noConfusion z, fun z => ?_⟩
      have := eall.mpr (ringI_steps.mp z).2.2.1
      cases this
    | true =>
      refine iteF ?_
      have lt := eall.mp rfl
      -- zip(ring, ring[1:] + ring[:1])
      have hL3 := sm.seq hL
      refine ⟨_, rfl, _, rfl, 1, rfl, l, _, rfl, hL3, fun p1 n1 => ?_⟩
      rw [cut_from1]
      have s2 := same_upd (o := .lst ((r.map V.int).drop 1)) n1
      refine ⟨_, rfl, 1, rfl, l, _, rfl, s2.seq hL3, fun p2 n2 => ?_⟩
      rw [show (1 : Int) = ((1 : Nat) : Int) from rfl, cut_to]
      have s3 := same_upd (o := .lst ((r.map V.int).take 1)) n2
      refine ⟨p1, p2, _, _, rfl, rfl, s3 _ _ upd_same, upd_same, ?_, fun p3 n3 => ?_⟩
      · rw [List.length_drop, List.length_take, List.length_map]
        exact sz (by omega)
      rw [show (r.map V.int).drop 1 ++ (r.map V.int).take 1 = (r.drop 1 ++ r.take 1).map V.int by rw [List.map_append, List.map_drop, List.map_take]]
      have s4 := same_upd (o := .lst ((r.drop 1 ++ r.take 1).map V.int)) n3
      have sA := ((sm.trans s2).trans s3).trans s4
      have hrl : (r.drop 1 ++ r.take 1).length = r.length := by
        rw [List.length_append, List.length_drop, List.length_take]
        omega
      refine ⟨l, p3, r.map V.int, (r.drop 1 ++ r.take 1).map V.int, rfl, sA.seq hL, .of upd_same, fun D2 nD2 => ?_⟩
      refine lc_it (walk_zip (K := K) (a := l) (b := p3) (xs := r.map V.int) (ys := (r.drop 1 ++ r.take 1).map V.int) (n := r.length) (by rw [List.length_map, List.length_map, hrl, Nat.min_self]))
        (fun i H5 => Same H H5 ∧ H5 p3 = some (.lst ((r.drop 1 ++ r.take 1).map V.int)) ∧ H5 D2 = some (.lst ((((r.zip (r.drop 1 ++ r.take 1)).take i).map fun p => decide (((nxt ns p.1.toNat : Nat) : Int) = p.2)).map V.bl)))
        ⟨sA.trans (same_upd nD2), same_upd nD2 _ _ upd_same, upd_same⟩ (fun i H5 _ h => ⟨h.1.seq hL, .of h.2.1⟩) (fun i x H5 H6 hi h hy => ?_) (fun H5 h => ?_)
      · obtain ⟨sm5, ep5, eD5⟩ := h
        obtain ⟨t, x1, y1, rfl, nt, rfl, hx1, hy1⟩ := hy
        dsimp only at hx1 hy1
        rw [List.getElem?_map] at hx1 hy1
        obtain ⟨xi, hxi, rfl⟩ := Option.map_eq_some_iff.mp hx1
        obtain ⟨yi, hyi, rfl⟩ := Option.map_eq_some_iff.mp hy1
        have s6 := same_upd (o := .tup [V.int xi, V.int yi]) nt
        have hx2 := lt xi (List.mem_of_getElem? hxi)
        have nDH : H D2 = none := sA.free nD2
        have at1 : atI (iv ns) xi = some (.int ((nxt ns xi.toNat : Nat) : Int)) := by
          have : xi = ((xi.toNat : Nat) : Int) := by omega
          rw [this, Int.toNat_natCast]
          exact iv_at (nxt_get? (by omega))
        refine ⟨t, _, rfl, .of upd_same, rfl, _, _, rfl, _, _, rfl, rfl, rfl, ?_⟩
        refine ⟨_, rfl, _, rfl, a, _, xi, _, rfl, rfl, s6.seq (sm5.seq hA), at1, _, rfl, rfl, _, s6 _ _ eD5, ?_, ?_⟩
        · rw [List.length_map, List.length_map, List.length_take, List.length_zip]
          exact szl (by omega)
        · have np3 : p3 ≠ D2 := fun e => by rw [← e, upd_same] at nD2; cases nD2
          refine ⟨same_mut (sm5.trans s6) nDH, ?_, ?_⟩
          · rw [upd_ne np3]; exact s6 _ _ ep5
          · rw [upd_same, take_zip hxi hyi, List.map_append, List.map_append]
            show _ = some (HO.lst (_ ++ [V.bl (decide (((nxt ns xi.toNat : Nat) : Int) = yi))]))
            rw [dec_int]
      · obtain ⟨sm5, ep5, eD5⟩ := h
        rw [List.take_of_length_le (by rw [List.length_zip]; omega)] at eD5
        refine ⟨D2, _, rfl, .of eD5, q _ _ sm5 ?_⟩
        rw [ringI_steps, List.all_map, List.all_eq_true]
        constructor
        · intro h
          refine ⟨hne, nd, lt, fun i x y hx hy => ?_⟩
          have := h (x, y) (List.mem_of_getElem? (List.getElem?_zip_eq_some.mpr ⟨hx, hy⟩))
          simpa using this
        · rintro ⟨_, _, _, h⟩ ⟨x, y⟩ hxy
          obtain ⟨i, hi⟩ := List.mem_iff_getElem?.mp hxy
          obtain ⟨hx, hy⟩ := List.getElem?_zip_eq_some.mp hi
          have := h i x y hx hy
          simpa using this
end
end Sb
namespace Sb
open PySem PySem.Spec PyProof.Rows L2
section
variable {P : Program} {w : World} {K : PySem.W.Frag} {mg : Str → Option Value} {base : Heap}
theorem Says.back {H H1 : Hp} {Q : VK} {p : Prop} (s : Same H H1) (q : Says H Q p) : Says H1 Q p := fun b H' s' h => q b H' (s.trans s') h
/-! ### All.shows -/
def spAllS (K : PySem.W.Frag) : Sp := fun vs H Q _ => ∃ (x : V) (a : Addr) (ns : List Nat) (m : Nat), vs = [x, .ref a, .int (m : Int)] ∧ SqL K H a (iv ns) ∧ Good ns ∧ ns.length ≤ 100 ∧ Says H Q (Short ns m)
abbrev n_All_shows : List Str := ["self", "boxes", "most"]
theorem sc_All_shows : FnScope n_All_shows ["self", "boxes", "most"] (defScope s_All_shows) := ⟨rfl, rfl, rfl, by decide +kernel, rfl, by decide +kernel, by decide +kernel⟩
theorem ok_All_shows (T : Tx K mg) : FnOk P w K mg base CX0 4 T.All_shows.f T.All_shows.fd ["self", "boxes", "most"] (spAllS K) := by
  refine T.All_shows.F.ok sc_All_shows (fun vs H Q E h => ?_) (fun cdv A outer s H vs Q E hr h => ?_)
  · obtain ⟨x, a, ns, m, rfl, _⟩ := h
    rfl
  · obtain ⟨x, a, ns, m, rfl, hA, g, hn, q⟩ := h
    refine ⟨_, (pss_one (ps_ret (pe_cmpR (op_eqD hr.units) (pe_df T.long_rings (ok_long_rings T) (hr.mono (by decide)) (pa_cons (pv 1) (pa_cons (pv 2) pa_nil))) (pe_lst pa_nil) (nomark _)))), ?_⟩
    refine ⟨_, rfl, _, rfl, a, ns, m, rfl, hA, g, hn, fun H1 p ps s1 np ep R hp => ?_⟩
    refine ⟨Nat.zero_le _, fun z nz => ?_⟩
    have s2 := same_upd (o := .lst []) nz
    refine eq_rows (x := longOf ns m) (y := []) ((R.sees ep).same s2) ⟨[], .of upd_same, rfl, fun i q r h _ => by simp at h⟩ (q _ _ (s1.trans s2) ?_)
    rw [decide_eq_true_iff]
    exact longOf_nil g
/-! ### Long -/
def spLongI (C : Addr) (K : PySem.W.Frag) : Sp := fun vs H Q _ => ∃ (x l0 dx : Addr) (xs : List V), vs = [.ref x, .ref l0] ∧ H x = some (.ins C dx []) ∧ SqL K H l0 xs ∧ ∀ l, H l = none → Q .non (upd (upd H l (.lst xs)) x (.ins C dx [("ring", .ref l)]))
abbrev n_Long___init__ : List Str := ["self", "ring"]
theorem sc_Long___init__ : FnScope n_Long___init__ ["self", "ring"] (defScope s_Long___init__) := ⟨rfl, rfl, rfl, by decide +kernel, rfl, by decide +kernel, by decide +kernel⟩
theorem ok_Long_init (T : Tx K mg) : FnOk P w K mg base CX0 1 T.Long_init.f T.Long_init.fd ["self", "ring"] (spLongI T.Long.C K) := by
  refine T.Long_init.F.ok sc_Long___init__ (fun vs H Q E h => ?_) (fun cdv A outer s H vs Q E hr h => ?_)
  · obtain ⟨x, l0, dx, xs, rfl, _⟩ := h
    rfl
  · obtain ⟨x, l0, dx, xs, rfl, hx, hL, q⟩ := h
    refine ⟨_, (pss_one (ps_fld (pv 0) (pe_callTy call_list_of (by rfl) T.m_list (by decide +kernel) (pa_cons (pv 1) pa_nil)) rfl)), ?_⟩
    refine ⟨_, rfl, l0, _, rfl, .inl hL, fun l nl => ?_⟩
    have nxl : x ≠ l := ne_of_none hx nl
    exact ⟨_, rfl, x, T.Long.C, dx, [], rfl, by rw [upd_ne nxl]; exact hx, T.Long.cl, T.n_Long_ring, by decide, q l nl⟩
def spLongS (C : Addr) (K : PySem.W.Frag) : Sp := fun vs H Q _ => ∃ (x a l dx : Addr) (ns : List Nat) (r : List Int) (m : Nat), vs = [.ref x, .ref a, .int (m : Int)] ∧ H x = some (.ins C dx [("ring", .ref l)]) ∧ SqL K H l (r.map V.int) ∧ SqL K H a (iv ns) ∧ ns.length ≤ 100 ∧ r.length ≤ 4000 ∧ Says H Q (RingI ns r ∧ m < r.length)
theorem lk_ring {l : Addr} : List.lookup ("ring" : Str) [(("ring" : Str), V.ref l)] = some (V.ref l) := by simp [List.lookup]
abbrev n_Long_shows : List Str := ["self", "boxes", "most"]
theorem sc_Long_shows : FnScope n_Long_shows ["self", "boxes", "most"] (defScope s_Long_shows) := ⟨rfl, rfl, rfl, by decide +kernel, rfl, by decide +kernel, by decide +kernel⟩
theorem ok_Long_shows (T : Tx K mg) : FnOk P w K mg base CX0 3 T.Long_shows.f T.Long_shows.fd ["self", "boxes", "most"] (spLongS T.Long.C K) := by
  refine T.Long_shows.F.ok sc_Long_shows (fun vs H Q E h => ?_) (fun cdv A outer s H vs Q E hr h => ?_)
  · obtain ⟨x, a, l, dx, ns, r, m, rfl, _⟩ := h
    rfl
  · obtain ⟨x, a, l, dx, ns, r, m, rfl, hx, hL, hA, hn, hr4, q⟩ := h
    refine ⟨_, (pss_one (ps_ret (pe_and (pe_df T.is_ring (ok_is_ring T) (hr.mono (by decide)) (pa_cons (pv 1) (pa_cons (pe_fld (pv 0) rfl) pa_nil))) (pe_one (pe_cmpR op_gt (pe_callB call_len_seq (by rfl) T.m_len (by decide +kernel) (pa_cons (pe_fld (pv 0) rfl) pa_nil)) (pv 2) (nomark _)))))), ?_⟩
    refine ⟨_, rfl, _, rfl, x, T.Long.C, dx, _, _, rfl, hx, T.Long.cl, T.n_Long_ring, lk_ring, a, l, ns, r, rfl, hA, hL, hn, hr4, fun b H1 s1 hb => ⟨b, rfl, ite2 (fun e => ?_) (fun e => ?_)⟩⟩
    · refine ⟨_, rfl, x, T.Long.C, dx, _, _, rfl, s1 _ _ hx, T.Long.cl, T.n_Long_ring, lk_ring, l, _, rfl, .inl (s1.seq hL), _, rfl, _, _, rfl, rfl, q _ _ s1 ?_⟩
      rw [decide_eq_true_iff, List.length_map]
      constructor
      · intro h; exact ⟨hb.mp e, by omega⟩
      · rintro ⟨_, h⟩; omega
    · refine q _ _ s1 ⟨fun z => Bool.noConfusion z, fun z => absurd (hb.mpr z.1) e⟩
/-! ### what an All, a Long says -/
/-- at x an All, or a Long of the numbers r -/
def JAt (T : Tx K mg) (H : Hp) (x : Addr) : Option (List Int) → Prop
  | none => ∃ dx, H x = some (.ins T.All.C dx [])
  | some r => ∃ dx l, H x = some (.ins T.Long.C dx [("ring", .ref l)]) ∧ H l = some (.lst (r.map V.int)) ∧ r.length ≤ 4000
def JDue (ns : List Nat) (m : Nat) : Option (List Int) → Prop
  | none => Short ns m
  | some r => RingI ns r ∧ m < r.length
theorem JAt.same {T : Tx K mg} {H H' : Hp} {x : Addr} {o : Option (List Int)} (j : JAt T H x o) (s : Same H H') : JAt T H' x o := by
  cases o with
  | none =>
    obtain ⟨dx, e⟩ := j
    exact ⟨dx, s _ _ e⟩
  | some r =>
    obtain ⟨dx, l, e1, e2, e3⟩ := j
    exact ⟨dx, l, s _ _ e1, s _ _ e2, e3⟩
end
end Sb
namespace Sb
open PySem PySem.Spec PyProof.Rows L2
/-! ### rules in a comprehension's block: the written part told -/
section
variable {X : Cx} {K : PySem.W.Frag} {e : Expr} {ta : TE} {f : Str} {pos : Pos}
theorem pe_fldK (h : X.K = K) (he : PE X e ta) (hb : attributeBase e f X.env (eval e X.env) = eval e X.env) : PE X (.Attribute e f pos) (tFld K ta f) := by subst h; exact pe_fld he hb
theorem op_in_seqK (h : X.K = K) : OpR X (compareOp .In) (rIn K false) := by subst h; exact op_in_seq
theorem op_notIn_seqK (h : X.K = K) : OpR X (compareOp .NotIn) (rIn K true) := by subst h; exact op_notIn_seq
theorem sl_listK (h : X.K = K) : SlR X (rSlL K) := by subst h; exact sl_list
end
end Sb
namespace Sb
open PySem PySem.Spec PyProof.Rows L2
theorem ixN_nat {n i : Nat} (h : i < n) : ixN n (i : Int) = some i := by
  unfold ixN
  rw [if_pos (by omega), if_pos (by omega), Int.toNat_natCast]
theorem set_iv (ns : List Nat) (i x : Nat) : (iv ns).set i (.int (x : Int)) = iv (ns.set i x) := (List.map_set ..).symm
section
variable {P : Program} {w : World} {K : PySem.W.Frag} {mg : Str → Option Value} {base : Heap}
/-! ### exchanged -/
def spExch (K : PySem.W.Frag) : Sp := fun vs H Q _ => ∃ (a : Addr) (ns : List Nat) (i j : Nat), vs = [.ref a, .int (i : Int), .int (j : Int)] ∧ SqL K H a (iv ns) ∧ i < ns.length ∧ j < ns.length ∧ NewL H Q (exch ns i j)
abbrev n_exchanged : List Str := ["boxes", "one", "other", "found"]
theorem sc_exchanged : FnScope n_exchanged ["boxes", "one", "other"] (defScope s_exchanged) := ⟨rfl, rfl, rfl, by decide +kernel, rfl, by decide +kernel, by decide +kernel⟩
theorem ok_exchanged (T : Tx K mg) : FnOk P w K mg base CX0 1 T.exchanged.f T.exchanged.fd ["boxes", "one", "other"] (spExch K) := by
  refine T.exchanged.F.ok sc_exchanged (fun vs H Q E h => ?_) (fun cdv A outer s H vs Q E hr h => ?_)
  · obtain ⟨a, ns, i, j, rfl, _⟩ := h
    rfl
  · obtain ⟨a, ns, i, j, rfl, hA, hi, hj, q⟩ := h
    refine ⟨_, (pss_cons (ps_set (i := 3) sc_exchanged.nd rfl (.inl rfl) (pe_callTy call_list_of (by rfl) T.m_list (by decide +kernel) (pa_cons (pv 0) pa_nil)))
    (pss_cons (ps_asg (pe_tup (pa_cons (pe_ix ix_list (pv 0) (pv 2) (fun _ _ => rfl)) (pa_cons (pe_ix ix_list (pv 0) (pv 1) (fun _ _ => rfl)) pa_nil))) (pg_tup rfl (pgs_cons (pg_sub (pv 3) (pv 1) set_list) (pgs_cons (pg_sub (pv 3) (pv 2) set_list) pgs_nil))))
    (pss_one (ps_ret (pv 3))))), ?_⟩
    refine ⟨_, rfl, a, _, rfl, .inl hA, fun p np => ?_⟩
    have s1 := same_upd (o := .lst (iv ns)) np
    have hA1 := s1.seq hA
    refine ⟨_, rfl, _, rfl, a, _, _, _, rfl, rfl, hA1, iv_at (nxt_get? hj), _, rfl, _, rfl, a, _, _, _, rfl, rfl, hA1, iv_at (nxt_get? hi), sz (by simp), fun t nt => ?_⟩
    have ntp : p ≠ t := fun e => by rw [e, upd_same] at nt; cases nt
    refine ⟨t, _, rfl, .of upd_same, rfl, _, _, rfl, _, rfl, _, rfl, p, _, _, i, rfl, rfl, by rw [upd_ne ntp]; exact upd_same, by rw [iv_len]; exact ixN_nat hi, ?_⟩
    refine ⟨_, _, rfl, _, rfl, _, rfl, p, _, _, j, rfl, rfl, upd_same, by rw [List.length_set, iv_len]; exact ixN_nat hj, rfl, ?_⟩
    refine ⟨_, rfl, q _ p (same_mut (same_mut (s1.trans (same_upd nt)) np) np) np ?_⟩
    rw [upd_same, set_iv, set_iv]
    rfl
end
end Sb
namespace Sb
open PySem PySem.Spec PyProof.Rows L2
theorem lk_one {v u : V} : List.lookup ("one" : Str) [(("one" : Str), v), (("other" : Str), u)] = some v := by simp [List.lookup]
theorem lk_other {v u : V} : List.lookup ("other" : Str) [(("one" : Str), v), (("other" : Str), u)] = some u := by
  have h : (("other" : Str) == ("one" : Str)) = false := by decide +kernel
  simp only [List.lookup, h]
  simp
theorem lk_rings {v : V} : List.lookup ("rings" : Str) [(("rings" : Str), v)] = some v := by simp [List.lookup]
theorem inV_ints (ns : List Int) (x : Int) : inV (.int x) (ns.map V.int) = decide (x ∈ ns) := by
  unfold inV
  rw [Bool.eq_iff_iff, List.any_eq_true, decide_eq_true_iff]
  constructor
  · rintro ⟨v, hv, e⟩
    obtain ⟨n, hn, rfl⟩ := List.mem_map.mp hv
    have : n = x := by
      have e' : eqV (V.int n) (V.int x) = true := e
      simpa [eqV] using e'
    subst this; exact hn
  · intro h
    refine ⟨_, List.mem_map.mpr ⟨x, h, rfl⟩, ?_⟩
    simp [eqV]
theorem bts2 {c : Int} (h1 : -(2 ^ 64) < c) (h2 : c < 2 ^ 64) : Builtin.Int.intBits c ≤ 64 := PySem.intBits_le_64 h1 h2
theorem flat_ints (ns : List Int) : (ns.map V.int).all flatV = true := by
  rw [List.all_eq_true]
  intro v hv
  obtain ⟨n, _, rfl⟩ := List.mem_map.mp hv
  rfl
/-- rows of whole numbers that are read, at ps -/
structure SeesI (K : PySem.W.Frag) (H : Hp) (l : Addr) (ps : List Addr) (rs : List (List Int)) : Prop where
  at_ : SqL K H l (ps.map V.ref)
  len : ps.length = rs.length
  row : ∀ (i : Nat) (q : Addr) (r : List Int), ps[i]? = some q → rs[i]? = some r → SqL K H q (r.map V.int)
theorem SeesI.same {K : PySem.W.Frag} {H H' : Hp} {l : Addr} {ps : List Addr} {rs : List (List Int)} (S : SeesI K H l ps rs) (s : Same H H') : SeesI K H' l ps rs :=
  ⟨s.seq S.at_, S.len, fun i q r a b => s.seq (S.row i q r a b)⟩
theorem SeesI.get {K : PySem.W.Frag} {H : Hp} {l : Addr} {ps : List Addr} {rs : List (List Int)} (S : SeesI K H l ps rs) {i : Nat} {r : List Int} (h : rs[i]? = some r) : ∃ q, atI (ps.map V.ref) (i : Int) = some (.ref q) ∧ SqL K H q (r.map V.int) := by
  have hi : i < ps.length := by rw [S.len]; exact (List.getElem?_eq_some_iff.mp h).1
  refine ⟨ps[i], atI_nat ?_, S.row i _ r (List.getElem?_eq_getElem hi) h⟩
  rw [List.getElem?_map, List.getElem?_eq_getElem hi]; rfl
theorem Rows.seesI {K : PySem.W.Frag} {H H' : Hp} {p : Addr} {ps : List Addr} {rs : List (List Nat)} (R : Rows H H' ps rs) (hp : H' p = some (.lst (ps.map V.ref))) : SeesI K H' p ps (rs.map castN) := by
  refine ⟨.of hp, by rw [List.length_map]; exact R.len, fun i q r h1 h2 => ?_⟩
  rw [List.getElem?_map] at h2
  obtain ⟨r0, h0, rfl⟩ := Option.map_eq_some_iff.mp h2
  have := R.row i q r0 h1 h0
  rw [iv_eq] at this
  exact .of this
section
variable {P : Program} {w : World} {K : PySem.W.Frag} {mg : Str → Option Value} {base : Heap}
/-- list(..) in a comprehension's block: the written part told -/
def rListK (K : PySem.W.Frag) : List V → Hp → VK → Prop := fun xs H Q => ∃ p ys, xs = [V.ref p] ∧ (SqL K H p ys ∨ SqT K H p ys) ∧ ∀ l : Addr, H l = none → Q (V.ref l) (upd H l (HO.lst ys))
theorem call_list_ofK {X : Cx} {K : PySem.W.Frag} (h : X.K = K) : CallR X (.type "list") (rListK K) := by subst h; exact call_list_of
/-! ### Mend -/
def spMendI (C : Addr) : Sp := fun vs H Q _ => ∃ (x dx : Addr) (u v : V), vs = [.ref x, u, v] ∧ H x = some (.ins C dx []) ∧ ∀ H', H' x = some (.ins C dx [("one", u), ("other", v)]) → (∀ b, b ≠ x → H' b = H b) → Q .non H'
abbrev n_Mend___init__ : List Str := ["self", "one", "other"]
theorem sc_Mend___init__ : FnScope n_Mend___init__ ["self", "one", "other"] (defScope s_Mend___init__) := ⟨rfl, rfl, rfl, by decide +kernel, rfl, by decide +kernel, by decide +kernel⟩
theorem ok_Mend_init (T : Tx K mg) : FnOk P w K mg base CX0 1 T.Mend_init.f T.Mend_init.fd ["self", "one", "other"] (spMendI T.Mend.C) := by
  refine T.Mend_init.F.ok sc_Mend___init__ (fun vs H Q E h => ?_) (fun cdv A outer s H vs Q E hr h => ?_)
  · obtain ⟨x, dx, u, v, rfl, _⟩ := h
    rfl
  · obtain ⟨x, dx, u, v, rfl, hx, q⟩ := h
    refine ⟨_, (pss_cons (ps_fld (pv 0) (pv 1) rfl)
    (pss_one (ps_fld (pv 0) (pv 2) rfl))), ?_⟩
    refine ⟨_, rfl, _, rfl, x, T.Mend.C, dx, [], rfl, hx, T.Mend.cl, T.n_Mend_one, by decide, ?_⟩
    refine ⟨_, rfl, _, rfl, x, T.Mend.C, dx, [("one", u)], rfl, upd_same, T.Mend.cl, T.n_Mend_other, by simp, ?_⟩
    refine q _ upd_same fun b hb => ?_
    rw [upd_ne hb, upd_ne hb]
def spMendS (C : Addr) (K : PySem.W.Frag) : Sp := fun vs H Q _ => ∃ (x a dx : Addr) (ns : List Nat) (i j : Int) (m : Nat), vs = [.ref x, .ref a, .int (m : Int)] ∧ H x = some (.ins C dx [("one", .int i), ("other", .int j)]) ∧ SqL K H a (iv ns) ∧ Good ns ∧ ns.length ≤ 100 ∧ Says H Q (MendD ns m i j)
abbrev n_Mend_shows : List Str := ["self", "boxes", "most"]
theorem sc_Mend_shows : FnScope n_Mend_shows ["self", "boxes", "most"] (defScope s_Mend_shows) := ⟨rfl, rfl, rfl, by decide +kernel, rfl, by decide +kernel, by decide +kernel⟩
theorem ok_Mend_shows (T : Tx K mg) : FnOk P w K mg base CX0 4 T.Mend_shows.f T.Mend_shows.fd ["self", "boxes", "most"] (spMendS T.Mend.C K) := by
  refine T.Mend_shows.F.ok sc_Mend_shows (fun vs H Q E h => ?_) (fun cdv A outer s H vs Q E hr h => ?_)
  · obtain ⟨x, a, dx, ns, i, j, m, rfl, _⟩ := h
    rfl
  · obtain ⟨x, a, dx, ns, i, j, m, rfl, hx, hA, g, hn, q⟩ := h
    refine ⟨_, (pss_cons (ps_if (PW.pt (pw_or (pt_not (pt_chain op_le op_lt pe_int (pe_fld (pv 0) rfl) (pe_callB call_len_seq (by rfl) T.m_len (by decide +kernel) (pa_cons (pv 1) pa_nil)))) (pw_or1 (pt_not (pt_chain op_le op_lt pe_int (pe_fld (pv 0) rfl) (pe_callB call_len_seq (by rfl) T.m_len (by decide +kernel) (pa_cons (pv 1) pa_nil)))))))
      (pss_one (ps_ret pe_bl))
      pss_nil)
    (pss_one (ps_ret (pe_cmpR (op_eqD hr.units) (pe_df T.long_rings (ok_long_rings T) (hr.mono (by decide)) (pa_cons (pe_df T.exchanged (ok_exchanged T) (hr.mono (by decide)) (pa_cons (pv 1) (pa_cons (pe_fld (pv 0) rfl) (pa_cons (pe_fld (pv 0) rfl) pa_nil)))) (pa_cons (pv 2) pa_nil))) (pe_lst pa_nil) (nomark _))))), ?_⟩
    have no : ¬ MendD ns m i j → Q (.bl false) H := fun z => q false H (.refl _) ⟨fun y => Bool.noConfusion y, fun y => absurd y z⟩
    refine ⟨_, rfl, x, T.Mend.C, dx, _, _, rfl, hx, T.Mend.cl, T.n_Mend_one, lk_one, 0, i, rfl, rfl, _, rfl, ite2 (fun e1 => ?_) (fun e1 => ⟨_, rfl, no fun z => e1 (decide_eq_true z.1.1)⟩)⟩
    refine ⟨_, rfl, a, _, rfl, .inl hA, i, _, rfl, rfl, _, rfl, ?_⟩
    rw [iv_len]
    by_cases e2 : i < (ns.length : Int)
    case neg => rw [decide_eq_false e2]; exact iteT (no fun z => e2 z.1.2)
    rw [decide_eq_true e2]
    refine iteF ?_
    refine ⟨_, rfl, x, T.Mend.C, dx, _, _, rfl, hx, T.Mend.cl, T.n_Mend_other, lk_other, 0, j, rfl, rfl, _, rfl, ite2 (fun e3 => ?_) (fun e3 => ⟨_, rfl, no fun z => e3 (decide_eq_true z.2.1.1)⟩)⟩
    refine ⟨_, rfl, a, _, rfl, .inl hA, j, _, rfl, rfl, _, rfl, ?_⟩
    rw [iv_len]
    by_cases e4 : j < (ns.length : Int)
    case neg => rw [decide_eq_false e4]; exact iteT (no fun z => e4 z.2.1.2)
    rw [decide_eq_true e4]
    refine iteF ?_
    have h1 : 0 ≤ i := of_decide_eq_true e1
    have h3 : 0 ≤ j := of_decide_eq_true e3
    have ei : i = ((i.toNat : Nat) : Int) := by omega
    have ej : j = ((j.toNat : Nat) : Int) := by omega
    have hil : i.toNat < ns.length := by omega
    have hjl : j.toNat < ns.length := by omega
    refine ⟨_, rfl, _, rfl, x, T.Mend.C, dx, _, _, rfl, hx, T.Mend.cl, T.n_Mend_one, lk_one, _, rfl, x, T.Mend.C, dx, _, _, rfl, hx, T.Mend.cl, T.n_Mend_other, lk_other, a, ns, i.toNat, j.toNat, by rw [← ei, ← ej]; rfl, hA, hil, hjl, fun H1 p s1 np ep => ?_⟩
    refine ⟨_, rfl, p, exch ns i.toNat j.toNat, m, rfl, .of ep, exch_good g hil hjl, by rw [exch_len]; exact hn, fun H2 p2 ps s2 np2 ep2 R hp => ?_⟩
    refine ⟨Nat.zero_le _, fun z nz => ?_⟩
    have s3 := same_upd (o := .lst []) nz
    refine eq_rows (x := longOf (exch ns i.toNat j.toNat) m) (y := []) ((R.sees ep2).same s3) ⟨[], .of upd_same, rfl, fun i q r h _ => by simp at h⟩ (q _ _ ((s1.trans s2).trans s3) ?_)
    rw [decide_eq_true_iff, longOf_nil (exch_good g hil hjl)]
    exact ⟨fun z => ⟨⟨h1, e2⟩, ⟨h3, e4⟩, z⟩, fun z => z.2.2⟩
/-! ### Barred -/
/-- new rows of whole numbers at ps -/
structure RowsI (H H' : Hp) (ps : List Addr) (rs : List (List Int)) : Prop where
  len : ps.length = rs.length
  row : ∀ (i : Nat) (q : Addr) (r : List Int), ps[i]? = some q → rs[i]? = some r → H' q = some (.lst (r.map V.int))
  new : ∀ q ∈ ps, H q = none
  nd : ps.Nodup
theorem RowsI.nil {H H' : Hp} : RowsI H H' [] [] := ⟨rfl, fun i q r h _ => by simp at h, fun q h => by simp at h, List.nodup_nil⟩
theorem RowsI.at {H H' : Hp} {ps : List Addr} {rs : List (List Int)} (R : RowsI H H' ps rs) {q : Addr} (h : q ∈ ps) : ∃ r, r ∈ rs ∧ H' q = some (.lst (r.map V.int)) := by
  obtain ⟨i, hi, e⟩ := List.mem_iff_getElem.mp h
  have hr : i < rs.length := by rw [← R.len]; exact hi
  exact ⟨rs[i], List.getElem_mem hr, R.row i q _ (by rw [List.getElem?_eq_getElem hi, e]) (List.getElem?_eq_getElem hr)⟩
theorem RowsI.moved {H H' H'' : Hp} {ps : List Addr} {rs : List (List Int)} (R : RowsI H H' ps rs) (k : ∀ q ∈ ps, H'' q = H' q) : RowsI H H'' ps rs :=
  ⟨R.len, fun i q r h1 h2 => by rw [k q (List.mem_of_getElem? h1)]; exact R.row i q r h1 h2, R.new, R.nd⟩
theorem RowsI.same {H H' H'' : Hp} {ps : List Addr} {rs : List (List Int)} (R : RowsI H H' ps rs) (s : Same H' H'') : RowsI H H'' ps rs :=
  ⟨R.len, fun i q r h1 h2 => s _ _ (R.row i q r h1 h2), R.new, R.nd⟩
theorem RowsI.snoc {H H' : Hp} {ps : List Addr} {rs : List (List Int)} {p : Addr} {r : List Int} (R : RowsI H H' ps rs) (hp : H' p = some (.lst (r.map V.int))) (hn : H p = none) (hd : p ∉ ps) : RowsI H H' (ps ++ [p]) (rs ++ [r]) where
  len := by rw [List.length_append, List.length_append, R.len]; rfl
  row := fun i q r' h1 h2 => by
    by_cases hi : i < ps.length
    · rw [List.getElem?_append_left hi] at h1
      rw [List.getElem?_append_left (by rw [← R.len]; exact hi)] at h2
      exact R.row i q r' h1 h2
    · rw [List.getElem?_append_right (by omega)] at h1
      rw [List.getElem?_append_right (by rw [← R.len]; omega)] at h2
      have e : i - ps.length = 0 := by
        obtain ⟨h, _⟩ := List.getElem?_eq_some_iff.mp h1
        simpa using h
      rw [← R.len, e] at h2
      rw [e] at h1
      cases h1
      cases h2
      exact hp
  new := fun q hq => by
    rcases List.mem_append.mp hq with z | z
    · exact R.new q z
    · simp at z; subst z; exact hn
  nd := by
    rw [List.nodup_append]
    refine ⟨R.nd, by simp, fun a ha b hb => ?_⟩
    simp at hb
    subst hb
    intro e; subst e; exact hd ha
theorem RowsI.seesI {H H' : Hp} {l : Addr} {ps : List Addr} {rs : List (List Int)} (R : RowsI H H' ps rs) (hl : H' l = some (.lst (ps.map V.ref))) : SeesI K H' l ps rs :=
  ⟨.of hl, R.len, fun i q r h1 h2 => .of (R.row i q r h1 h2)⟩
def spBarI (C : Addr) (K : PySem.W.Frag) : Sp := fun vs H Q _ => ∃ (x dx l0 : Addr) (ps0 : List Addr) (rs : List (List Int)), vs = [.ref x, .ref l0] ∧ H x = some (.ins C dx []) ∧ SeesI K H l0 ps0 rs ∧ rs.length ≤ 1000 ∧
  ∀ H' l ps, H' x = some (.ins C dx [("rings", .ref l)]) → (∀ b u, b ≠ x → H b = some u → H' b = some u) → H l = none → H' l = some (.lst (ps.map V.ref)) → RowsI H H' ps rs → l ∉ ps → Q .non H'
abbrev n_Barred___init__ : List Str := ["self", "rings", "ring"]
theorem sc_Barred___init__ : FnScope n_Barred___init__ ["self", "rings"] (defScope s_Barred___init__) := ⟨rfl, rfl, rfl, by decide +kernel, rfl, by decide +kernel, by decide +kernel⟩
theorem ok_Barred_init (T : Tx K mg) : FnOk P w K mg base CX0 1 T.Barred_init.f T.Barred_init.fd ["self", "rings"] (spBarI T.Barred.C K) := by
  refine T.Barred_init.F.ok sc_Barred___init__ (fun vs H Q E h => ?_) (fun cdv A outer s H vs Q E hr h => ?_)
  · obtain ⟨x, dx, l0, ps0, rs, rfl, _⟩ := h
    rfl
  · obtain ⟨x, dx, l0, ps0, rs, rfl, hx, S, hn, q⟩ := h
    refine ⟨_, (pss_one (ps_fld (pv 0) (pe_lc (own := [("ring", 2)]) (g := gName 2) rfl sc_Barred___init__.nd (pi_list (pv 1)) (blkOk_by (own := [("ring", 2)]) (N := n_Barred___init__) (sc := defScope s_Barred___init__) (by decide +kernel)) (fun _ _ _ _ _ => (pg_name (i := 2) sc_Barred___init__.nd rfl (.inl rfl))) (fun _ _ _ _ _ => pts_nil) (fun _ _ _ _ _ => (pe_callTy (call_list_ofK (K := K) rfl) (by rfl) T.m_list (by decide +kernel) (pa_cons (pv 2) pa_nil)))) rfl)), ?_⟩
    refine ⟨_, rfl, l0, rfl, ⟨_, S.at_⟩, fun D nD => ?_⟩
    refine lc_list (K := K) (a := l0) (xs := ps0.map V.ref) (fun i H3 => ∃ ps, Same H H3 ∧ H3 D = some (.lst (ps.map V.ref)) ∧ RowsI H H3 ps (rs.take i) ∧ D ∉ ps) ⟨[], same_upd nD, upd_same, RowsI.nil, by simp⟩ (fun i H3 _ h => ?_) (fun i v H3 hv h => ?_) (fun H3 h => ?_)
    · obtain ⟨ps, sm, _⟩ := h
      exact sm.seq S.at_
    · obtain ⟨ps, sm, eD, R, hD⟩ := h
      rw [List.getElem?_map] at hv
      obtain ⟨q0, hq0, rfl⟩ := Option.map_eq_some_iff.mp hv
      have hi : i < rs.length := by rw [← S.len]; exact (List.getElem?_eq_some_iff.mp hq0).1
      have hr := S.row i q0 _ hq0 (List.getElem?_eq_getElem hi)
      refine ⟨rfl, _, rfl, q0, _, rfl, .inl (sm.seq hr), fun p np => ?_⟩
      have s2 := same_upd (o := .lst ((rs[i]).map V.int)) np
      have npp : p ∉ ps := fun h => by
        obtain ⟨r, _, e⟩ := R.at h
        rw [np] at e
        cases e
      have npD : p ≠ D := fun e => by rw [e, eD] at np; cases np
      refine ⟨_, s2 _ _ eD, ?_, ps ++ [p], same_mut (sm.trans s2) nD, ?_, ?_, ?_⟩
      · rw [List.length_map, R.len, List.length_take]
        exact szl (by omega)
      · rw [upd_same, List.map_append]; rfl
      · rw [List.take_add_one, List.getElem?_eq_getElem hi]
        have R2 := (R.same s2).snoc (p := p) (r := rs[i]) upd_same (sm.free np) npp
        exact R2.moved fun q hq => upd_ne fun e => by
          subst e
          rcases List.mem_append.mp hq with y | y
          · exact hD y
          · simp at y; exact npD y.symm
      · intro h
        rcases List.mem_append.mp h with y | y
        · exact hD y
        · simp at y; exact npD y.symm
    · obtain ⟨ps, sm, eD, R, hD⟩ := h
      have nxD : x ≠ D := ne_of_none hx nD
      rw [List.length_map, S.len, List.take_length] at R
      refine ⟨_, rfl, x, T.Barred.C, dx, [], rfl, sm _ _ hx, T.Barred.cl, T.n_Barred_rings, by decide, ?_⟩
      refine q _ D ps upd_same (fun b u hb hu => ?_) nD ?_ ?_ hD
      · rw [upd_ne hb]; exact sm _ _ hu
      · rw [upd_ne nxD.symm]; exact eD
      · exact R.moved fun y hy => upd_ne fun e => by
          rw [e] at hy
          rw [R.new x hy] at hx
          cases hx
def spBarS (C : Addr) (K : PySem.W.Frag) : Sp := fun vs H Q _ => ∃ (x a dx l : Addr) (ps : List Addr) (ns : List Nat) (rs : List (List Int)) (m : Nat), vs = [.ref x, .ref a, .int (m : Int)] ∧ H x = some (.ins C dx [("rings", .ref l)]) ∧ SeesI K H l ps rs ∧ SqL K H a (iv ns) ∧ Good ns ∧ ns.length ≤ 100 ∧ rs.length ≤ 1000 ∧ (∀ r ∈ rs, r.length ≤ 4000) ∧ Says H Q (BarD ns m rs)
abbrev n_Barred_shows : List Str := ["self", "boxes", "most", "ring"]
theorem sc_Barred_shows : FnScope n_Barred_shows ["self", "boxes", "most"] (defScope s_Barred_shows) := ⟨rfl, rfl, rfl, by decide +kernel, rfl, by decide +kernel, by decide +kernel⟩
theorem ok_Barred_shows (T : Tx K mg) : FnOk P w K mg base CX0 3 T.Barred_shows.f T.Barred_shows.fd ["self", "boxes", "most"] (spBarS T.Barred.C K) := by
  refine T.Barred_shows.F.ok sc_Barred_shows (fun vs H Q E h => ?_) (fun cdv A outer s H vs Q E hr h => ?_)
  · obtain ⟨x, a, dx, l, ps, ns, rs, m, rfl, _⟩ := h
    rfl
  · obtain ⟨x, a, dx, l, ps, ns, rs, m, rfl, hx, S, hA, g, hn, hrs, hr4, q⟩ := h
    refine ⟨_, (pss_cons (ps_if (pt_not (pt_val (pe_callB (cr_all rfl) (by rfl) T.m_all (by decide +kernel) (pa_cons (pe_lc (own := [("ring", 3)]) (g := gName 3) rfl sc_Barred_shows.nd (pi_list (pe_fld (pv 0) rfl)) (blkOk_by (own := [("ring", 3)]) (N := n_Barred_shows) (sc := defScope s_Barred_shows) (by decide +kernel)) (fun _ _ _ _ _ => (pg_name (i := 3) sc_Barred_shows.nd rfl (.inl rfl))) (fun _ _ _ _ _ => pts_nil) (fun _ _ _ _ _ => (pe_df T.is_ring (ok_is_ring T) (hr.mono (by decide)) (pa_cons (pv 1) (pa_cons (pv 3) pa_nil))))) pa_nil))))
      (pss_one (ps_ret pe_bl))
      pss_nil)
    (pss_cons (ps_if (pt_cmpR op_eq (pe_callB call_len_seq (by rfl) T.m_len (by decide +kernel) (pa_cons (pe_fld (pv 0) rfl) pa_nil)) pe_int (nomark _))
      (pss_one (ps_ret (pe_cmpR op_gt (pe_callB call_len_seq (by rfl) T.m_len (by decide +kernel) (pa_cons (pe_ix ix_list (pe_fld (pv 0) rfl) pe_int (fun _ _ => rfl)) pa_nil)) (pe_op op_mulX pe_int (pv 2)) (nomark _))))
      pss_nil)
    (pss_cons (ps_if (PW.pt (pw_or (pt_cmpR op_ne (pe_callB call_len_seq (by rfl) T.m_len (by decide +kernel) (pa_cons (pe_fld (pv 0) rfl) pa_nil)) pe_int (nomark _)) (pw_or1 (pt_cmpR op_in_seq (pe_ix ix_list (pe_ix ix_list (pe_fld (pv 0) rfl) pe_int (fun _ _ => rfl)) pe_int (fun _ _ => rfl)) (pe_ix ix_list (pe_fld (pv 0) rfl) pe_int (fun _ _ => rfl)) (by rfl)))))
      (pss_one (ps_ret pe_bl))
      pss_nil)
    (pss_one (ps_ret (pe_and (pe_cmpR op_gt (pe_callB call_len_seq (by rfl) T.m_len (by decide +kernel) (pa_cons (pe_ix ix_list (pe_fld (pv 0) rfl) pe_int (fun _ _ => rfl)) pa_nil)) (pv 2) (nomark _)) (pe_one (pe_cmpR op_gt (pe_callB call_len_seq (by rfl) T.m_len (by decide +kernel) (pa_cons (pe_ix ix_list (pe_fld (pv 0) rfl) pe_int (fun _ _ => rfl)) pa_nil)) (pv 2) (nomark _))))))))), ?_⟩
    refine ⟨_, rfl, x, T.Barred.C, dx, _, _, rfl, hx, T.Barred.cl, T.n_Barred_rings, lk_rings, l, rfl, ⟨_, S.at_⟩, fun D nD => ?_⟩
    refine lc_list (K := K) (a := l) (xs := ps.map V.ref) (fun i H3 => Same H H3 ∧ ∃ bs : List Bool, H3 D = some (.lst (bs.map V.bl)) ∧ bs.length = i ∧ (bs.all id = true ↔ ∀ r ∈ rs.take i, RingI ns r)) ⟨same_upd nD, [], upd_same, rfl, by simp⟩ (fun i H3 _ h => h.1.seq S.at_) (fun i v H3 hv h => ?_) (fun H3 h => ?_)
    · obtain ⟨sm, bs, eD, hbl, hb⟩ := h
      rw [List.getElem?_map] at hv
      obtain ⟨q0, hq0, rfl⟩ := Option.map_eq_some_iff.mp hv
      have hi : i < rs.length := by rw [← S.len]; exact (List.getElem?_eq_some_iff.mp hq0).1
      have hr := S.row i q0 _ hq0 (List.getElem?_eq_getElem hi)
      refine ⟨rfl, _, rfl, _, rfl, a, q0, ns, rs[i], rfl, sm.seq hA, sm.seq hr, hn, hr4 _ (List.getElem_mem hi), fun b H4 s4 hb4 => ?_⟩
      refine ⟨_, s4 _ _ eD, by rw [List.length_map, hbl]; exact szl (by omega), same_mut (sm.trans s4) nD, bs ++ [b], ?_, ?_, ?_⟩
      · rw [upd_same, List.map_append]; rfl
      · rw [List.length_append, hbl]; rfl
      · rw [List.take_add_one, List.getElem?_eq_getElem hi, List.all_append, Bool.and_eq_true, hb]
        simp only [Option.toList_some, List.mem_append, List.mem_singleton, List.all_cons, List.all_nil, Bool.and_true, id_eq, hb4]
        constructor
        · rintro ⟨h1, h2⟩ r (hr | rfl)
          · exact h1 r hr
          · exact h2
        · intro h
          exact ⟨fun r hr => h r (.inl hr), h _ (.inr rfl)⟩
    obtain ⟨sm, bs, eD, hbl, hb⟩ := h
    rw [List.length_map, S.len] at hbl hb
    rw [List.take_length] at hb
    have no : ¬ BarD ns m rs → Q (.bl false) H3 := fun z => q false H3 sm ⟨fun y => Bool.noConfusion y, fun y => absurd y z⟩
    refine ⟨D, bs, rfl, .of eD, _, rfl, ?_⟩
    generalize bs.all id = ball at hb
    cases ball with
    | false => exact iteT (no fun z => Bool.noConfusion (hb.mpr z.1))
    | true =>
      refine iteF ?_
      have hR := hb.mp rfl
      have hx3 := sm _ _ hx
      have S3 := S.same sm
      have hl3 := S3.at_
      refine ⟨_, rfl, x, T.Barred.C, dx, _, _, rfl, hx3, T.Barred.cl, T.n_Barred_rings, lk_rings, l, _, rfl, .inl hl3, rfl, _, rfl, ?_⟩
      rw [List.length_map, S.len, dec_int]
      by_cases h1 : rs.length = 1
      · obtain ⟨r0, e0⟩ := List.length_eq_one_iff.mp h1
        subst e0
        obtain ⟨q0, at0, hq0⟩ := S3.get (i := 0) (r := r0) rfl
        rw [decide_eq_true (by omega)]
        refine iteT ?_
        refine ⟨_, rfl, x, T.Barred.C, dx, _, _, rfl, hx3, T.Barred.cl, T.n_Barred_rings, lk_rings, l, _, 0, _, rfl, rfl, hl3, at0, q0, _, rfl, .inl hq0, _, rfl, 2, m, rfl, rfl, .of_left (bts2 (by decide) (by decide)), _, _, rfl, rfl, q _ _ sm ?_⟩
        rw [decide_eq_true_iff, List.length_map]
        constructor
        · intro h; exact ⟨hR, .inl ⟨r0, rfl, by omega⟩⟩
        · rintro ⟨_, ⟨a', e, h⟩ | ⟨a', b', e, _⟩⟩
          · cases e; omega
          · cases e
      rw [decide_eq_false (by omega)]
      refine iteF ?_
      refine ⟨_, rfl, x, T.Barred.C, dx, _, _, rfl, hx3, T.Barred.cl, T.n_Barred_rings, lk_rings, l, _, rfl, .inl hl3, rfl, _, rfl, ?_⟩
      rw [List.length_map, S.len, dec_int]
      by_cases h2 : rs.length = 2
      case neg =>
        rw [decide_eq_false (by omega)]
        refine iteT (no ?_)
        rintro ⟨_, ⟨a', e, h⟩ | ⟨a', b', e, _⟩⟩
        · subst e; exact h1 rfl
        · subst e; exact h2 rfl
      obtain ⟨ra, rb, e0⟩ : ∃ a b, rs = [a, b] := by
        match rs, h2 with
        | [a, b], _ => exact ⟨a, b, rfl⟩
      subst e0
      obtain ⟨q0, at0, hq0⟩ := S3.get (i := 0) (r := ra) rfl
      obtain ⟨q1, at1, hq1⟩ := S3.get (i := 1) (r := rb) rfl
      have Ra := hR ra (by simp)
      have Rb := hR rb (by simp)
      have hpos := ringI_pos Ra
      obtain ⟨x0, hx0⟩ : ∃ x, ra[0]? = some x := ⟨ra[0], List.getElem?_eq_getElem hpos⟩
      rw [decide_eq_true (by show (((2 : Nat) : Int)) = 2; rfl)]
      refine iteF ?_
      refine ⟨_, rfl, x, T.Barred.C, dx, _, _, rfl, hx3, T.Barred.cl, T.n_Barred_rings, lk_rings, l, _, 0, _, rfl, rfl, hl3, at0, q0, _, 0, _, rfl, rfl, hq0, atI_nat (j := 0) (ints_at hx0), ?_⟩
      refine ⟨_, rfl, x, T.Barred.C, dx, _, _, rfl, hx3, T.Barred.cl, T.n_Barred_rings, lk_rings, l, _, 1, _, rfl, rfl, hl3, at1, q1, _, rfl, .inl hq1, rfl, flat_ints _, _, rfl, ?_⟩
      rw [inV_ints]
      have hap := ringI_apart g Ra Rb hx0
      have two : BarD ns m [ra, rb] ↔ (∀ x ∈ ra, x ∉ rb) ∧ m < ra.length ∧ m < rb.length := by
        constructor
        · rintro ⟨_, ⟨a', e, h⟩ | ⟨a', b', e, h⟩⟩
          · cases e
          · cases e; exact h
        · intro h
          exact ⟨hR, .inr ⟨_, _, rfl, h⟩⟩
      by_cases hin : x0 ∈ rb
      · rw [decide_eq_true hin]
        exact iteT (no fun z => hap.mpr (two.mp z).1 hin)
      rw [decide_eq_false hin]
      refine iteF ?_
      refine ⟨_, rfl, x, T.Barred.C, dx, _, _, rfl, hx3, T.Barred.cl, T.n_Barred_rings, lk_rings, l, _, 0, _, rfl, rfl, hl3, at0, q0, _, rfl, .inl hq0, _, rfl, _, _, rfl, rfl, _, rfl, ite2 (fun e => ?_) (fun e => ?_)⟩
      · have hla : (m : Int) < (((ra.map V.int).length : Nat) : Int) := of_decide_eq_true e
        rw [List.length_map] at hla
        refine ⟨_, rfl, x, T.Barred.C, dx, _, _, rfl, hx3, T.Barred.cl, T.n_Barred_rings, lk_rings, l, _, 1, _, rfl, rfl, hl3, at1, q1, _, rfl, .inl hq1, _, rfl, _, _, rfl, rfl, q _ _ sm ?_⟩
        rw [decide_eq_true_iff, List.length_map, two]
        constructor
        · intro h; exact ⟨hap.mp hin, by omega, by omega⟩
        · rintro ⟨_, _, h⟩; omega
      · refine no fun z => e (decide_eq_true ?_)
        have := (two.mp z).2.1
        rw [List.length_map]
        show (m : Int) < _
        omega
end
end Sb
namespace Sb
open PySem PySem.Spec PyProof.Rows L2
abbrev bts (c : Int) : Nat := Builtin.Int.intBits c
theorem bts_small {c : Int} (h1 : -(2 ^ 64) < c) (h2 : c < 2 ^ 64) : bts c ≤ 64 := PySem.intBits_le_64 h1 h2
/-- the script's numbers -/
def Cells (cs : List Int) : Prop := ∀ z ∈ cs, bts z ≤ 1048576
section
variable {P : Program} {w : World} {K : PySem.W.Frag} {mg : Str → Option Value} {base : Heap}
/-! ### _law_cell_at -/
def spCellAt (K : PySem.W.Frag) : Sp := fun vs H Q _ => ∃ (a : Addr) (cs : List Int) (k : Nat), vs = [.ref a, .int (k : Int)] ∧ SqL K H a (cs.map V.int) ∧ Cells cs ∧ ∀ c, bts c ≤ 1048576 → Q (.int c) H
abbrev n_law_cell_at : List Str := ["_law_script", "_law_k"]
theorem sc_law_cell_at : FnScope n_law_cell_at ["_law_script", "_law_k"] (defScope s_law_cell_at) := ⟨rfl, rfl, rfl, by decide +kernel, rfl, by decide +kernel, by decide +kernel⟩
theorem ok_law_cell_at (T : Tx K mg) : FnOk P w K mg base CX0 1 T.law_cell_at.f T.law_cell_at.fd ["_law_script", "_law_k"] (spCellAt K) := by
  refine T.law_cell_at.F.ok sc_law_cell_at (fun vs H Q E h => ?_) (fun cdv A outer s H vs Q E hr h => ?_)
  · obtain ⟨a, cs, k, rfl, _⟩ := h
    rfl
  · obtain ⟨a, cs, k, rfl, hS, hc, q⟩ := h
    refine ⟨_, (pss_cons (ps_if (pt_cmpR op_lt (pv 1) (pe_callB call_len_seq (by rfl) T.m_len (by decide +kernel) (pa_cons (pv 0) pa_nil)) (nomark _))
      (pss_one (ps_ret (pe_ix ix_list (pv 0) (pv 1) (fun _ _ => rfl))))
      pss_nil)
    (pss_one (ps_ret pe_int))), ?_⟩
    refine ⟨_, rfl, .ref a, rfl, a, _, rfl, .inl hS, _, _, rfl, rfl, _, rfl, ite2 (fun e => ?_) (fun e => ?_)⟩
    · have hk : k < cs.length := by
        have := of_decide_eq_true e
        rw [List.length_map] at this
        omega
      refine ⟨.ref a, rfl, _, rfl, a, _, _, .int cs[k], rfl, rfl, hS, atI_nat ?_, q _ (hc _ (List.getElem_mem hk))⟩
      rw [List.getElem?_map, List.getElem?_eq_getElem hk]; rfl
    · exact q 0 (by decide)
/-! ### _law_draw -/
def prs : List Int := [1000003, 1000033, 1000037, 1000039, 1000081, 1000099, 1000117, 1000121, 1000133, 1000151, 1000159, 1000171, 1000183, 1000187, 1000193, 1000199]
def spDraw : Sp := fun vs H Q _ => ∃ (c m : Int) (k : Nat), vs = [.int c, .int (k : Int), .int m] ∧ k ≤ 1000000 ∧ 0 < m ∧ ∀ H' d, Same H H' → 0 ≤ d → d < m → Q (.int d) H'
abbrev n_law_draw : List Str := ["_law_cell", "_law_k", "_law_many", "_law_primes"]
theorem sc_law_draw : FnScope n_law_draw ["_law_cell", "_law_k", "_law_many"] (defScope s_law_draw) := ⟨rfl, rfl, rfl, by decide +kernel, rfl, by decide +kernel, by decide +kernel⟩
theorem ok_law_draw (T : Tx K mg) : FnOk P w K mg base CX0 1 T.law_draw.f T.law_draw.fd ["_law_cell", "_law_k", "_law_many"] spDraw := by
  refine T.law_draw.F.ok sc_law_draw (fun vs H Q E h => ?_) (fun cdv A outer s H vs Q E hr h => ?_)
  · obtain ⟨c, m, k, rfl, _⟩ := h
    rfl
  · obtain ⟨c, m, k, rfl, hk, hm, q⟩ := h
    refine ⟨_, (pss_cons (ps_set (i := 3) sc_law_draw.nd rfl (.inl rfl) (pe_tup (pa_cons pe_int (pa_cons pe_int (pa_cons pe_int (pa_cons pe_int (pa_cons pe_int (pa_cons pe_int (pa_cons pe_int (pa_cons pe_int (pa_cons pe_int (pa_cons pe_int (pa_cons pe_int (pa_cons pe_int (pa_cons pe_int (pa_cons pe_int (pa_cons pe_int (pa_cons pe_int pa_nil))))))))))))))))))
    (pss_one (ps_ret (pe_op op_mod (pe_op op_mod (pe_op op_add (pe_op op_mulX (pv 0) pe_int) (pe_op op_mulX (pv 1) pe_int)) (pe_ix ix_tup (pv 3) (pe_op op_mod (pv 1) pe_int) (fun _ _ => rfl))) (pv 2))))), ?_⟩
    refine ⟨sz (by decide), fun t nt => ?_⟩
    have hj : ((k : Int) % 16).toNat < prs.length := by
      show _ < 16
      omega
    have ej : ((((k : Int) % 16).toNat : Nat) : Int) = (k : Int) % 16 := by omega
    have ha : atI (prs.map V.int) ((k : Int) % 16) = some (.int prs[((k : Int) % 16).toNat]) := at_of ej.symm (by
      rw [List.getElem?_map, List.getElem?_eq_getElem hj]; rfl)
    have hp : 0 < prs[((k : Int) % 16).toNat] := by
      have all : ∀ p ∈ prs, (0 : Int) < p := by decide
      exact all _ (List.getElem_mem hj)
    refine ⟨_, rfl, c, 48271, rfl, rfl, .of_right (bts_small (by decide) (by decide)), _, rfl, k, 69621, rfl, rfl, .of_right (bts_small (by decide) (by decide)), _, _, rfl, rfl, ?_⟩
    refine ⟨.ref t, rfl, _, rfl, k, 16, rfl, rfl, (by show (0 : Int) < 16; decide), t, prs.map V.int, _, _, rfl, rfl, .of upd_same, ha, ?_⟩
    refine ⟨_, _, rfl, rfl, hp, _, rfl, _, m, rfl, rfl, hm, ?_⟩
    exact q _ _ (same_upd nt) (Int.emod_nonneg _ (by omega)) (Int.emod_lt_of_pos _ hm)
/-! ### _law_value: some number from 0 on -/
def spValue : Sp := fun vs H Q _ => ∃ (c : Int) (t : Nat), vs = [.int c, .int (t : Int)] ∧ bts c ≤ 1048576 ∧ t ≤ 100000 ∧ ∀ H' v, Same H H' → 0 ≤ v → Q (.int v) H'
abbrev n_law_value : List Str := ["_law_cell", "_law_turn", "_law_mixed"]
theorem sc_law_value : FnScope n_law_value ["_law_cell", "_law_turn"] (defScope s_law_value) := ⟨rfl, rfl, rfl, by decide +kernel, rfl, by decide +kernel, by decide +kernel⟩
theorem ok_law_value (T : Tx K mg) : FnOk P w K mg base CX0 2 T.law_value.f T.law_value.fd ["_law_cell", "_law_turn"] spValue := by
  refine T.law_value.F.ok sc_law_value (fun vs H Q E h => ?_) (fun cdv A outer s H vs Q E hr h => ?_)
  · obtain ⟨c, t, rfl, _⟩ := h
    rfl
  · obtain ⟨c, t, rfl, hc, ht, q⟩ := h
    refine ⟨_, (pss_cons (ps_if (pt_cmpR op_ge (pv 0) (pe_op op_pow pe_int pe_int) (nomark _))
      (pss_one (ps_ret (pe_op op_shr (pe_op op_sub (pv 0) (pe_op op_pow pe_int pe_int)) (pe_op op_mulX pe_int (pv 1)))))
      pss_nil)
    (pss_cons (ps_set (i := 2) sc_law_value.nd rfl (.inl rfl) (pe_df T.law_draw (ok_law_draw T) (hr.mono (by decide)) (pa_cons (pe_op op_mulX (pe_op op_add (pv 0) (pe_op op_mulX pe_int (pv 1))) (pe_op op_add (pe_op op_add (pv 0) (pe_op op_mulX pe_int (pv 1))) pe_int)) (pa_cons (pe_op op_add (pe_op op_mod (pv 1) pe_int) pe_int) (pa_cons pe_int pa_nil)))))
    (pss_one (ps_ret (pe_op op_add (pe_op op_mulX (pv 2) pe_int) (pe_df T.law_draw (ok_law_draw T) (hr.mono (by decide)) (pa_cons (pe_op op_add (pe_op op_mulX (pe_op op_add (pv 0) (pe_op op_mulX pe_int (pv 1))) (pe_op op_add (pv 0) pe_int)) (pe_op op_mulX pe_int (pv 1))) (pa_cons (pe_op op_add (pe_op op_mod (pv 1) pe_int) pe_int) (pa_cons pe_int pa_nil))))))))), ?_⟩
    refine ⟨_, rfl, 10, 18, rfl, rfl, ⟨by decide, by decide, by decide⟩, c, _, rfl, rfl, _, rfl, ite2 (fun e => ?_) (fun e => ?_)⟩
    · have hc1 : (10 : Int) ^ (18 : Int).toNat ≤ c := of_decide_eq_true e
      refine ⟨_, rfl, 10, 18, rfl, rfl, ⟨by decide, by decide, by decide⟩, c, _, rfl, rfl, _, rfl, 3, t, rfl, rfl, .of_left (bts_small (by decide) (by decide)), _, _, rfl, rfl, by omega, ?_⟩
      refine q _ _ (Same.refl H) (Int.ediv_nonneg (by omega) ?_)
      exact Int.le_of_lt (Int.pow_pos (by decide))
    · have bt : ∀ x : Int, 0 ≤ x → x ≤ 100000000 → bts (c + x) ≤ 1048577 := fun x h1 h2 =>
        PySem.intBits_add_le (m := 1048576) (n := 64) hc (bts_small (by omega) (by omega))
      have t64 : IntMulOk (977 : Int) (t : Int) := .of_left (bts_small (by decide) (by decide))
      have t31 : IntMulOk (31 : Int) (t : Int) := .of_left (bts_small (by decide) (by decide))
      refine ⟨_, rfl, _, rfl, 977, t, rfl, rfl, t64, c, _, rfl, rfl, _, rfl, _, rfl, 31, t, rfl, rfl, t31, c, _, rfl, rfl, _, 5, rfl, rfl, _, _, rfl, rfl, ?_, ?_⟩
      · refine PySem.IntMulOk.of_le (m := 1048577) (n := 1048577) (bt _ (by omega) (by omega)) ?_ (by decide)
        rw [Int.add_assoc]
        exact bt _ (by omega) (by omega)
      refine ⟨_, rfl, t, 9, rfl, rfl, (by show (0 : Int) < 9; decide), _, 1, rfl, rfl, ?_⟩
      refine ⟨_, 999983, ((t : Int) % 9 + 1).toNat, by rw [Int.toNat_of_nonneg (by omega)]; rfl, by omega, by decide, fun H1 d s1 h0 h1 => ?_⟩
      refine ⟨_, rfl, d, 1000003, rfl, rfl, .of_right (bts_small (by decide) (by decide)), _, rfl, _, rfl, 31, t, rfl, rfl, t31, c, _, rfl, rfl, _, rfl, c, 7, rfl, rfl, _, _, rfl, rfl, ?_, ?_⟩
      · exact PySem.IntMulOk.of_le (m := 1048577) (n := 1048577) (bt _ (by omega) (by omega)) (bt _ (by omega) (by omega)) (by decide)
      refine ⟨_, rfl, 977, t, rfl, rfl, t64, _, _, rfl, rfl, _, rfl, t, 7, rfl, rfl, (by show (0 : Int) < 7; decide), _, 2, rfl, rfl, ?_⟩
      refine ⟨_, 1000003, ((t : Int) % 7 + 2).toNat, by rw [Int.toNat_of_nonneg (by omega)]; rfl, by omega, by decide, fun H2 d2 s2 h2 h3 => ?_⟩
      exact ⟨_, _, rfl, rfl, q _ _ (s1.trans s2) (by omega)⟩
end
end Sb
namespace Sb
open PySem PySem.Spec PyProof.Rows L2
/-- range(0, m, s), s from 1 on -/
theorem rgC_pos {m s : Nat} (h1 : 1 ≤ m) (hm : m ≤ 100000) (h2 : 1 ≤ s) (hs : s ≤ 100000) : RgC 0 (m : Int) (s : Int) ((m - 1) / s + 1) := by
  have e : Builtin.Range.rangeSize 0 (m : Int) (s : Int) = (((m - 1) / s + 1 : Nat) : Int) := by
    unfold Builtin.Range.rangeSize
    rw [if_pos (by omega), if_pos (by omega), show (m : Int) - 0 - 1 = ((m - 1 : Nat) : Int) by omega]
    push_cast
    rfl
  have hd : (m - 1) / s ≤ m - 1 := Nat.div_le_self _ _
  have hmul : (m - 1) / s * s ≤ m - 1 := Nat.div_mul_le_self _ _
  refine ⟨by omega, by omega, ?_, e⟩
  unfold Builtin.Range.small
  rw [e]
  rw [if_pos (show (s : Int) > 0 by omega)]
  have f : ∀ x : Int, -1000000 ≤ x → x ≤ 1000000 → Builtin.Range.rangeFitsLong x = true := fun x h1 h2 => by
    simp only [Builtin.Range.rangeFitsLong, Bool.and_eq_true, decide_eq_true_eq]
    omega
  have hc : (((m - 1) / s + 1 : Nat) : Int) ≤ 1000000 := by omega
  have hc0 : -1000000 ≤ (((m - 1) / s + 1 : Nat) : Int) := Int.le_trans (by decide) (Int.natCast_nonneg _)
  rw [f 0 (by omega) (by omega), f m (by omega) (by omega), f s (by omega) (by omega), f _ hc0 hc, f _ (by omega) (by omega), Bool.or_true]
  rfl
/-- a slice of numbers -/
theorem cut_iv (ns : List Nat) (b s : Nat) : cutV (iv ns) (some (b : Int)) (some ((b : Int) + (s : Int))) = iv ((ns.drop b).take s) := by
  unfold cutV
  rw [show (b : Int) + (s : Int) = ((b + s : Nat) : Int) by omega, HT.sIx_nat, HT.sIx_nat, iv_len]
  show List.take _ (List.drop _ (List.map _ ns)) = List.map _ _
  rw [← List.map_drop, ← List.map_take]
  congr 1
  by_cases hb : b ≤ ns.length
  · rw [Nat.min_eq_left hb]
    by_cases hs : b + s ≤ ns.length
    · rw [Nat.min_eq_left hs, show b + s - b = s by omega]
    · rw [Nat.min_eq_right (by omega), List.take_of_length_le (by rw [List.length_drop]; omega), List.take_of_length_le (by rw [List.length_drop]; omega)]
  · rw [Nat.min_eq_right (show ns.length ≤ b by omega), List.drop_of_length_le (Nat.le_refl _), List.drop_of_length_le (by omega)]
    simp
theorem cut_iv1 (ns : List Nat) : cutV (iv ns) (some 1) none = iv (ns.drop 1) := by
  unfold cutV
  rw [show HT.sIx (iv ns).length 0 (some 1) = min 1 (iv ns).length from HT.sIx_nat _ 0 1, HT.sIx_none, iv_len]
  show List.take _ (List.drop _ (List.map _ ns)) = List.map _ _
  rw [← List.map_drop, ← List.map_take]
  congr 1
  cases ns with
  | nil => rfl
  | cons x r =>
    rw [show min 1 (x :: r).length = 1 by rw [List.length_cons]; omega]
    rw [List.take_of_length_le]
    rw [List.length_drop]
    exact Nat.le_refl _
theorem cut_iv0 (ns : List Nat) (k : Nat) : cutV (iv ns) none (some (k : Int)) = iv (ns.take k) := by
  unfold cutV
  rw [HT.sIx_nat, HT.sIx_none, iv_len, List.drop_zero, Nat.sub_zero]
  show List.take _ (List.map _ ns) = List.map _ _
  rw [← List.map_take]
  congr 1
  by_cases h : k ≤ ns.length
  · rw [Nat.min_eq_left h]
  · rw [Nat.min_eq_right (by omega), List.take_of_length_le (Nat.le_refl _), List.take_of_length_le (by omega)]
theorem iv_append (a b : List Nat) : iv a ++ iv b = iv (a ++ b) := (List.map_append ..).symm
theorem iv_set (ns : List Nat) (i x : Nat) : (iv ns).set i (.int (x : Int)) = iv (ns.set i x) := (List.map_set ..).symm
theorem rep_iv (m : Nat) : (List.replicate (m : Int).toNat [V.int 0]).flatten = iv (List.replicate m 0) := by
  rw [Int.toNat_natCast]
  show _ = List.map _ _
  rw [List.map_replicate]
  induction m with
  | zero => rfl
  | succ m ih => rw [List.replicate_succ, List.replicate_succ, List.flatten_cons, ih]; rfl
theorem zip_get? {r q : List Nat} (i : Nat) {x y : Nat} (hx : r[i]? = some x) (hy : q[i]? = some y) : (r.zip q)[i]? = some (x, y) := by
  rw [List.getElem?_zip_eq_some]; exact ⟨hx, hy⟩
section
variable {P : Program} {w : World} {K : PySem.W.Frag} {mg : Str → Option Value} {base : Heap}
/-! ### _law_boxes: some boxes -/
def spBoxes (K : PySem.W.Frag) : Sp := fun vs H Q _ => ∃ (a : Addr) (cs : List Int) (b m : Nat), vs = [.ref a, .int (b : Int), .int (m : Int)] ∧ SqL K H a (cs.map V.int) ∧ Cells cs ∧ 1 ≤ m ∧ m ≤ 100 ∧
  ∀ (H' : Hp) (p : Addr) (ns : List Nat), Same H H' → H p = none → H' p = some (.lst (iv ns)) → Good ns → 1 ≤ ns.length → ns.length ≤ m → Q (.ref p) H'
abbrev n_law_boxes : List Str := ["_law_script", "_law_by", "_law_most", "_law_cell", "_law_many", "_law_kind", "_law_order", "_law_one", "_law_size", "_law_found", "_law_begin", "_law_ring_here", "_law_other"]
theorem sc_law_boxes : FnScope n_law_boxes ["_law_script", "_law_by", "_law_most"] (defScope s_law_boxes) := ⟨rfl, rfl, rfl, by decide +kernel, rfl, by decide +kernel, by decide +kernel⟩
theorem ok_law_boxes (T : Tx K mg) : FnOk P w K mg base CX0 3 T.law_boxes.f T.law_boxes.fd ["_law_script", "_law_by", "_law_most"] (spBoxes K) := by
  refine T.law_boxes.F.ok sc_law_boxes (fun vs H Q E h => ?_) (fun cdv A outer s H vs Q E hr h => ?_)
  · obtain ⟨a, cs, b, m, rfl, _⟩ := h
    rfl
  · obtain ⟨a, cs, b, mo, rfl, hS, hC, hm1, hm2, q⟩ := h
    refine ⟨_, (pss_cons (ps_set (i := 3) sc_law_boxes.nd rfl (.inl rfl) (pe_df T.law_cell_at (ok_law_cell_at T) (hr.mono (by decide)) (pa_cons (pv 0) (pa_cons (pv 1) pa_nil))))
    (pss_cons (ps_par (i := 4) (j := 5) (by rfl) sc_law_boxes.nd rfl rfl (by decide) rfl rfl (pa_cons (pe_op op_add pe_int (pe_op op_mod (pe_df T.law_value (ok_law_value T) (hr.mono (by decide)) (pa_cons (pv 3) (pa_cons pe_int pa_nil))) (pv 2))) (pa_cons (pe_op op_mod (pe_df T.law_value (ok_law_value T) (hr.mono (by decide)) (pa_cons (pv 3) (pa_cons pe_int pa_nil))) pe_int) pa_nil)) (by rfl))
    (pss_cons (ps_set (i := 6) sc_law_boxes.nd rfl (.inl rfl) (pe_lst pa_nil))
    (pss_cons (ps_for PassesOwn.never rfl (pi_range1 (by rfl) T.m_range (pa_cons (pv 4) pa_nil)) (pg_name (i := 7) sc_law_boxes.nd rfl (.inl rfl))
      (pss_one (ps_expr (pe_bm PySem.F.plainAttrs_list PySem.F.slot_list_insert PySem.F.type_list_insert mt_insert (pv 6) (pa_cons (pe_op op_mod (pe_op op_fdiv (pe_df T.law_value (ok_law_value T) (hr.mono (by decide)) (pa_cons (pe_df T.law_cell_at (ok_law_cell_at T) (hr.mono (by decide)) (pa_cons (pv 0) (pa_cons (pe_op op_add (pv 1) (pe_op op_mod (pv 7) pe_int)) pa_nil))) (pa_cons (pe_op op_add (pv 7) pe_int) pa_nil))) pe_int) (pe_op op_add (pv 7) pe_int)) (pa_cons (pv 7) pa_nil))))))
    (pss_cons (ps_if (pt_cmpR op_eq (pv 5) pe_int (nomark _))
      (pss_one (ps_ret (pv 6)))
      pss_nil)
    (pss_cons (ps_set (i := 8) sc_law_boxes.nd rfl (.inl rfl) (pe_ix ix_tup (pe_tup (pa_cons (pv 4) (pa_cons (pe_op op_add pe_int (pe_op op_fdiv (pv 4) pe_int)) (pa_cons (pe_op op_add pe_int (pe_op op_mod (pe_df T.law_value (ok_law_value T) (hr.mono (by decide)) (pa_cons (pv 3) (pa_cons pe_int pa_nil))) (pv 4))) pa_nil)))) (pe_op op_sub (pv 5) pe_int) (fun _ _ => rfl)))
    (pss_cons (ps_set (i := 9) sc_law_boxes.nd rfl (.inl rfl) (pe_op op_rep (pe_lst (pa_cons pe_int pa_nil)) (pv 4)))
    (pss_cons (ps_for PassesOwn.never rfl (pi_range3 (by rfl) T.m_range (pa_cons pe_int (pa_cons (pv 4) (pa_cons (pv 8) pa_nil)))) (pg_name (i := 10) sc_law_boxes.nd rfl (.inl rfl))
      (pss_cons (ps_set (i := 11) sc_law_boxes.nd rfl (.inl rfl) (pe_slice sl_list (pv 6) (po_some (pv 10)) (po_some (pe_op op_add (pv 10) (pv 8)))))
      (pss_one (ps_for PassesOwn.never rfl (pi_zip (by rfl) T.m_zip (pa_cons (pv 11) (pa_cons (pe_op op_cat (pe_slice sl_list (pv 11) (po_some pe_int) po_none) (pe_slice sl_list (pv 11) po_none (po_some pe_int))) pa_nil))) (pg_tup rfl (pgs_cons (pg_name (i := 7) sc_law_boxes.nd rfl (.inl rfl)) (pgs_cons (pg_name (i := 12) sc_law_boxes.nd rfl (.inl rfl)) pgs_nil)))
        (pss_one (ps_asg (pv 12) (pg_sub (pv 9) (pv 7) set_list)))))))
    (pss_one (ps_ret (pv 9))))))))))), ?_⟩
    refine ⟨_, rfl, _, rfl, a, cs, b, rfl, hS, hC, fun c hc => ?_⟩
    refine ⟨_, rfl, c, 1, rfl, hc, by decide, fun H1 v1 s1 h1 => ⟨_, rfl, v1, mo, rfl, rfl, (by show (0 : Int) < mo; omega), 1, _, rfl, rfl, ?_⟩⟩
    refine ⟨_, rfl, c, 2, rfl, hc, by decide, fun H2 v2 s2 h2 => ⟨v2, 4, rfl, rfl, (by show (0 : Int) < 4; decide), _, _, rfl, ?_⟩⟩
    obtain ⟨m, em, hml, hmu⟩ : ∃ m : Nat, 1 + v1 % (mo : Int) = (m : Int) ∧ 1 ≤ m ∧ m ≤ mo := by
      have e1 := Int.emod_nonneg v1 (show (mo : Int) ≠ 0 by omega)
      have e2 := Int.emod_lt_of_pos v1 (show (0 : Int) < mo by omega)
      exact ⟨(1 + v1 % (mo : Int)).toNat, by omega, by omega, by omega⟩
    obtain ⟨kd, ek, hk⟩ : ∃ k : Nat, v2 % 4 = (k : Int) ∧ k < 4 := ⟨(v2 % 4).toNat, by omega, by omega⟩
    dsimp only
    rw [em, ek]
    refine ⟨Nat.zero_le _, fun o no => ?_⟩
    have s12 := s1.trans s2
    have noH : H o = none := s12.free no
    refine ⟨_, rfl, m, rfl, by omega, by omega, ?_⟩
    rw [Int.toNat_natCast]
    refine for_range (lo := 0) (n := m) (fun i σ H3 => ∃ (ord : List Nat) (v7 : Option V), σ = [some (.ref a), some (.int (b : Int)), some (.int (mo : Int)), some (.int c), some (.int (m : Int)), some (.int (kd : Int)), some (.ref o), v7, none, none, none, none, none] ∧ Same H H3 ∧ H3 o = some (.lst (iv ord)) ∧ ord.Perm (List.range i)) ⟨[], none, rfl, s12.trans (same_upd no), upd_same, .refl _⟩ (fun i σ H3 hi hP => ?_) (fun σ H3 hP => ?_)
    · obtain ⟨ord, v7, rfl, sm, eo, pm⟩ := hP
      refine ⟨_, rfl, .inl ⟨rfl, _, .of eo⟩, _, rfl, _, rfl, _, rfl, _, 5, rfl, rfl, (by show (0 : Int) < 5; decide), b, _, rfl, rfl, ?_⟩
      refine ⟨a, cs, (b + i % 5 : Nat), ?_, sm.seq hS, hC, fun c2 hc2 => ?_⟩
      · rw [Int.zero_add]
        push_cast
        rfl
      refine ⟨_, rfl, _, 3, rfl, rfl, c2, (i + 3 : Nat), ?_, hc2, by omega, fun H4 v4 s4 h4 => ?_⟩
      · rw [Int.zero_add]
        push_cast
        rfl
      refine ⟨v4, 3, rfl, rfl, ⟨by decide, by decide⟩, _, rfl, _, 1, rfl, rfl, _, _, rfl, rfl, (by show (0 : Int) < 0 + (i : Int) + 1; omega), _, rfl, o, _, _, _, rfl, rfl, s4 _ _ eo, ?_, ?_, ?_, ?_⟩
      · rw [iv_len, pm.length_eq, List.length_range]
        exact szl (by omega)
      · exact Int.emod_nonneg _ (by omega)
      · have := Int.emod_lt_of_pos (v4 / 3) (show (0 : Int) < 0 + (i : Int) + 1 by omega)
        omega
      · refine ⟨ord.take (v4 / 3 % (0 + (i : Int) + 1)).toNat ++ [i] ++ ord.drop (v4 / 3 % (0 + (i : Int) + 1)).toNat, _, rfl, same_mut (sm.trans s4) noH, ?_, insert_perm pm⟩
        rw [upd_same, ← List.map_take, ← List.map_drop, Int.zero_add]
        show _ = some (HO.lst (List.map _ _))
        rw [List.map_append, List.map_append]
        rfl
    · obtain ⟨ord, v7, rfl, sm, eo, pm⟩ := hP
      have hol : ord.length = m := by rw [pm.length_eq, List.length_range]
      refine ⟨_, rfl, rfl, _, rfl, ite2 (fun e => ?_) (fun e => ?_)⟩
      · exact ⟨_, rfl, q H3 o ord sm noH eo (good_of_perm pm) (by omega) (by omega)⟩
      · have hk1 : 1 ≤ kd := by
          by_cases h0 : kd = 0
          · subst h0
            exact absurd (decide_eq_true rfl) e
          · omega
        refine ⟨_, rfl, _, rfl, m, 2, rfl, rfl, ⟨by decide, by decide⟩, 1, _, rfl, rfl, _, rfl, c, 3, rfl, hc, by decide, fun H4 v4 s4 h4 => ?_⟩
        refine ⟨_, rfl, v4, m, rfl, rfl, (by show (0 : Int) < m; omega), 1, _, rfl, rfl, sz (by simp), fun t nt => ?_⟩
        have e1 := Int.emod_nonneg v4 (show (m : Int) ≠ 0 by omega)
        have e2 := Int.emod_lt_of_pos v4 (show (0 : Int) < m by omega)
        obtain ⟨sz1, hs1, hs2, hat⟩ : ∃ z : Nat, 1 ≤ z ∧ z ≤ m ∧ atI [V.int (m : Int), V.int (1 + (m : Int) / 2), V.int (1 + v4 % (m : Int))] ((kd : Int) - 1) = some (.int (z : Int)) := by
          have hcase : kd = 1 ∨ kd = 2 ∨ kd = 3 := by omega
          rcases hcase with rfl | rfl | rfl
          · exact ⟨m, by omega, by omega, rfl⟩
          · refine ⟨1 + m / 2, by omega, by omega, ?_⟩
            have e3 : (1 : Int) + (m : Int) / 2 = ((1 + m / 2 : Nat) : Int) := by omega
            rw [e3]; rfl
          · refine ⟨(1 + v4 % (m : Int)).toNat, by omega, by omega, ?_⟩
            have e3 : (1 : Int) + v4 % (m : Int) = (((1 + v4 % (m : Int)).toNat : Nat) : Int) := by omega
            rw [← e3]; rfl
        refine ⟨_, rfl, kd, 1, rfl, rfl, t, _, _, _, rfl, rfl, .of upd_same, hat, ?_⟩
        have s5 := (sm.trans s4).trans (same_upd (o := .tup [V.int (m : Int), V.int (1 + (m : Int) / 2), V.int (1 + v4 % (m : Int))]) nt)
        have eo5 : (upd H4 t (.tup [V.int (m : Int), V.int (1 + (m : Int) / 2), V.int (1 + v4 % (m : Int))])) o = some (.lst (iv ord)) := by
          rw [upd_ne (ne_of_none (s4 _ _ eo) nt)]; exact s4 _ _ eo
        -- [0] * many
        refine ⟨sz (by decide), fun z nz => ⟨_, rfl, z, m, _, rfl, rfl, upd_same, by omega, by omega, sz (by rw [Int.toNat_natCast]; show 1 * m ≤ _; omega), fun f nf => ?_⟩⟩
        have s6 := (s5.trans (same_upd nz)).trans (same_upd (o := .lst (List.replicate (m : Int).toNat [V.int 0]).flatten) nf)
        have nfH : H f = none := (s5.trans (same_upd nz)).free nf
        have erep := rep_iv m
        have eo6 := (same_upd (o := .lst (List.replicate (m : Int).toNat [V.int 0]).flatten) nf) _ _ ((same_upd (o := .lst [V.int 0]) nz) _ _ eo5)
        have nof : o ≠ f := fun e => by
          have z1 := (same_upd (o := .lst [V.int 0]) nz) _ _ eo5
          rw [e, nf] at z1
          cases z1
        -- for begin in range(0, many, size)
        refine ⟨_, rfl, _, rfl, 0, m, sz1, _, rfl, rgC_pos hml (by omega) hs1 (by omega), ?_⟩
        have ho : ord.Perm (List.range ord.length) := by rw [hol]; exact pm
        refine for_rangeC (lo := 0) (c := (sz1 : Int)) (n := (m - 1) / sz1 + 1) (fun i σ H7 => ∃ (fs : List Nat) (w7 w10 w11 w12 : Option V), σ = [some (.ref a), some (.int (b : Int)), some (.int (mo : Int)), some (.int c), some (.int (m : Int)), some (.int (kd : Int)), some (.ref o), w7, some (.int (sz1 : Int)), some (.ref f), w10, w11, w12] ∧ Same H H7 ∧ H7 o = some (.lst (iv ord)) ∧ H7 f = some (.lst (iv fs)) ∧ Laid ord fs (i * sz1)) ?_ (fun i σ H7 hi hP => ?_) (fun σ H7 hP => ?_)
        · refine ⟨List.replicate m 0, _, _, _, _, rfl, s6, eo6, by rw [upd_same, erep], ?_⟩
          rw [Nat.zero_mul]
          exact Laid.start _ _ (by rw [List.length_replicate, hol])
        · obtain ⟨fs, w7, w10, w11, w12, rfl, sm7, eo7, ef7, L⟩ := hP
          have eb : (0 : Int) + ((i : Nat) : Int) * (sz1 : Int) = ((i * sz1 : Nat) : Int) := by push_cast; omega
          refine ⟨_, rfl, _, rfl, _, rfl, _, rfl, _, rfl, _, _, rfl, rfl, _, rfl, o, _, rfl, .of eo7, fun r nr => ?_⟩
          rw [eb, cut_iv]
          have er : (upd H7 r (.lst (iv ((ord.drop (i * sz1)).take sz1)))) r = some (.lst (iv ((ord.drop (i * sz1)).take sz1))) := upd_same
          have s8 := same_upd (o := .lst (iv ((ord.drop (i * sz1)).take sz1))) nr
          have hrl : ((ord.drop (i * sz1)).take sz1).length ≤ 100 := by
            rw [List.length_take, List.length_drop]
            omega
          have key := L.step (s := sz1) ho
          rw [show i * sz1 + sz1 = (i + 1) * sz1 by rw [Nat.add_mul, Nat.one_mul]] at key
          have hrm : ∀ x ∈ (ord.drop (i * sz1)).take sz1, x < fs.length := fun x hx => by
            rw [L.len]
            exact List.mem_range.mp (ho.mem_iff.mp (List.mem_of_mem_drop (List.mem_of_mem_take hx)))
          generalize (ord.drop (i * sz1)).take sz1 = ring at *
          refine ⟨_, rfl, _, rfl, 1, rfl, r, _, rfl, .of upd_same, fun p1 n1 => ?_⟩
          rw [cut_iv1]
          have s9 := same_upd (o := .lst (iv (ring.drop 1))) n1
          refine ⟨_, rfl, 1, rfl, r, _, rfl, s9.seq (.of upd_same), fun p2 n2 => ?_⟩
          rw [show (1 : Int) = ((1 : Nat) : Int) from rfl, cut_iv0]
          have s10 := same_upd (o := .lst (iv (ring.take 1))) n2
          refine ⟨p1, p2, _, _, rfl, rfl, s10 _ _ upd_same, upd_same, ?_, fun p3 n3 => ?_⟩
          · rw [iv_len, iv_len, List.length_drop, List.length_take]
            exact sz (by omega)
          rw [iv_append]
          have s11 := same_upd (o := .lst (iv (ring.drop 1 ++ ring.take 1))) n3
          have er11 := s11 _ _ (s10 _ _ (s9 _ _ er))
          have sAll := ((s8.trans s9).trans s10).trans s11
          have nrH : H r = none := sm7.free nr
          have np3 : H p3 = none := ((sm7.trans s8).trans (s9.trans s10)).free n3
          have nrf : r ≠ f := fun e => by rw [e, ef7] at nr; cases nr
          have np3f : p3 ≠ f := fun e => by
            have z := (s8.trans (s9.trans s10)) _ _ ef7
            rw [← e, n3] at z
            cases z
          refine ⟨r, p3, _, _, rfl, .of er11, .of upd_same, ?_⟩
          have hrot : ring.length = (rot ring).length := (rot_len ring).symm
          refine RZ.for_zipL (K := K) (a := r) (b := p3) (xs := iv ring) (ys := iv (rot ring)) (by rw [iv_len, iv_len]; exact hrot) (fun j σ H8 => ∃ (w7 w12 : Option V), σ = [some (.ref a), some (.int (b : Int)), some (.int (mo : Int)), some (.int c), some (.int (m : Int)), some (.int (kd : Int)), some (.ref o), w7, some (.int (sz1 : Int)), some (.ref f), some (.int ((i * sz1 : Nat) : Int)), some (.ref r), w12] ∧ Same H H8 ∧ H8 o = some (.lst (iv ord)) ∧ H8 r = some (.lst (iv ring)) ∧ H8 p3 = some (.lst (iv (rot ring))) ∧ H8 f = some (.lst (iv (layAll fs ((ring.zip (rot ring)).take j))))) ?_ (fun j σ H8 hP => ?_) (fun j x y t2 σ H8 hx hy hP nt2 => ?_) (fun σ H8 hP => ?_)
          · exact ⟨_, _, rfl, sm7.trans sAll, sAll _ _ eo7, er11, upd_same, sAll _ _ ef7⟩
          · obtain ⟨w7, w12, _, _, _, e1, e2, _⟩ := hP
            exact ⟨.of e1, .of e2⟩
          · obtain ⟨w7, w12, rfl, sm8, eo8, er8, ep8, ef8⟩ := hP
            rw [iv_get?] at hx hy
            obtain ⟨xn, hxn, rfl⟩ := Option.map_eq_some_iff.mp hx
            obtain ⟨yn, hyn, rfl⟩ := Option.map_eq_some_iff.mp hy
            have s12 := same_upd (o := .tup [V.int (xn : Int), V.int (yn : Int)]) nt2
            have hxl : xn < (layAll fs ((ring.zip (rot ring)).take j)).length := by
              rw [layAll_len]
              exact hrm xn (List.mem_of_getElem? hxn)
            refine ⟨t2, _, rfl, .of upd_same, rfl, _, _, rfl, _, _, rfl, rfl, ?_⟩
            refine ⟨_, rfl, _, rfl, _, rfl, f, _, _, xn, rfl, rfl, s12 _ _ ef8, ?_, ?_⟩
            · unfold ixN
              rw [iv_len, if_pos (by omega), if_pos (by omega), Int.toNat_natCast]
            · refine ⟨_, _, rfl, same_mut (sm8.trans s12) nfH, ?_, ?_, ?_, ?_⟩
              · rw [upd_ne nof]; exact s12 _ _ eo8
              · rw [upd_ne nrf]; exact s12 _ _ er8
              · rw [upd_ne np3f]; exact s12 _ _ ep8
              · rw [upd_same, iv_set, List.take_add_one, zip_get? j hxn hyn]
                show _ = some (HO.lst (iv (layAll fs (List.take j (ring.zip (rot ring)) ++ [(xn, yn)]))))
                rw [layAll_snoc]
          · obtain ⟨w7, w12, rfl, sm8, eo8, er8, ep8, ef8⟩ := hP
            refine ⟨_, _, _, _, _, rfl, sm8, eo8, ef8, ?_⟩
            rw [List.take_of_length_le (by rw [List.length_zip, iv_len]; omega)]
            exact key
        · obtain ⟨fs, w7, w10, w11, w12, rfl, sm7, eo7, ef7, L⟩ := hP
          have G : Good fs := L.done ho (by
            rw [hol, Nat.add_mul, Nat.one_mul]
            have := Nat.div_add_mod (m - 1) sz1
            have h3 := Nat.mod_lt (m - 1) (show 0 < sz1 by omega)
            rw [Nat.mul_comm] at this
            omega)
          have hfl := L.len
          exact ⟨_, rfl, q H7 f fs sm7 nfH ef7 G (by omega) (by omega)⟩
end
end Sb
namespace Sb
open PySem PySem.Spec PyProof.Rows L2
section
variable {P : Program} {w : World} {K : PySem.W.Frag} {mg : Str → Option Value} {base : Heap}
/-! ### _law_ring: the same list by other steps -/
abbrev n_law_ring : List Str := ["_law_boxes_here", "_law_hand", "_law_found", "_law_here"]
theorem sc_law_ring : FnScope n_law_ring ["_law_boxes_here", "_law_hand"] (defScope s_law_ring) := ⟨rfl, rfl, rfl, by decide +kernel, rfl, by decide +kernel, by decide +kernel⟩
theorem ok_law_ring (T : Tx K mg) : FnOk P w K mg base CX0 1 T.law_ring.f T.law_ring.fd ["_law_boxes_here", "_law_hand"] (spRing K) := by
  refine T.law_ring.F.ok sc_law_ring (fun vs H Q E h => ?_) (fun cdv A outer s H vs Q E hr h => ?_)
  · obtain ⟨a, ns, h, rfl, _⟩ := h
    rfl
  · obtain ⟨a, ns, h, rfl, hS, g, hh, hlen, q⟩ := h
    refine ⟨_, (pss_cons (ps_par (i := 2) (j := 3) (by rfl) sc_law_ring.nd rfl rfl (by decide) rfl rfl (pa_cons (pe_lst pa_nil) (pa_cons (pv 1) pa_nil)) (by rfl))
    (pss_cons (ps_while PassesOwn.never (pt_cmpR op_notIn_seq (pv 3) (pv 2) (by rfl))
      (pss_cons (ps_expr (pe_bm PySem.F.plainAttrs_list PySem.F.slot_list_append PySem.F.type_list_append mt_append (pv 2) (pa_cons (pv 3) pa_nil)))
      (pss_one (ps_set (i := 3) sc_law_ring.nd rfl (.inl rfl) (pe_ix ix_list (pv 0) (pv 3) (fun _ _ => rfl))))))
    (pss_one (ps_ret (pv 2))))), ?_⟩
    refine ⟨Nat.zero_le _, fun o no => ⟨.int h, rfl, _, _, rfl, ?_⟩⟩
    refine ⟨fun m σ H3 => ∃ (r : List Nat) (y : Nat), σ = [some (.ref a), some (.int (h : Int)), some (.ref o), some (.int (y : Int))] ∧ Same H H3 ∧ H3 o = some (.lst (iv r)) ∧ ((r = [] ∧ y = h) ∨ (Chain ns h r ∧ ∃ x, r[r.length - 1]? = some x ∧ y = nxt ns x)) ∧ m = ns.length - r.length,
      ⟨_, [], h, rfl, same_upd no, upd_same, .inl ⟨rfl, rfl⟩, rfl⟩, fun m σ H3 hW => ?_⟩
    obtain ⟨r, y, rfl, sm, eo, c, rfl⟩ := hW
    have hA : SqL K H3 a (iv ns) := sm.seq hS
    have hO : SqL K H3 o (iv r) := .of eo
    refine ⟨_, rfl, _, rfl, o, _, rfl, .inl hO, rfl, flat_iv _, _, rfl, ?_⟩
    rw [if_pos rfl, inV_iv]
    have hy : y < ns.length := by
      rcases c with ⟨_, rfl⟩ | ⟨c, x, hx, rfl⟩
      · exact hh
      · exact g.nxt_lt (c.lt x (List.mem_of_getElem? hx))
    have hrl : r.length ≤ ns.length := by
      rcases c with ⟨rfl, _⟩ | ⟨c, _⟩
      · exact Nat.zero_le _
      · exact c.len_le
    by_cases hm : y ∈ r
    · rw [decide_eq_true hm]
      refine iteF ?_
      rcases c with ⟨rfl, _⟩ | ⟨c, x, hx, rfl⟩
      · cases hm
      · have R : IsRing ns h r := ⟨c, fun z hz => by rw [hx] at hz; cases hz; exact c.slip g hx hm⟩
        rw [R.eq g] at eo
        exact ⟨.ref o, rfl, q H3 o sm no eo⟩
    · rw [decide_eq_false hm]
      refine iteT ?_
      have c' : Chain ns h (r ++ [y]) := by
        rcases c with ⟨rfl, rfl⟩ | ⟨c, x, hx, rfl⟩
        · exact Chain.one hh
        · exact c.more hx hm hy
      refine ⟨fun σ' H' => ∃ y', σ' = [some (.ref a), some (.int (h : Int)), some (.ref o), some (.int ((y' : Nat) : Int))] ∧ Same H H' ∧ H' o = some (.lst (iv (r ++ [y]))) ∧ y' = nxt ns y, fun σ' H' hN => ?_, ?_⟩
      · obtain ⟨y', e1, e2, e3, e4⟩ := hN
        have hl := c'.len_le
        rw [List.length_append] at hl
        have hl2 : r.length + 1 ≤ ns.length := hl
        exact ⟨ns.length - (r ++ [y]).length, by rw [List.length_append]; show _ - (r.length + 1) < _; omega, r ++ [y], y', e1, e2, e3, .inr ⟨c', y, by simp, e4⟩, rfl⟩
      · refine ⟨.ref o, rfl, .inl ⟨rfl, _, hO⟩, _, rfl, o, _, _, rfl, rfl, eo, ?_, ?_⟩
        · rw [iv_len]
          exact szl (by omega)
        · rw [iv_snoc]
          have sm2 : Same H (upd H3 o (.lst (iv (r ++ [y])))) := same_mut sm no
          exact ⟨_, rfl, _, rfl, a, _, _, _, rfl, rfl, sm2.seq hS, iv_at (nxt_get? hy), _, rfl, sm2, upd_same, rfl⟩
end
end Sb
namespace Sb
open PySem PySem.Spec PyProof.Rows L2
section
variable {P : Program} {w : World} {K : PySem.W.Frag} {mg : Str → Option Value} {base : Heap}
/-! ### _law_longest -/
def spLongest (K : PySem.W.Frag) : Sp := fun vs H Q _ => ∃ (a : Addr) (ns : List Nat), vs = [.ref a] ∧ SqL K H a (iv ns) ∧ Good ns ∧ 1 ≤ ns.length ∧ ns.length ≤ 100 ∧ ∀ (H' : Hp) (n : Nat), Same H H' → 1 ≤ n → n ≤ ns.length → (∀ m : Nat, n ≤ m ↔ Short ns m) → Q (.int (n : Int)) H'
abbrev n_law_longest : List Str := ["_law_boxes_here", "_law_hand"]
theorem sc_law_longest : FnScope n_law_longest ["_law_boxes_here"] (defScope s_law_longest) := ⟨rfl, rfl, rfl, by decide +kernel, rfl, by decide +kernel, by decide +kernel⟩
theorem ok_law_longest (T : Tx K mg) : FnOk P w K mg base CX0 2 T.law_longest.f T.law_longest.fd ["_law_boxes_here"] (spLongest K) := by
  refine T.law_longest.F.ok sc_law_longest (fun vs H Q E h => ?_) (fun cdv A outer s H vs Q E hr h => ?_)
  · obtain ⟨a, ns, rfl, _⟩ := h
    rfl
  · obtain ⟨a, ns, rfl, hA, g, h1, hn, q⟩ := h
    refine ⟨_, (pss_one (ps_ret (pe_callB (cr_max rfl) (by rfl) T.m_max (by decide +kernel) (pa_cons (pe_lc (own := [("_law_hand", 1)]) (g := gName 1) rfl sc_law_longest.nd (pi_range1 (by rfl) T.m_range (pa_cons (pe_callB call_len_seq (by rfl) T.m_len (by decide +kernel) (pa_cons (pv 0) pa_nil)) pa_nil)) (blkOk_by (own := [("_law_hand", 1)]) (N := n_law_longest) (sc := defScope s_law_longest) (by decide +kernel)) (fun _ _ _ _ _ => (pg_name (i := 1) sc_law_longest.nd rfl (.inl rfl))) (fun _ _ _ _ _ => pts_nil) (fun _ _ _ _ _ => (pe_callB (call_lenK (K := K) rfl) (by rfl) T.m_len PySem.boot_len (pa_cons (pe_df T.law_ring (ok_law_ring T) (hr.mono (by decide)) (pa_cons (pv 0) (pa_cons (pv 1) pa_nil))) pa_nil)))) pa_nil)))), ?_⟩
    refine ⟨_, rfl, a, _, rfl, .inl hA, _, rfl, by rw [iv_len]; omega, by rw [iv_len]; omega, fun D nD => ?_⟩
    rw [iv_len, Int.toNat_natCast]
    refine lc_range (lo := 0) (n := ns.length) (fun i H3 => Same H H3 ∧ H3 D = some (.lst (((List.range i).map fun h => (((ringOf ns h).length : Nat) : Int)).map V.int))) ⟨same_upd nD, upd_same⟩ (fun i H3 hi h => ?_) (fun H3 h => ?_)
    · obtain ⟨sm, eD⟩ := h
      refine ⟨rfl, _, rfl, _, rfl, a, ns, i, by rw [Int.zero_add]; rfl, sm.seq hA, g, hi, by omega, fun H4 p s4 np ep => ?_⟩
      refine ⟨p, _, rfl, .inl (.of ep), _, s4 _ _ eD, ?_, same_mut (sm.trans s4) nD, ?_⟩
      · rw [List.length_map, List.length_map, List.length_range]
        exact szl (by omega)
      · rw [upd_same, List.range_succ, List.map_append, List.map_append, iv_len]
        rfl
    · obtain ⟨sm, eD⟩ := h
      refine ⟨D, _, rfl, .of eD, by rw [List.length_map, List.length_range]; omega, fun mx hm hle => ?_⟩
      obtain ⟨h, hh, rfl⟩ := List.mem_map.mp hm
      have hhl := List.mem_range.mp hh
      refine q H3 _ sm (ringOf_pos g hhl) (ringOf_len g hhl) fun m => ?_
      constructor
      · intro hm2 k hk
        have := hle _ (List.mem_map.mpr ⟨k, List.mem_range.mpr hk, rfl⟩)
        omega
      · intro sh
        exact sh h hhl
end
end Sb
namespace Sb
open PySem PySem.Spec PyProof.Rows L2
section
variable {P : Program} {w : World} {K : PySem.W.Frag} {mg : Str → Option Value} {base : Heap}
/-! ### _law_is_ring -/
def spLawIsRing (K : PySem.W.Frag) : Sp := fun vs H Q _ => ∃ (a l : Addr) (ns : List Nat) (r : List Int), vs = [.ref a, .ref l] ∧ SqL K H a (iv ns) ∧ SqL K H l (r.map V.int) ∧ Good ns ∧ ns.length ≤ 100 ∧ r.length ≤ 4000 ∧ Says H Q (RingI ns r)
theorem ints_last {r : List Int} {x : Int} (h : r[r.length - 1]? = some x) : atI (r.map V.int) (-1) = some (.int x) := by
  have hne : r ≠ [] := fun e => by subst e; simp at h
  have hl : r.length - 1 < r.length := by have := List.length_pos_iff.mpr hne; omega
  have e : r = r.dropLast ++ [x] := by
    have := List.dropLast_concat_getLast hne
    rw [List.getLast_eq_getElem] at this
    rw [List.getElem?_eq_getElem hl] at h
    rw [Option.some.inj h] at this
    exact this.symm
  rw [e, List.map_append]
  exact atI_last _ _
abbrev n_law_is_ring : List Str := ["_law_boxes_here", "_law_ring_here", "_law_box"]
theorem sc_law_is_ring : FnScope n_law_is_ring ["_law_boxes_here", "_law_ring_here"] (defScope s_law_is_ring) := ⟨rfl, rfl, rfl, by decide +kernel, rfl, by decide +kernel, by decide +kernel⟩
theorem ok_law_is_ring (T : Tx K mg) : FnOk P w K mg base CX0 2 T.law_is_ring.f T.law_is_ring.fd ["_law_boxes_here", "_law_ring_here"] (spLawIsRing K) := by
  refine T.law_is_ring.F.ok sc_law_is_ring (fun vs H Q E h => ?_) (fun cdv A outer s H vs Q E hr h => ?_)
  · obtain ⟨a, l, ns, r, rfl, _⟩ := h
    rfl
  · obtain ⟨a, l, ns, r, rfl, hA, hL, g, hn, hr4, q⟩ := h
    refine ⟨_, (pss_cons (ps_if (PW.pt (pw_or (pt_cmpR (op_eqD hr.units) (pv 1) (pe_lst pa_nil) (nomark _)) (pw_or1 (pt_val (pe_callB (cr_any rfl) (by rfl) T.m_any (by decide +kernel) (pa_cons (pe_lc (own := [("_law_box", 2)]) (g := gName 2) rfl sc_law_is_ring.nd (pi_list (pv 1)) (blkOk_by (own := [("_law_box", 2)]) (N := n_law_is_ring) (sc := defScope s_law_is_ring) (by decide +kernel)) (fun _ _ _ _ _ => (pg_name (i := 2) sc_law_is_ring.nd rfl (.inl rfl))) (fun _ _ _ _ _ => pts_nil) (fun _ _ _ _ _ => (pe_not (pe_chain op_le op_lt pe_int (pv 2) (pe_callB (call_lenK (K := K) rfl) (by rfl) T.m_len PySem.boot_len (pa_cons (pv 0) pa_nil)))))) pa_nil))))))
      (pss_one (ps_ret pe_bl))
      pss_nil)
    (pss_one (ps_ret (pe_and (pe_cmpR (op_eqD hr.units) (pv 1) (pe_df T.law_ring (ok_law_ring T) (hr.mono (by decide)) (pa_cons (pv 0) (pa_cons (pe_ix ix_list (pv 1) pe_int (fun _ _ => rfl)) pa_nil))) (nomark _)) (pe_one (pe_cmpR op_eq (pe_ix ix_list (pv 0) (pe_ix ix_list (pv 1) (pe_un un_neg pe_int) (fun _ _ => rfl)) (fun _ _ => rfl)) (pe_ix ix_list (pv 1) pe_int (fun _ _ => rfl)) (nomark _))))))), ?_⟩
    refine ⟨_, rfl, Nat.zero_le _, fun p np => ?_⟩
    have s1 := same_upd (o := .lst []) np
    refine eq_ii (y := []) (s1.seq hL) (.of upd_same) ⟨_, rfl, ite2 (fun e => ?_) (fun e => ?_)⟩
    · have e1 : r = [] := of_decide_eq_true e
      refine q false _ s1 ⟨fun z => Bool.noConfusion z, fun z => ?_⟩
      exact absurd e1 (ringI_steps.mp z).1
    have hne : r ≠ [] := fun z => e (decide_eq_true z)
    refine ⟨_, rfl, l, rfl, ⟨_, s1.seq hL⟩, fun D nD => ?_⟩
    refine lc_list (K := K) (a := l) (xs := r.map V.int) (fun i H3 => Same H H3 ∧ H3 D = some (.lst (((r.take i).map fun x => !(decide (0 ≤ x) && decide (x < (ns.length : Int)))).map V.bl))) ⟨s1.trans (same_upd nD), upd_same⟩ (fun i H3 _ h => h.1.seq hL) (fun i x H3 hx h => ?_) (fun H3 h => ?_)
    · obtain ⟨sm, eD⟩ := h
      rw [List.getElem?_map] at hx
      obtain ⟨z, hz, rfl⟩ := Option.map_eq_some_iff.mp hx
      have hi : i < r.length := (List.getElem?_eq_some_iff.mp hz).1
      have nDH : H D = none := s1.free nD
      have fin : ∀ b : Bool, b = (decide (0 ≤ z) && decide (z < (ns.length : Int))) → ∃ acc, H3 D = some (.lst acc) ∧ acc.length < sizeLine ∧ (Same H (upd H3 D (.lst (acc ++ [.bl (!b)]))) ∧ (upd H3 D (.lst (acc ++ [.bl (!b)]))) D = some (.lst (((r.take (i + 1)).map fun x => !(decide (0 ≤ x) && decide (x < (ns.length : Int)))).map V.bl))) := fun b hb => by
        refine ⟨_, eD, ?_, same_mut sm nDH, ?_⟩
        · rw [List.length_map, List.length_map, List.length_take]
          exact szl (by omega)
        · rw [upd_same, List.take_add_one, hz, hb, List.map_append, List.map_append]
          rfl
      refine ⟨rfl, _, rfl, 0, z, rfl, rfl, _, rfl, ite2 (fun e => ?_) (fun e => ?_)⟩
      · refine ⟨_, rfl, a, _, rfl, .inl (sm.seq hA), z, _, rfl, rfl, _, rfl, fin _ ?_⟩
        rw [iv_len, show decide (0 ≤ z) = true from e, Bool.true_and]
      · refine ⟨_, rfl, fin false ?_⟩
        have e' : decide (0 ≤ z) = false := by
          cases hd : decide (0 ≤ z) with
          | true => exact absurd hd e
          | false => rfl
        rw [e', Bool.false_and]
    obtain ⟨sm, eD⟩ := h
    rw [List.length_map, List.take_length] at eD
    have eany : (r.map fun x => !(decide (0 ≤ x) && decide (x < (ns.length : Int)))).any id = false ↔ ∀ x ∈ r, 0 ≤ x ∧ x < (ns.length : Int) := by
      rw [List.any_map, List.any_eq_false]
      constructor
      · intro h x hx
        have := h x hx
        simpa using this
      · intro h x hx
        have := h x hx
        simpa using this
    refine ⟨D, _, rfl, .of eD, _, rfl, ?_⟩
    generalize (r.map fun x => !(decide (0 ≤ x) && decide (x < (ns.length : Int)))).any id = bany at eany
    cases bany with
    | true =>
      refine iteT ?_
      refine q false _ sm ⟨fun z => Bool.noConfusion z, fun z => ?_⟩
      have := eany.mpr (ringI_steps.mp z).2.2.1
      cases this
    | false =>
      refine iteF ?_
      have lt := eany.mp rfl
      have hpos : 0 < r.length := List.length_pos_iff.mpr hne
      obtain ⟨x0, hx0⟩ : ∃ x, r[0]? = some x := ⟨r[0], List.getElem?_eq_getElem hpos⟩
      obtain ⟨xl, hxl⟩ : ∃ x, r[r.length - 1]? = some x := ⟨r[r.length - 1], List.getElem?_eq_getElem (by omega)⟩
      have b0 := lt x0 (List.mem_of_getElem? hx0)
      have bl := lt xl (List.mem_of_getElem? hxl)
      have e0 : x0 = ((x0.toNat : Nat) : Int) := by omega
      have el : xl = ((xl.toNat : Nat) : Int) := by omega
      have at0 : atI (r.map V.int) 0 = some (.int x0) := atI_nat (j := 0) (ints_at hx0)
      have hL3 := sm.seq hL
      refine ⟨_, rfl, _, rfl, _, rfl, l, _, 0, _, rfl, rfl, hL3, at0, a, ns, x0.toNat, by rw [← e0]; rfl, sm.seq hA, g, by omega, by omega, fun H4 p4 s4 n4 e4 => ?_⟩
      have e4' : SqL K H4 p4 (((ringOf ns x0.toNat).map fun (n : Nat) => (n : Int)).map V.int) := by rw [← iv_eq]; exact .of e4
      refine eq_ii (x := r) (y := (ringOf ns x0.toNat).map fun (n : Nat) => (n : Int)) (s4.seq hL3) e4' ⟨_, rfl, ite2 (fun e => ?_) (fun e => ?_)⟩
      · have er : r = (ringOf ns x0.toNat).map (fun (n : Nat) => (n : Int)) := of_decide_eq_true e
        have hR : RingI ns r := (ringI_first g hx0 lt).mpr er
        have hL4 := s4.seq hL3
        have atl : atI (iv ns) xl = some (.int ((nxt ns xl.toNat : Nat) : Int)) := by
          rw [el, Int.toNat_natCast]
          exact iv_at (nxt_get? (by omega))
        have hb : nxt ns xl.toNat = x0.toNat := by
          refine ring_back g (by omega) ?_
          rw [er, List.length_map, List.getElem?_map] at hxl
          obtain ⟨y, hy, hye⟩ := Option.map_eq_some_iff.mp hxl
          rw [hy, ← hye]
          rfl
        refine ⟨_, rfl, _, rfl, 1, rfl, l, _, -1, _, rfl, rfl, hL4, ints_last hxl, a, _, xl, _, rfl, rfl, s4.seq (sm.seq hA), atl, _, rfl, l, _, 0, _, rfl, rfl, hL4, at0, rfl, q _ _ (sm.trans s4) ?_⟩
        rw [decide_eq_true_iff, hb, ← e0]
        exact ⟨fun _ => hR, fun _ => rfl⟩
      · refine q false _ (sm.trans s4) ⟨fun z => Bool.noConfusion z, fun z => ?_⟩
        exact absurd (decide_eq_true ((ringI_first g hx0 lt).mp z)) e
end
end Sb
namespace Sb
open PySem PySem.Spec PyProof.Rows L2
section
variable {P : Program} {w : World} {K : PySem.W.Frag} {mg : Str → Option Value} {base : Heap}
/-! ### law_changed -/
abbrev n_law_changed : List Str := ["_law_boxes_here", "_law_one", "_law_other", "_law_found"]
theorem sc_law_changed : FnScope n_law_changed ["_law_boxes_here", "_law_one", "_law_other"] (defScope s_law_changed) := ⟨rfl, rfl, rfl, by decide +kernel, rfl, by decide +kernel, by decide +kernel⟩
theorem ok_law_changed (T : Tx K mg) : FnOk P w K mg base CX0 1 T.law_changed.f T.law_changed.fd ["_law_boxes_here", "_law_one", "_law_other"] (spExch K) := by
  refine T.law_changed.F.ok sc_law_changed (fun vs H Q E h => ?_) (fun cdv A outer s H vs Q E hr h => ?_)
  · obtain ⟨a, ns, i, j, rfl, _⟩ := h
    rfl
  · obtain ⟨a, ns, i, j, rfl, hA, hi, hj, q⟩ := h
    refine ⟨_, (pss_cons (ps_set (i := 3) sc_law_changed.nd rfl (.inl rfl) (pe_callTy call_list_of (by rfl) T.m_list (by decide +kernel) (pa_cons (pv 0) pa_nil)))
    (pss_cons (ps_asg (pe_tup (pa_cons (pe_ix ix_list (pv 0) (pv 2) (fun _ _ => rfl)) (pa_cons (pe_ix ix_list (pv 0) (pv 1) (fun _ _ => rfl)) pa_nil))) (pg_tup rfl (pgs_cons (pg_sub (pv 3) (pv 1) set_list) (pgs_cons (pg_sub (pv 3) (pv 2) set_list) pgs_nil))))
    (pss_one (ps_ret (pv 3))))), ?_⟩
    refine ⟨_, rfl, a, _, rfl, .inl hA, fun p np => ?_⟩
    have s1 := same_upd (o := .lst (iv ns)) np
    have hA1 := s1.seq hA
    refine ⟨_, rfl, _, rfl, a, _, _, _, rfl, rfl, hA1, iv_at (nxt_get? hj), _, rfl, _, rfl, a, _, _, _, rfl, rfl, hA1, iv_at (nxt_get? hi), sz (by simp), fun t nt => ?_⟩
    have ntp : p ≠ t := fun e => by rw [e, upd_same] at nt; cases nt
    refine ⟨t, _, rfl, .of upd_same, rfl, _, _, rfl, _, rfl, _, rfl, p, _, _, i, rfl, rfl, by rw [upd_ne ntp]; exact upd_same, by rw [iv_len]; exact ixN_nat hi, ?_⟩
    refine ⟨_, _, rfl, _, rfl, _, rfl, p, _, _, j, rfl, rfl, upd_same, by rw [List.length_set, iv_len]; exact ixN_nat hj, rfl, ?_⟩
    refine ⟨_, rfl, q _ p (same_mut (same_mut (s1.trans (same_upd nt)) np) np) np ?_⟩
    rw [upd_same, set_iv, set_iv]
    rfl
end
end Sb
namespace Sb
open PySem PySem.Spec PyProof.Rows L2
section
variable {P : Program} {w : World} {K : PySem.W.Frag} {mg : Str → Option Value} {base : Heap}
/-! ### _law_says -/
def spSays : Sp := fun vs H Q _ => ∃ (b c : Bool), vs = [.bl b, .bl c] ∧ Q (.bl (decide (b = c))) H
abbrev n_law_says : List Str := ["_law_said", "_law_due"]
theorem sc_law_says : FnScope n_law_says ["_law_said", "_law_due"] (defScope s_law_says) := ⟨rfl, rfl, rfl, by decide +kernel, rfl, by decide +kernel, by decide +kernel⟩
theorem ok_law_says (T : Tx K mg) : FnOk P w K mg base CX0 1 T.law_says.f T.law_says.fd ["_law_said", "_law_due"] spSays := by
  refine T.law_says.F.ok sc_law_says (fun vs H Q E h => ?_) (fun cdv A outer s H vs Q E hr h => ?_)
  · obtain ⟨b, c, rfl, _⟩ := h
    rfl
  · obtain ⟨b, c, rfl, q⟩ := h
    refine ⟨_, (pss_one (ps_ret (pe_and (pe_callB call_isi (by rfl) T.m_isinstance (by decide +kernel) (pa_cons (pv 0) (pa_cons (pe_bltn (v := .ty "bool") (by rfl) T.m_bool (by decide +kernel) rfl) pa_nil))) (pe_one (pe_cmpR op_eq (pv 0) (pv 1) (nomark _)))))), ?_⟩
    refine ⟨_, rfl, .bl b, .ty "bool", .type "bool", .type "bool", true, rfl, .ty "bool", .base (.bl b), kit_ty (by decide +kernel), true, rfl, ?_⟩
    rw [if_pos rfl]
    refine ⟨_, rfl, _, rfl, rfl, ?_⟩
    have e : decide (V.bl b = V.bl c) = decide (b = c) := by
      rw [Bool.eq_iff_iff, decide_eq_true_iff, decide_eq_true_iff]
      constructor
      · intro h; injection h
      · intro h; rw [h]
    rw [e]
    exact q
end
end Sb
namespace Sb
open PySem PySem.Spec PyProof.Rows L2
/-! ### lists of truths compared; a list in a tuple of lists -/
theorem can_bl : ∀ bs : List Bool, PyData.canLayAll0 (bs.map PyData.bool) = true
  | [] => by unfold PyData.canLayAll0; rfl
  | n :: r => by
    rw [List.map_cons]
    unfold PyData.canLayAll0
    rw [can_bl r]; unfold PyData.canLay0; rfl
theorem dep_bl : ∀ bs : List Bool, PyData.depthAll (bs.map PyData.bool) ≤ 1
  | [] => by unfold PyData.depthAll; exact Nat.zero_le _
  | n :: r => by
    rw [List.map_cons]
    unfold PyData.depthAll
    have e : PyData.depth (.bool n) ≤ 1 := by
      unfold PyData.depth
      omega
    exact Nat.max_le.mpr ⟨e, dep_bl r⟩
theorem shaped_bl (bs : List Bool) : SeqAt.shaped (.list (bs.map PyData.bool)) = true := by
  unfold SeqAt.shaped
  rw [Bool.and_eq_true_iff]
  refine ⟨by unfold PyData.canLay0; exact can_bl bs, decide_eq_true ?_⟩
  have h := dep_bl bs
  unfold PyData.depth
  omega
theorem eqv_bl : ∀ a b : List Bool, PyData.eqvAll (a.map PyData.bool) (b.map PyData.bool) = decide (a = b)
  | [], [] => by unfold PyData.eqvAll; rfl
  | [], y :: b => by rw [List.map_cons]; unfold PyData.eqvAll; rfl
  | x :: a, [] => by rw [List.map_cons]; unfold PyData.eqvAll; rfl
  | x :: a, y :: b => by
    rw [List.map_cons, List.map_cons]
    unfold PyData.eqvAll
    rw [eqv_bl a b]
    unfold PyData.eqv
    rw [Bool.eq_iff_iff]
    simp
theorem dp_bl {K : PySem.W.Frag} {H : Hp} : ∀ bs : List Bool, DpAll K H (bs.map V.bl) (bs.map PyData.bool)
  | [] => .nil
  | n :: r => .cons (.bl n) (dp_bl r)
theorem ne_bl {K : PySem.W.Frag} {H : Hp} {a b : Addr} {x y : List Bool} {Q : VK} (ha : SqL K H a (x.map V.bl)) (hb : SqL K H b (y.map V.bl)) (q : Q (.bl (!decide (x = y))) H) : rNeD K (.ref a) (.ref b) H Q :=
  ⟨.list (x.map PyData.bool), .list (y.map PyData.bool), .lst ha (dp_bl x), .lst hb (dp_bl y), shaped_bl x, shaped_bl y, by unfold PyData.eqv; rw [eqv_bl]; exact q⟩
theorem eq_bl {K : PySem.W.Frag} {H : Hp} {a b : Addr} {x y : List Bool} {Q : VK} (ha : SqL K H a (x.map V.bl)) (hb : SqL K H b (y.map V.bl)) (q : Q (.bl (decide (x = y))) H) : rEqD K (.ref a) (.ref b) H Q :=
  ⟨.list (x.map PyData.bool), .list (y.map PyData.bool), .lst ha (dp_bl x), .lst hb (dp_bl y), shaped_bl x, shaped_bl y, by unfold PyData.eqv; rw [eqv_bl]; exact q⟩
theorem lk_not {x y : Str} {v : V} (h : (x == y) = false) : List.lookup x [(y, v)] = none := by
  simp only [List.lookup, h]
theorem room65 {k : Nat} {A : Around} (r : Room k A) : A.units + 65 < cLine := by have := r.un; omega
def rInT (K : PySem.W.Frag) : R2 := fun x y H Q => ∃ d ds, Dp K H x d ∧ Dp K H y (.tuple ds) ∧ SeqAt.shaped d = true ∧ SeqAt.shaped (.tuple ds) = true ∧ Q (.bl (ds.any fun z => PyData.eqv z d)) H
theorem op_inT {X : Cx} (hu : X.A.units + 65 < cLine) : OpR X (compareOp .In) (rInT X.K) := by
  rintro pins s σ H x y v u Q I rx ry ⟨d, ds, hd, he, sd, se, q⟩
  obtain ⟨as, r1⟩ := Dp.reads I d x v hd rx
  obtain ⟨bs, r2⟩ := Dp.reads I (.tuple ds) y u he ry
  refine SeqAt.in_tuple_reads r2 r1 (SeqAt.canLay_of_shaped se) (SeqAt.canLay_of_shaped sd) ?_ ⟨.bl _, H, I, rfl, q⟩
  have h1 := SeqAt.depth_of_shaped sd
  have h2 : min (PyData.depthAll ds) d.depth ≤ d.depth := Nat.min_le_right _ _
  omega
end Sb
namespace Sb
open PySem PySem.Spec PyProof.Rows L2
/-- any(x in b for x in a) -/
theorem any_in {a b : List Int} : (a.map fun x => decide (x ∈ b)).any id = false ↔ ∀ x ∈ a, x ∉ b := by
  rw [List.any_map, List.any_eq_false]
  constructor
  · intro h x hx
    have := h x hx
    simpa using this
  · intro h x hx
    have := h x hx
    simpa using this
section
variable {P : Program} {w : World} {K : PySem.W.Frag} {mg : Str → Option Value} {base : Heap}
/-! ### _law_barred -/
def spLawBarred (K : PySem.W.Frag) : Sp := fun vs H Q _ => ∃ (a l : Addr) (ps : List Addr) (ns : List Nat) (rs : List (List Int)) (m : Nat), vs = [.ref a, .int (m : Int), .ref l] ∧ SeesI K H l ps rs ∧ SqL K H a (iv ns) ∧ Good ns ∧ ns.length ≤ 100 ∧ rs.length ≤ 1000 ∧ (∀ r ∈ rs, r.length ≤ 4000) ∧ Says H Q (BarD ns m rs)
abbrev n_law_barred : List Str := ["_law_boxes_here", "_law_most", "_law_several", "_law_box", "_law_ring_here"]
theorem sc_law_barred : FnScope n_law_barred ["_law_boxes_here", "_law_most", "_law_several"] (defScope s_law_barred) := ⟨rfl, rfl, rfl, by decide +kernel, rfl, by decide +kernel, by decide +kernel⟩
theorem ok_law_barred (T : Tx K mg) : FnOk P w K mg base CX0 3 T.law_barred.f T.law_barred.fd ["_law_boxes_here", "_law_most", "_law_several"] (spLawBarred K) := by
  refine T.law_barred.F.ok sc_law_barred (fun vs H Q E h => ?_) (fun cdv A outer s H vs Q E hr h => ?_)
  · obtain ⟨a, l, ps, ns, rs, m, rfl, _⟩ := h
    rfl
  · obtain ⟨a, l, ps, ns, rs, m, rfl, S, hA, g, hn, hrs, hr4, q⟩ := h
    refine ⟨_, (pss_cons (ps_if (pt_not (pt_val (pe_callB (cr_all rfl) (by rfl) T.m_all (by decide +kernel) (pa_cons (pe_lc (own := [("_law_ring_here", 4)]) (g := gName 4) rfl sc_law_barred.nd (pi_list (pv 2)) (blkOk_by (own := [("_law_ring_here", 4)]) (N := n_law_barred) (sc := defScope s_law_barred) (by decide +kernel)) (fun _ _ _ _ _ => (pg_name (i := 4) sc_law_barred.nd rfl (.inl rfl))) (fun _ _ _ _ _ => pts_nil) (fun _ _ _ _ _ => (pe_df T.law_is_ring (ok_law_is_ring T) (hr.mono (by decide)) (pa_cons (pv 0) (pa_cons (pv 4) pa_nil))))) pa_nil))))
      (pss_one (ps_ret pe_bl))
      pss_nil)
    (pss_cons (ps_if (pt_cmpR op_eq (pe_callB call_len_seq (by rfl) T.m_len (by decide +kernel) (pa_cons (pv 2) pa_nil)) pe_int (nomark _))
      (pss_one (ps_ret (pe_cmpR op_gt (pe_callB call_len_seq (by rfl) T.m_len (by decide +kernel) (pa_cons (pe_ix ix_list (pv 2) pe_int (fun _ _ => rfl)) pa_nil)) (pe_op op_mulX pe_int (pv 1)) (nomark _))))
      pss_nil)
    (pss_cons (ps_if (PW.pt (pw_or (pt_cmpR op_ne (pe_callB call_len_seq (by rfl) T.m_len (by decide +kernel) (pa_cons (pv 2) pa_nil)) pe_int (nomark _)) (pw_or1 (pt_val (pe_callB (cr_any rfl) (by rfl) T.m_any (by decide +kernel) (pa_cons (pe_lc (own := [("_law_box", 3)]) (g := gName 3) rfl sc_law_barred.nd (pi_list (pe_ix ix_list (pv 2) pe_int (fun _ _ => rfl))) (blkOk_by (own := [("_law_box", 3)]) (N := n_law_barred) (sc := defScope s_law_barred) (by decide +kernel)) (fun _ _ _ _ _ => (pg_name (i := 3) sc_law_barred.nd rfl (.inl rfl))) (fun _ _ _ _ _ => pts_nil) (fun _ _ _ _ _ => (pe_cmpR (op_in_seqK (K := K) rfl) (pv 3) (pe_ix (ix_listK (K := K) rfl) (pv 2) pe_int (fun _ _ => rfl)) (by rfl)))) pa_nil))))))
      (pss_one (ps_ret pe_bl))
      pss_nil)
    (pss_one (ps_ret (pe_cmpR op_gt (pe_callB (cr_min rfl) (by rfl) T.m_min (by decide +kernel) (pa_cons (pe_lc (own := [("_law_ring_here", 4)]) (g := gName 4) rfl sc_law_barred.nd (pi_list (pv 2)) (blkOk_by (own := [("_law_ring_here", 4)]) (N := n_law_barred) (sc := defScope s_law_barred) (by decide +kernel)) (fun _ _ _ _ _ => (pg_name (i := 4) sc_law_barred.nd rfl (.inl rfl))) (fun _ _ _ _ _ => pts_nil) (fun _ _ _ _ _ => (pe_callB (call_lenK (K := K) rfl) (by rfl) T.m_len PySem.boot_len (pa_cons (pv 4) pa_nil)))) pa_nil)) (pv 1) (nomark _))))))), ?_⟩
    have no : ∀ H3, Same H H3 → ¬ BarD ns m rs → Q (.bl false) H3 := fun H3 sm z => q false H3 sm ⟨fun y => Bool.noConfusion y, fun y => absurd y z⟩
    refine ⟨_, rfl, l, rfl, ⟨_, S.at_⟩, fun D nD => ?_⟩
    refine lc_list (K := K) (a := l) (xs := ps.map V.ref) (fun i H3 => Same H H3 ∧ ∃ bs : List Bool, H3 D = some (.lst (bs.map V.bl)) ∧ bs.length = i ∧ (bs.all id = true ↔ ∀ r ∈ rs.take i, RingI ns r)) ⟨same_upd nD, [], upd_same, rfl, by simp⟩ (fun i H3 _ h => h.1.seq S.at_) (fun i v H3 hv h => ?_) (fun H3 h => ?_)
    · obtain ⟨sm, bs, eD, hbl, hb⟩ := h
      rw [List.getElem?_map] at hv
      obtain ⟨q0, hq0, rfl⟩ := Option.map_eq_some_iff.mp hv
      have hi : i < rs.length := by rw [← S.len]; exact (List.getElem?_eq_some_iff.mp hq0).1
      have hr := S.row i q0 _ hq0 (List.getElem?_eq_getElem hi)
      refine ⟨rfl, _, rfl, _, rfl, a, q0, ns, rs[i], rfl, sm.seq hA, sm.seq hr, g, hn, hr4 _ (List.getElem_mem hi), fun b H4 s4 hb4 => ?_⟩
      refine ⟨_, s4 _ _ eD, by rw [List.length_map, hbl]; exact szl (by omega), same_mut (sm.trans s4) nD, bs ++ [b], ?_, ?_, ?_⟩
      · rw [upd_same, List.map_append]; rfl
      · rw [List.length_append, hbl]; rfl
      · rw [List.take_add_one, List.getElem?_eq_getElem hi, List.all_append, Bool.and_eq_true, hb]
        simp only [Option.toList_some, List.mem_append, List.mem_singleton, List.all_cons, List.all_nil, Bool.and_true, id_eq, hb4]
        constructor
        · rintro ⟨h1, h2⟩ r (hr | rfl)
          · exact h1 r hr
          · exact h2
        · intro h
          exact ⟨fun r hr => h r (.inl hr), h _ (.inr rfl)⟩
    obtain ⟨sm, bs, eD, hbl, hb⟩ := h
    rw [List.length_map, S.len] at hbl hb
    rw [List.take_length] at hb
    refine ⟨D, bs, rfl, .of eD, _, rfl, ?_⟩
    generalize bs.all id = ball at hb
    cases ball with
    | false => exact iteT (no _ sm fun z => Bool.noConfusion (hb.mpr z.1))
    | true =>
      refine iteF ?_
      have hR := hb.mp rfl
      have S3 := S.same sm
      have hl3 := S3.at_
      refine ⟨_, rfl, l, _, rfl, .inl hl3, rfl, _, rfl, ?_⟩
      rw [List.length_map, S.len, dec_int]
      by_cases h1 : rs.length = 1
      · obtain ⟨r0, e0⟩ := List.length_eq_one_iff.mp h1
        subst e0
        obtain ⟨q0, at0, hq0⟩ := S3.get (i := 0) (r := r0) rfl
        rw [decide_eq_true (by omega)]
        refine iteT ?_
        refine ⟨_, rfl, l, _, 0, _, rfl, rfl, hl3, at0, q0, _, rfl, .inl hq0, _, rfl, 2, m, rfl, rfl, .of_left (bts2 (by decide) (by decide)), _, _, rfl, rfl, q _ _ sm ?_⟩
        rw [decide_eq_true_iff, List.length_map]
        constructor
        · intro h; exact ⟨hR, .inl ⟨r0, rfl, by omega⟩⟩
        · rintro ⟨_, ⟨a', e, h⟩ | ⟨a', b', e, _⟩⟩
          · cases e; omega
          · cases e
      rw [decide_eq_false (by omega)]
      refine iteF ?_
      refine ⟨_, rfl, l, _, rfl, .inl hl3, rfl, _, rfl, ?_⟩
      rw [List.length_map, S.len, dec_int]
      by_cases h2 : rs.length = 2
      case neg =>
        rw [decide_eq_false (by omega)]
        refine iteT (no _ sm ?_)
        rintro ⟨_, ⟨a', e, h⟩ | ⟨a', b', e, _⟩⟩
        · subst e; exact h1 rfl
        · subst e; exact h2 rfl
      obtain ⟨ra, rb, e0⟩ : ∃ a b, rs = [a, b] := by
        match rs, h2 with
        | [a, b], _ => exact ⟨a, b, rfl⟩
      subst e0
      obtain ⟨q0, at0, hq0⟩ := S3.get (i := 0) (r := ra) rfl
      obtain ⟨q1, at1, hq1⟩ := S3.get (i := 1) (r := rb) rfl
      have hra4 := hr4 ra (by simp)
      rw [decide_eq_true (by show (((2 : Nat) : Int)) = 2; rfl)]
      refine iteF ?_
      have two : BarD ns m [ra, rb] ↔ (∀ x ∈ ra, x ∉ rb) ∧ m < ra.length ∧ m < rb.length := by
        constructor
        · rintro ⟨_, ⟨a', e, h⟩ | ⟨a', b', e, h⟩⟩
          · cases e
          · cases e; exact h
        · intro h
          exact ⟨hR, .inr ⟨_, _, rfl, h⟩⟩
      refine ⟨_, rfl, l, _, 0, _, rfl, rfl, hl3, at0, q0, rfl, ⟨_, hq0⟩, fun D2 nD2 => ?_⟩
      refine lc_list (K := K) (a := q0) (xs := ra.map V.int) (fun i H5 => Same H3 H5 ∧ H5 D2 = some (.lst (((ra.take i).map fun x => decide (x ∈ rb)).map V.bl))) ⟨same_upd nD2, upd_same⟩ (fun i H5 _ h => h.1.seq hq0) (fun i v H5 hv h => ?_) (fun H5 h => ?_)
      · obtain ⟨s5, eD5⟩ := h
        rw [List.getElem?_map] at hv
        obtain ⟨y, hy, rfl⟩ := Option.map_eq_some_iff.mp hv
        have hi : i < ra.length := (List.getElem?_eq_some_iff.mp hy).1
        refine ⟨rfl, _, rfl, _, rfl, l, _, 1, _, rfl, rfl, s5.seq hl3, at1, q1, _, rfl, .inl (s5.seq hq1), rfl, flat_ints _, _, eD5, ?_, same_mut s5 nD2, ?_⟩
        · rw [List.length_map, List.length_map, List.length_take]
          exact szl (by omega)
        · rw [upd_same, inV_ints, List.take_add_one, hy, List.map_append, List.map_append]
          rfl
      obtain ⟨s5, eD5⟩ := h
      rw [List.length_map, List.take_length] at eD5
      refine ⟨D2, _, rfl, .of eD5, _, rfl, ?_⟩
      have ha := any_in (a := ra) (b := rb)
      generalize (ra.map fun x => decide (x ∈ rb)).any id = bany at ha
      cases bany with
      | true => exact iteT (no _ (sm.trans s5) fun z => Bool.noConfusion (ha.mpr (two.mp z).1))
      | false =>
        refine iteF ?_
        have S5 := S3.same s5
        refine ⟨_, rfl, l, rfl, ⟨_, S5.at_⟩, fun D3 nD3 => ?_⟩
        refine lc_list (K := K) (a := l) (xs := ps.map V.ref) (fun i H6 => Same H5 H6 ∧ H6 D3 = some (.lst (((([ra, rb].take i).map fun r => ((r.length : Nat) : Int))).map V.int))) ⟨same_upd nD3, upd_same⟩ (fun i H6 _ h => h.1.seq S5.at_) (fun i v H6 hv h => ?_) (fun H6 h => ?_)
        · obtain ⟨s6, eD6⟩ := h
          rw [List.getElem?_map] at hv
          obtain ⟨p6, hp6, rfl⟩ := Option.map_eq_some_iff.mp hv
          have hi : i < [ra, rb].length := by rw [← S.len]; exact (List.getElem?_eq_some_iff.mp hp6).1
          have hr := S5.row i p6 _ hp6 (List.getElem?_eq_getElem hi)
          refine ⟨rfl, _, rfl, p6, _, rfl, .inl (s6.seq hr), _, eD6, ?_, same_mut s6 nD3, ?_⟩
          · rw [List.length_map, List.length_map, List.length_take]
            exact szl (by omega)
          · rw [upd_same, List.take_add_one, List.getElem?_eq_getElem hi, List.map_append, List.map_append, List.length_map]
            rfl
        obtain ⟨s6, eD6⟩ := h
        rw [List.length_map, S.len, List.take_length] at eD6
        refine ⟨D3, [(ra.length : Int), (rb.length : Int)], rfl, .of eD6, by simp, fun mn hmn hle => ⟨_, rfl, _, _, rfl, rfl, q _ _ ((sm.trans s5).trans s6) ?_⟩⟩
        rw [decide_eq_true_iff]
        show mn > (m : Int) ↔ BarD ns m [ra, rb]
        rw [two]
        have l1 := hle _ (show (ra.length : Int) ∈ _ by simp)
        have l2 := hle _ (show (rb.length : Int) ∈ _ by simp)
        constructor
        · intro z; exact ⟨ha.mp rfl, by omega, by omega⟩
        · rintro ⟨_, z1, z2⟩
          simp only [List.mem_cons, List.not_mem_nil, or_false] at hmn
          omega
end
end Sb
namespace Sb
open PySem PySem.Spec PyProof.Rows L2
/-! ### lists of lists of any numbers compared -/
abbrev dII (rs : List (List Int)) : PyData := .list (rs.map dI)
theorem can_dI (ns : List Int) : PyData.canLay0 (dI ns) = true := by
  unfold PyData.canLay0; exact canI _
theorem canII : ∀ rs : List (List Int), PyData.canLayAll0 (rs.map dI) = true
  | [] => by unfold PyData.canLayAll0; rfl
  | n :: r => by
    rw [List.map_cons]
    unfold PyData.canLayAll0
    rw [canII r, can_dI n]; rfl
theorem dep_dI (ns : List Int) : PyData.depth (dI ns) ≤ 3 := by
  have h := depI ns
  unfold PyData.depth
  omega
theorem depII : ∀ rs : List (List Int), PyData.depthAll (rs.map dI) ≤ 3
  | [] => by unfold PyData.depthAll; exact Nat.zero_le _
  | n :: r => by
    rw [List.map_cons]
    unfold PyData.depthAll
    exact Nat.max_le.mpr ⟨dep_dI n, depII r⟩
theorem shapedII (rs : List (List Int)) : SeqAt.shaped (dII rs) = true := by
  unfold SeqAt.shaped
  rw [Bool.and_eq_true_iff]
  refine ⟨by unfold PyData.canLay0; exact canII rs, decide_eq_true ?_⟩
  have h := depII rs
  unfold PyData.depth
  omega
theorem eqvII : ∀ a b : List (List Int), PyData.eqvAll (a.map dI) (b.map dI) = decide (a = b)
  | [], [] => by unfold PyData.eqvAll; rfl
  | [], y :: b => by rw [List.map_cons]; unfold PyData.eqvAll; rfl
  | x :: a, [] => by rw [List.map_cons]; unfold PyData.eqvAll; rfl
  | x :: a, y :: b => by
    rw [List.map_cons, List.map_cons]
    unfold PyData.eqvAll
    rw [eqvII a b, eqv_dI, Bool.eq_iff_iff]
    simp
theorem dpAll_rowsI {K : PySem.W.Frag} {H : Hp} : ∀ (ps : List Addr) (rs : List (List Int)), ps.length = rs.length → (∀ (i : Nat) (q : Addr) (r : List Int), ps[i]? = some q → rs[i]? = some r → SqL K H q (r.map V.int)) → DpAll K H (ps.map V.ref) (rs.map dI)
  | [], [], _, _ => .nil
  | [], _ :: _, h, _ => by simp at h
  | _ :: _, [], h, _ => by simp at h
  | p :: ps, r :: rs, h, f => .cons (dp_ints (f 0 p r rfl rfl)) (dpAll_rowsI ps rs (by simpa using h) fun i q r' h1 h2 => f (i + 1) q r' (by simpa using h1) (by simpa using h2))
theorem SeesI.dp {K : PySem.W.Frag} {H : Hp} {p : Addr} {ps : List Addr} {rs : List (List Int)} (S : SeesI K H p ps rs) : Dp K H (.ref p) (dII rs) := .lst S.at_ (dpAll_rowsI ps rs S.len S.row)
theorem eq_rowsI {K : PySem.W.Frag} {H : Hp} {a b : Addr} {ps qs : List Addr} {x y : List (List Int)} {Q : VK} (ha : SeesI K H a ps x) (hb : SeesI K H b qs y) (q : Q (.bl (decide (x = y))) H) : rEqD K (.ref a) (.ref b) H Q :=
  ⟨dII x, dII y, ha.dp, hb.dp, shapedII x, shapedII y, by unfold PyData.eqv; rw [eqvII]; exact q⟩
/-- what stands outside some places stays -/
def Keeps (A : List Addr) (H H' : Hp) : Prop := ∀ b u, b ∉ A → H b = some u → H' b = some u
theorem Keeps.of {A : List Addr} {H H' : Hp} (s : Same H H') : Keeps A H H' := fun b u _ h => s b u h
theorem Keeps.trans {A : List Addr} {H H' H'' : Hp} (s : Keeps A H H') (t : Keeps A H' H'') : Keeps A H H'' := fun b u hb h => t b u hb (s b u hb h)
theorem Keeps.upd {A : List Addr} {H H' : Hp} {p : Addr} {o : HO} (s : Keeps A H H') (h : p ∈ A) : Keeps A H (upd H' p o) := fun b u hb e => by
  rw [upd_ne fun (z : b = p) => hb (by rw [z]; exact h)]
  exact s b u hb e
theorem Keeps.same {A : List Addr} {H0 H H' : Hp} (s : Same H0 H) (k : Keeps A H H') (h : ∀ a ∈ A, H0 a = none) : Same H0 H' := fun b u e => k b u (fun z => by rw [h b z] at e; cases e) (s b u e)
theorem dec_bl (a b : Bool) : decide (V.bl a = V.bl b) = decide (a = b) := by
  rw [Bool.eq_iff_iff, decide_eq_true_iff, decide_eq_true_iff]
  constructor
  · intro h; injection h
  · intro h; rw [h]
section
variable {P : Program} {w : World} {K : PySem.W.Frag} {mg : Str → Option Value} {base : Heap}
/-! ### _law_ring_right -/
def spRingRight (K : PySem.W.Frag) : Sp := fun vs H Q _ => ∃ (a l : Addr) (ns : List Nat) (r : List Int) (m : Nat), vs = [.ref a, .int (m : Int), .ref l] ∧ SqL K H a (iv ns) ∧ Good ns ∧ ns.length ≤ 100 ∧ SqL K H l (r.map V.int) ∧ r.length ≤ 4000 ∧ ∀ H', Same H H' → Q (.bl true) H'
abbrev n_law_ring_right : List Str := ["_law_boxes_here", "_law_most", "_law_ring_here", "_law_handed", "_law_answer", "_law_due"]
theorem sc_law_ring_right : FnScope n_law_ring_right ["_law_boxes_here", "_law_most", "_law_ring_here"] (defScope s_law_ring_right) := ⟨rfl, rfl, rfl, by decide +kernel, rfl, by decide +kernel, by decide +kernel⟩
theorem ok_law_ring_right (T : Tx K mg) : FnOk P w K mg base CX0 5 T.law_ring_right.f T.law_ring_right.fd ["_law_boxes_here", "_law_most", "_law_ring_here"] (spRingRight K) := by
  refine T.law_ring_right.F.ok sc_law_ring_right (fun vs H Q E h => ?_) (fun cdv A outer s H vs Q E hr h => ?_)
  · obtain ⟨a, l, ns, r, m, rfl, _⟩ := h
    rfl
  · obtain ⟨a, l, ns, r, m, rfl, hA, g, hn, hL, hr4, q⟩ := h
    refine ⟨_, (pss_cons (ps_set (i := 3) sc_law_ring_right.nd rfl (.inl rfl) (pe_callTy call_list_of (by rfl) T.m_list (by decide +kernel) (pa_cons (pv 2) pa_nil)))
    (pss_cons (ps_set (i := 4) sc_law_ring_right.nd rfl (.inl rfl) (pe_make (T.Long.mak T.Long_init) (ok_Long_init T) (hr.mono (by decide)) (by rfl) T.Long.g T.Long_init.b .nil pass0 (pa_cons (pv 3) pa_nil)))
    (pss_cons (ps_expr (pe_bm PySem.F.plainAttrs_list PySem.F.slot_list_append PySem.F.type_list_append mt_append (pv 3) (pa_cons pe_int pa_nil)))
    (C8.pss_cut (ps_set (i := 5) sc_law_ring_right.nd rfl (.inl rfl) (pe_and (pe_df T.law_is_ring (ok_law_is_ring T) (hr.mono (by decide)) (pa_cons (pv 0) (pa_cons (pv 2) pa_nil))) (pe_one (pe_cmpR op_gt (pe_callB call_len_seq (by rfl) T.m_len (by decide +kernel) (pa_cons (pv 2) pa_nil)) (pv 1) (nomark _)))))
    (pss_one (ps_ret (pe_and (pe_cmpR (op_eqD hr.units) (pe_fld (pv 4) rfl) (pv 2) (nomark _)) (pe_one (pe_df T.law_says (ok_law_says T) (hr.mono (by decide)) (pa_cons (pe_meth (pv 4) T.Long.cl T.Long_shows.meth (ok_Long_shows T) (hr.mono (by decide)) T.Long_shows.b .nil pass0 (pa_cons (pv 0) (pa_cons (pv 1) pa_nil))) (pa_cons (pv 5) pa_nil))))))))))), ?_⟩
    refine ⟨_, rfl, l, _, rfl, .inl hL, fun p np => ?_⟩
    have s1 := same_upd (o := .lst (r.map V.int)) np
    refine ⟨_, rfl, fun x dx nx ndx hne => ⟨x, p, dx, r.map V.int, rfl, upd_same, .of ?_, fun l2 nl2 => ⟨rfl, ?_⟩⟩⟩
    · have npx : p ≠ x := fun e => by rw [← e, upd_same] at nx; cases nx
      have npd : p ≠ dx := fun e => by rw [← e, upd_same] at ndx; cases ndx
      rw [upd_ne npx, upd_ne npd, upd_same]
    have npx : p ≠ x := fun e => by rw [← e, upd_same] at nx; cases nx
    have npd : p ≠ dx := fun e => by rw [← e, upd_same] at ndx; cases ndx
    have sx : Same (upd H p (.lst (r.map V.int))) (upd (upd (upd H p (.lst (r.map V.int))) dx (.own x)) x (.ins T.Long.C dx [])) := fun b u hb => by
      rw [upd_ne (ne_of_none hb nx), upd_ne (ne_of_none hb ndx)]
      exact hb
    have s2 : Same (upd H p (.lst (r.map V.int))) (upd (upd (upd (upd (upd H p (.lst (r.map V.int))) dx (.own x)) x (.ins T.Long.C dx [])) l2 (.lst (r.map V.int))) x (.ins T.Long.C dx [("ring", .ref l2)])) := same_mut (sx.trans (same_upd nl2)) nx
    have nl2x : l2 ≠ x := fun e => by rw [e, upd_same] at nl2; cases nl2
    have e2 : (upd (upd (upd (upd (upd H p (.lst (r.map V.int))) dx (.own x)) x (.ins T.Long.C dx [])) l2 (.lst (r.map V.int))) x (.ins T.Long.C dx [("ring", .ref l2)])) l2 = some (.lst (r.map V.int)) := by rw [upd_ne nl2x, upd_same]
    have ex : (upd (upd (upd (upd (upd H p (.lst (r.map V.int))) dx (.own x)) x (.ins T.Long.C dx [])) l2 (.lst (r.map V.int))) x (.ins T.Long.C dx [("ring", .ref l2)])) x = some (.ins T.Long.C dx [("ring", .ref l2)]) := upd_same
    have ep := s2 _ _ (upd_same (H := H) (a := p) (o := .lst (r.map V.int)))
    have npl : p ≠ l2 := ne_of_none (sx _ _ (upd_same (H := H) (a := p) (o := .lst (r.map V.int)))) nl2
    generalize upd (upd (upd (upd (upd H p (.lst (r.map V.int))) dx (.own x)) x (.ins T.Long.C dx [])) l2 (.lst (r.map V.int))) x (.ins T.Long.C dx [("ring", .ref l2)]) = H2 at *
    refine ⟨_, rfl, .inl ⟨rfl, _, .of ep⟩, p, _, _, rfl, rfl, ep, by rw [List.length_map]; exact szl (by omega), ?_⟩
    have s3 : Same H (upd H2 p (.lst (r.map V.int ++ [.int 0]))) := same_mut (s1.trans s2) np
    have e3 : (upd H2 p (.lst (r.map V.int ++ [.int 0]))) l2 = some (.lst (r.map V.int)) := by rw [upd_ne npl.symm]; exact e2
    have ex3 : (upd H2 p (.lst (r.map V.int ++ [.int 0]))) x = some (.ins T.Long.C dx [("ring", .ref l2)]) := by rw [upd_ne npx.symm]; exact ex
    generalize upd H2 p (.lst (r.map V.int ++ [.int 0])) = H3 at *
    refine ⟨fun σ' H5 => Same H3 H5 ∧ ∃ b : Bool, σ' = [some (.ref a), some (.int (m : Int)), some (.ref l), some (.ref p), some (.ref x), some (.bl b)] ∧ (b = true ↔ RingI ns r ∧ m < r.length), ?_, ?_⟩
    · refine ⟨_, rfl, _, rfl, a, l, ns, r, rfl, s3.seq hA, s3.seq hL, g, hn, hr4, fun b H4 s4 hb => ⟨b, rfl, ite2 (fun e => ?_) (fun e => ?_)⟩⟩
      · refine ⟨_, rfl, l, _, rfl, .inl ((s3.trans s4).seq hL), _, rfl, _, _, rfl, rfl, s4, _, rfl, ?_⟩
        rw [decide_eq_true_iff, List.length_map]
        constructor
        · intro h; exact ⟨hb.mp e, by omega⟩
        · rintro ⟨_, h⟩; omega
      · exact ⟨s4, false, rfl, fun z => Bool.noConfusion z, fun z => absurd (hb.mpr z.1) e⟩
    · rintro σ' H5 ⟨s5, b, rfl, hb⟩
      have ex5 := s5 _ _ ex3
      have e5 := s5 _ _ e3
      have s35 := s3.trans s5
      refine ⟨_, rfl, x, T.Long.C, dx, _, _, rfl, ex5, T.Long.cl, T.n_Long_ring, lk_ring, _, rfl, eq_ii (x := r) (y := r) (.of e5) (s35.seq hL) ⟨_, rfl, ?_⟩⟩
      rw [decide_eq_true rfl]
      refine iteT ⟨_, rfl, x, dx, _, rfl, ex5, lk_not (by decide +kernel), _, rfl, _, rfl, x, a, l2, dx, ns, r, m, rfl, ex5, .of e5, s35.seq hA, hn, hr4, fun b1 H6 s6 hb1 => ⟨_, rfl, b1, b, rfl, ?_⟩⟩
      rw [decide_eq_true (bool_iff hb1 hb)]
      exact q _ (s35.trans s6)
/-! ### _law_rings_right -/
def spRingsRight (K : PySem.W.Frag) : Sp := fun vs H Q _ => ∃ (a l : Addr) (ps : List Addr) (ns : List Nat) (rs : List (List Int)) (m : Nat), vs = [.ref a, .int (m : Int), .ref l] ∧ SeesI K H l ps rs ∧ SqL K H a (iv ns) ∧ Good ns ∧ ns.length ≤ 100 ∧ rs.length ≤ 1000 ∧ (∀ r ∈ rs, r.length ≤ 4000) ∧ ∀ H', Same H H' → Q (.bl true) H'
abbrev n_law_rings_right : List Str := ["_law_boxes_here", "_law_most", "_law_several", "_law_handed", "_law_answer", "_law_ring_here", "_law_due"]
theorem sc_law_rings_right : FnScope n_law_rings_right ["_law_boxes_here", "_law_most", "_law_several"] (defScope s_law_rings_right) := ⟨rfl, rfl, rfl, by decide +kernel, rfl, by decide +kernel, by decide +kernel⟩
theorem ok_law_rings_right (T : Tx K mg) : FnOk P w K mg base CX0 5 T.law_rings_right.f T.law_rings_right.fd ["_law_boxes_here", "_law_most", "_law_several"] (spRingsRight K) := by
  refine T.law_rings_right.F.ok sc_law_rings_right (fun vs H Q E h => ?_) (fun cdv A outer s H vs Q E hr h => ?_)
  · obtain ⟨a, l, ps, ns, rs, m, rfl, _⟩ := h
    rfl
  · obtain ⟨a, l, ps0, ns, rs, m, rfl, S, hA, g, hn, hrs, hr4, q⟩ := h
    refine ⟨_, (pss_cons (ps_setLc (i := 3) (own := [("_law_ring_here", 5)]) (g := gName 5) rfl sc_law_rings_right.nd rfl rfl (sw_true rfl rfl rfl (by decide +kernel)) (pi_list (pv 2)) (blkOk_by (own := [("_law_ring_here", 5)]) (N := n_law_rings_right) (sc := defScope s_law_rings_right) (by decide +kernel)) (fun _ _ _ _ _ => (pg_name (i := 5) sc_law_rings_right.nd rfl (.inl rfl))) (fun _ _ _ _ _ => pts_nil) (fun _ _ _ _ _ => (pe_callTy (call_list_ofK (K := K) rfl) (by rfl) T.m_list (by decide +kernel) (pa_cons (pv 5) pa_nil))))
    (pss_cons (ps_set (i := 4) sc_law_rings_right.nd rfl (.inl rfl) (pe_make (T.Barred.mak T.Barred_init) (ok_Barred_init T) (hr.mono (by decide)) (by rfl) T.Barred.g T.Barred_init.b .nil pass0 (pa_cons (pv 3) pa_nil)))
    (pss_cons (ps_for PassesOwn.never rfl (pi_list (pv 3)) (pg_name (i := 5) sc_law_rings_right.nd rfl (.inl rfl))
      (pss_one (ps_expr (pe_bm PySem.F.plainAttrs_list PySem.F.slot_list_append PySem.F.type_list_append mt_append (pv 5) (pa_cons pe_int pa_nil)))))
    (pss_cons (ps_expr (pe_bm PySem.F.plainAttrs_list PySem.F.slot_list_append PySem.F.type_list_append mt_append (pv 3) (pa_cons (pe_lst pa_nil) pa_nil)))
    (pss_cons (ps_set (i := 6) sc_law_rings_right.nd rfl (.inl rfl) (pe_df T.law_barred (ok_law_barred T) (hr.mono (by decide)) (pa_cons (pv 0) (pa_cons (pv 1) (pa_cons (pv 2) pa_nil)))))
    (pss_one (ps_ret (pe_and (pe_cmpR (op_eqD hr.units) (pe_fld (pv 4) rfl) (pv 2) (nomark _)) (pe_one (pe_df T.law_says (ok_law_says T) (hr.mono (by decide)) (pa_cons (pe_meth (pv 4) T.Barred.cl T.Barred_shows.meth (ok_Barred_shows T) (hr.mono (by decide)) T.Barred_shows.b .nil pass0 (pa_cons (pv 0) (pa_cons (pv 1) pa_nil))) (pa_cons (pv 6) pa_nil)))))))))))), ?_⟩
    refine ⟨_, rfl, l, rfl, ⟨_, S.at_⟩, fun D nD => ?_⟩
    refine lc_list (K := K) (a := l) (xs := ps0.map V.ref) (fun i H3 => ∃ ps, Same H H3 ∧ H3 D = some (.lst (ps.map V.ref)) ∧ RowsI H H3 ps (rs.take i) ∧ D ∉ ps) ⟨[], same_upd nD, upd_same, RowsI.nil, by simp⟩ (fun i H3 _ h => ?_) (fun i v H3 hv h => ?_) (fun H3 h => ?_)
    · obtain ⟨ps, sm, _⟩ := h
      exact sm.seq S.at_
    · obtain ⟨ps, sm, eD, R, hD⟩ := h
      rw [List.getElem?_map] at hv
      obtain ⟨q0, hq0, rfl⟩ := Option.map_eq_some_iff.mp hv
      have hi : i < rs.length := by rw [← S.len]; exact (List.getElem?_eq_some_iff.mp hq0).1
      have hr := S.row i q0 _ hq0 (List.getElem?_eq_getElem hi)
      refine ⟨rfl, _, rfl, q0, _, rfl, .inl (sm.seq hr), fun p np => ?_⟩
      have s2 := same_upd (o := .lst ((rs[i]).map V.int)) np
      have npp : p ∉ ps := fun h => by
        obtain ⟨r, _, e⟩ := R.at h
        rw [np] at e
        cases e
      have npD : p ≠ D := fun e => by rw [e, eD] at np; cases np
      refine ⟨_, s2 _ _ eD, ?_, ps ++ [p], same_mut (sm.trans s2) nD, ?_, ?_, ?_⟩
      · rw [List.length_map, R.len, List.length_take]
        exact szl (by omega)
      · rw [upd_same, List.map_append]; rfl
      · rw [List.take_add_one, List.getElem?_eq_getElem hi]
        have R2 := (R.same s2).snoc (p := p) (r := rs[i]) upd_same (sm.free np) npp
        exact R2.moved fun q hq => upd_ne fun e => by
          subst e
          rcases List.mem_append.mp hq with y | y
          · exact hD y
          · simp at y; exact npD y.symm
      · intro h
        rcases List.mem_append.mp h with y | y
        · exact hD y
        · simp at y; exact npD y.symm
    obtain ⟨qs, sm, eD, R, hD⟩ := h
    rw [List.length_map, S.len, List.take_length] at R
    refine ⟨_, rfl, fun x dx nx ndx hne => ?_⟩
    have sx : Same H3 (upd (upd H3 dx (.own x)) x (.ins T.Barred.C dx [])) := fun b u hb => by
      rw [upd_ne (ne_of_none hb nx), upd_ne (ne_of_none hb ndx)]
      exact hb
    refine ⟨x, dx, D, qs, rs, rfl, upd_same, (R.seesI eD).same sx, hrs, fun H4 l2 ps2 ex2 k2 nl2 el2 R2 hl2 => ⟨rfl, ?_⟩⟩
    have s34 : Same H3 H4 := fun b u hb => k2 b u (ne_of_none hb nx) (sx _ _ hb)
    have eD4 := s34 _ _ eD
    have R4 := R.same s34
    have out : ∀ b ∈ qs, H3 b ≠ none := fun b hb z => by
      obtain ⟨r, _, e⟩ := R.at hb
      rw [z] at e
      cases e
    have nxq : x ∉ D :: qs := fun z => by
      rcases List.mem_cons.mp z with z | z
      · rw [z, eD] at nx; cases nx
      · exact out x z nx
    have nlq : l2 ∉ D :: qs := fun z => by
      have nl3 := sx.free nl2
      rcases List.mem_cons.mp z with z | z
      · rw [z, eD] at nl3; cases nl3
      · exact out l2 z nl3
    have npq : ∀ b ∈ ps2, b ∉ D :: qs := fun b hb z => by
      have nl3 := sx.free (R2.new b hb)
      rcases List.mem_cons.mp z with z | z
      · rw [z, eD] at nl3; cases nl3
      · exact out b z nl3
    refine ⟨_, rfl, D, rfl, ⟨_, .of eD4⟩, ?_⟩
    refine for_list (K := K) (a := D) (xs := qs.map V.ref) (fun j σ H5 => ∃ w5, σ = [some (.ref a), some (.int (m : Int)), some (.ref l), some (.ref D), some (.ref x), w5, none] ∧ Keeps (D :: qs) H4 H5 ∧ H5 D = some (.lst (qs.map V.ref)) ∧ ∀ (t : Nat) (b : Addr) (r : List Int), j ≤ t → qs[t]? = some b → rs[t]? = some r → H5 b = some (.lst (r.map V.int))) ⟨_, rfl, .of (.refl _), eD4, fun t b r _ h1 h2 => R4.row t b r h1 h2⟩ (fun j σ H5 _ h => ?_) (fun j v σ H5 hv hP => ?_) (fun σ H5 hP => ?_)
    · obtain ⟨_, _, _, e, _⟩ := h
      exact .of e
    · obtain ⟨w5, rfl, k5, eD5, row5⟩ := hP
      rw [List.getElem?_map] at hv
      obtain ⟨b, hb, rfl⟩ := Option.map_eq_some_iff.mp hv
      have hj : j < rs.length := by rw [← R.len]; exact (List.getElem?_eq_some_iff.mp hb).1
      have hbq : b ∈ qs := List.mem_of_getElem? hb
      have eb := row5 j b _ (Nat.le_refl _) hb (List.getElem?_eq_getElem hj)
      have nbD : b ≠ D := fun z => hD (by rw [← z]; exact hbq)
      refine ⟨_, rfl, .inl ⟨rfl, _, .of eb⟩, b, _, _, rfl, rfl, eb, by rw [List.length_map]; have := hr4 _ (List.getElem_mem hj); exact szl (by omega), ?_⟩
      refine ⟨_, rfl, k5.upd (List.mem_cons_of_mem _ hbq), by rw [upd_ne nbD.symm]; exact eD5, fun t b' r ht h1 h2 => ?_⟩
      have nbb : b' ≠ b := fun z => by
        subst z
        have := nd_ix R.nd h1 hb
        omega
      rw [upd_ne nbb]
      exact row5 t b' r (by omega) h1 h2
    · obtain ⟨w5, rfl, k5, eD5, row5⟩ := hP
      refine ⟨_, rfl, .inl ⟨rfl, _, .of eD5⟩, Nat.zero_le _, fun pe npe => ?_⟩
      have eD6 := (same_upd (o := .lst []) npe) _ _ eD5
      refine ⟨D, _, _, rfl, rfl, eD6, by rw [List.length_map, R.len]; exact szl (by omega), ?_⟩
      have k6 : Keeps (D :: qs) H4 (upd (upd H5 pe (.lst [])) D (.lst (qs.map V.ref ++ [.ref pe]))) := (k5.trans (.of (same_upd npe))).upd List.mem_cons_self
      generalize upd (upd H5 pe (.lst [])) D (.lst (qs.map V.ref ++ [.ref pe])) = H6 at *
      have s6 : Same H H6 := k6.same (sm.trans s34) fun b hb => by
        rcases List.mem_cons.mp hb with rfl | hb
        · exact nD
        · exact R.new b hb
      have ex6 := k6 _ _ nxq ex2
      have S6 : SeesI K H6 l2 ps2 rs := ⟨.of (k6 _ _ nlq el2), R2.len, fun i b r h1 h2 => .of (k6 _ _ (npq b (List.mem_of_getElem? h1)) (R2.row i b r h1 h2))⟩
      refine ⟨_, rfl, _, rfl, _, rfl, a, l, ps0, ns, rs, m, rfl, S.same s6, s6.seq hA, g, hn, hrs, hr4, fun b H7 s7 hb => ?_⟩
      have ex7 := s7 _ _ ex6
      have S7 := S6.same s7
      have s67 := s6.trans s7
      refine ⟨_, rfl, x, T.Barred.C, dx, _, _, rfl, ex7, T.Barred.cl, T.n_Barred_rings, lk_rings, _, rfl, eq_rowsI (x := rs) (y := rs) S7 (S.same s67) ⟨_, rfl, ?_⟩⟩
      rw [decide_eq_true rfl]
      refine iteT ⟨_, rfl, x, dx, _, rfl, ex7, lk_not (by decide +kernel), _, rfl, _, rfl, x, a, dx, l2, ps2, ns, rs, m, rfl, ex7, S7, s67.seq hA, g, hn, hrs, hr4, fun b1 H8 s8 hb1 => ⟨_, rfl, b1, b, rfl, ?_⟩⟩
      rw [decide_eq_true (bool_iff hb1 hb)]
      exact q _ (s67.trans s8)
/-! ### _law_pair_right -/
theorem shaped_pair (i j : Int) : SeqAt.shaped (.tuple [.int i, .int j]) = true := by
  unfold SeqAt.shaped
  rw [Bool.and_eq_true_iff]
  constructor
  · unfold PyData.canLay0 PyData.canLayAll0
    rw [show PyData.canLay0 (.int i) = true by unfold PyData.canLay0; rfl]
    unfold PyData.canLayAll0
    rw [show PyData.canLay0 (.int j) = true by unfold PyData.canLay0; rfl]
    unfold PyData.canLayAll0
    rfl
  · refine decide_eq_true ?_
    have h := depI [i, j]
    unfold PyData.depth
    have h : PyData.depthAll [.int i, .int j] ≤ 1 := h
    omega
def spPairRight (K : PySem.W.Frag) : Sp := fun vs H Q _ => ∃ (a : Addr) (ns : List Nat) (i j : Int) (m : Nat), vs = [.ref a, .int (m : Int), .int i, .int j] ∧ SqL K H a (iv ns) ∧ Good ns ∧ 1 ≤ ns.length ∧ ns.length ≤ 100 ∧ ∀ H', Same H H' → Q (.bl true) H'
abbrev n_law_pair_right : List Str := ["_law_boxes_here", "_law_most", "_law_one", "_law_other", "_law_due", "_law_answer"]
theorem sc_law_pair_right : FnScope n_law_pair_right ["_law_boxes_here", "_law_most", "_law_one", "_law_other"] (defScope s_law_pair_right) := ⟨rfl, rfl, rfl, by decide +kernel, rfl, by decide +kernel, by decide +kernel⟩
theorem ok_law_pair_right (T : Tx K mg) : FnOk P w K mg base CX0 6 T.law_pair_right.f T.law_pair_right.fd ["_law_boxes_here", "_law_most", "_law_one", "_law_other"] (spPairRight K) := by
  refine T.law_pair_right.F.ok sc_law_pair_right (fun vs H Q E h => ?_) (fun cdv A outer s H vs Q E hr h => ?_)
  · obtain ⟨a, ns, i, j, m, rfl, _⟩ := h
    rfl
  · obtain ⟨a, ns, i, j, m, rfl, hA, g, hn1, hn, q⟩ := h
    refine ⟨_, (C8.pss_cut (ps_set (i := 4) sc_law_pair_right.nd rfl (.inl rfl) (pe_and (pe_chain op_le op_lt pe_int (pv 2) (pe_callB call_len_seq (by rfl) T.m_len (by decide +kernel) (pa_cons (pv 0) pa_nil))) (pe_one (pe_chain op_le op_lt pe_int (pv 3) (pe_callB call_len_seq (by rfl) T.m_len (by decide +kernel) (pa_cons (pv 0) pa_nil))))))
    (C8.pss_cut (ps_if (pt_val (pv 4))
      (pss_one (ps_set (i := 4) sc_law_pair_right.nd rfl (.inl rfl) (pe_cmpR op_le (pe_df T.law_longest (ok_law_longest T) (hr.mono (by decide)) (pa_cons (pe_df T.law_changed (ok_law_changed T) (hr.mono (by decide)) (pa_cons (pv 0) (pa_cons (pv 2) (pa_cons (pv 3) pa_nil)))) pa_nil)) (pv 1) (nomark _))))
      pss_nil)
    (pss_cons (ps_set (i := 5) sc_law_pair_right.nd rfl (.inl rfl) (pe_make (T.Mend.mak T.Mend_init) (ok_Mend_init T) (hr.mono (by decide)) (by rfl) T.Mend.g T.Mend_init.b .nil pass0 (pa_cons (pv 2) (pa_cons (pv 3) pa_nil))))
    (pss_cons (ps_if (pt_cmpR (op_neD hr.units) (pe_tup (pa_cons (pe_fld (pv 5) rfl) (pa_cons (pe_fld (pv 5) rfl) pa_nil))) (pe_tup (pa_cons (pv 2) (pa_cons (pv 3) pa_nil))) (nomark _))
      (pss_one (ps_ret pe_bl))
      pss_nil)
    (pss_one (ps_ret (pe_df T.law_says (ok_law_says T) (hr.mono (by decide)) (pa_cons (pe_meth (pv 5) T.Mend.cl T.Mend_shows.meth (ok_Mend_shows T) (hr.mono (by decide)) T.Mend_shows.b .nil pass0 (pa_cons (pv 0) (pa_cons (pv 1) pa_nil))) (pa_cons (pv 4) pa_nil))))))))), ?_⟩
    refine ⟨fun σ' H1 => H1 = H ∧ ∃ b : Bool, σ' = [some (.ref a), some (.int (m : Int)), some (.int i), some (.int j), some (.bl b), none] ∧ (b = true ↔ (0 ≤ i ∧ i < (ns.length : Int)) ∧ (0 ≤ j ∧ j < (ns.length : Int))), ?_, ?_⟩
    · refine ⟨_, rfl, 0, i, rfl, rfl, _, rfl, ite2 (fun e1 => ?_) (fun e1 => ⟨_, rfl, rfl, false, rfl, fun z => Bool.noConfusion z, fun z => absurd (decide_eq_true z.1.1) e1⟩)⟩
      have h1 : 0 ≤ i := of_decide_eq_true e1
      refine ⟨_, rfl, a, _, rfl, .inl hA, i, _, rfl, rfl, _, rfl, ite2 (fun e2 => ?_) (fun e2 => ⟨rfl, false, rfl, fun z => Bool.noConfusion z, fun z => absurd (decide_eq_true (by rw [iv_len]; exact z.1.2)) e2⟩)⟩
      have h2 := of_decide_eq_true e2
      rw [iv_len] at h2
      refine ⟨_, rfl, 0, j, rfl, rfl, _, rfl, ite2 (fun e3 => ?_) (fun e3 => ⟨rfl, false, rfl, fun z => Bool.noConfusion z, fun z => absurd (decide_eq_true z.2.1) e3⟩)⟩
      have h3 : 0 ≤ j := of_decide_eq_true e3
      refine ⟨_, rfl, a, _, rfl, .inl hA, j, _, rfl, rfl, rfl, _, rfl, ?_⟩
      rw [decide_eq_true_iff, iv_len]
      exact ⟨fun z => ⟨⟨h1, h2⟩, ⟨h3, z⟩⟩, fun z => z.2.2⟩
    · rintro σ' H1 ⟨rfl, b, rfl, hb⟩
      refine ⟨fun σ' H2 => Same H1 H2 ∧ ∃ b : Bool, σ' = [some (.ref a), some (.int (m : Int)), some (.int i), some (.int j), some (.bl b), none] ∧ (b = true ↔ MendD ns m i j), ?_, ?_⟩
      · refine ⟨_, rfl, b, rfl, ite2 (fun e => ?_) (fun e => ?_)⟩
        · obtain ⟨⟨h1, h2⟩, ⟨h3, h4⟩⟩ := hb.mp e
          have ei : i = ((i.toNat : Nat) : Int) := by omega
          have ej : j = ((j.toNat : Nat) : Int) := by omega
          have hil : i.toNat < ns.length := by omega
          have hjl : j.toNat < ns.length := by omega
          refine ⟨_, rfl, _, rfl, _, rfl, a, ns, i.toNat, j.toNat, by rw [← ei, ← ej]; rfl, hA, hil, hjl, fun H2 p s2 np ep => ?_⟩
          refine ⟨p, exch ns i.toNat j.toNat, rfl, .of ep, exch_good g hil hjl, by rw [exch_len]; exact hn1, by rw [exch_len]; exact hn, fun H3 n s3 _ _ hm => ⟨_, rfl, _, _, rfl, rfl, s2.trans s3, _, rfl, ?_⟩⟩
          rw [decide_eq_true_iff]
          have hm' := hm m
          constructor
          · intro z; exact ⟨⟨h1, h2⟩, ⟨h3, h4⟩, hm'.mp (by omega)⟩
          · intro z
            have := hm'.mpr z.2.2
            omega
        · exact ⟨.refl _, b, rfl, fun z => absurd z e, fun z => absurd (hb.mpr ⟨z.1, z.2.1⟩) e⟩
      · rintro σ' H2 ⟨s2, b, rfl, hb2⟩
        refine ⟨_, rfl, _, rfl, fun x dx nx ndx hne => ⟨x, dx, .int i, .int j, rfl, upd_same, fun H3 e3 k3 => ⟨rfl, ?_⟩⟩⟩
        have s23 : Same H2 H3 := fun c u hc => by
          have hx : c ≠ x := ne_of_none hc nx
          rw [k3 c hx, upd_ne hx, upd_ne (ne_of_none hc ndx)]
          exact hc
        refine ⟨_, rfl, x, T.Mend.C, dx, _, _, rfl, e3, T.Mend.cl, T.n_Mend_one, lk_one, _, rfl, x, T.Mend.C, dx, _, _, rfl, e3, T.Mend.cl, T.n_Mend_other, lk_other, sz (by simp), fun t1 n1 => ⟨_, rfl, _, rfl, sz (by simp), fun t2 n2 => ?_⟩⟩
        have s4 := same_upd (o := .tup [V.int i, V.int j]) n1
        have s5 := same_upd (o := .tup [V.int i, V.int j]) n2
        refine ⟨.tuple [.int i, .int j], .tuple [.int i, .int j], .tup (.of (s5 _ _ upd_same)) (.cons (.int i) (.cons (.int j) .nil)), .tup (.of upd_same) (.cons (.int i) (.cons (.int j) .nil)), shaped_pair i j, shaped_pair i j, ?_⟩
        rw [SeqAt.eqv_refl _ (Bool.and_eq_true_iff.mp (shaped_pair i j)).1]
        refine ⟨_, rfl, iteF ?_⟩
        have e5 := s5 _ _ (s4 _ _ e3)
        have sA := ((s2.trans s23).trans s4).trans s5
        have lk : List.lookup ("shows" : Str) [(("one" : Str), V.int i), (("other" : Str), V.int j)] = none := by
          have h1 : (("shows" : Str) == ("one" : Str)) = false := by decide +kernel
          have h2 : (("shows" : Str) == ("other" : Str)) = false := by decide +kernel
          simp only [List.lookup, h1, h2]
        refine ⟨_, rfl, x, dx, _, rfl, e5, lk, _, rfl, _, rfl, x, a, dx, ns, i, j, m, rfl, e5, sA.seq hA, g, hn, fun b1 H8 s8 hb1 => ⟨_, rfl, b1, b, rfl, ?_⟩⟩
        rw [decide_eq_true (bool_iff hb1 hb2)]
        exact q _ (sA.trans s8)
end
end Sb
namespace Sb
open PySem PySem.Spec PyProof.Rows L2
/-! ### new things, one behind the other -/
theorem gen_upd {H H' : Hp} {p : Addr} {o : HO} (np : H p = none) (h : upd H p o = H') : Same H H' ∧ H' p = some o := by
  subst h
  exact ⟨same_upd np, upd_same⟩
/-- a short list of whole numbers -/
def IL (n : Nat) (H : Hp) (p : Addr) : Prop := ∃ r : List Int, H p = some (.lst (r.map V.int)) ∧ r.length ≤ n
theorem IL.same {n : Nat} {H H' : Hp} {p : Addr} (h : IL n H p) (s : Same H H') : IL n H' p := by
  obtain ⟨r, e, hl⟩ := h
  exact ⟨r, s _ _ e, hl⟩
theorem IL.le {n k : Nat} {H : Hp} {p : Addr} (h : IL n H p) (hk : n ≤ k) : IL k H p := by
  obtain ⟨r, e, hl⟩ := h
  exact ⟨r, e, by omega⟩
def AllIL (n : Nat) (H : Hp) (ps : List Addr) : Prop := ∀ p ∈ ps, IL n H p
theorem AllIL.same {n : Nat} {H H' : Hp} {ps : List Addr} (h : AllIL n H ps) (s : Same H H') : AllIL n H' ps := fun p hp => (h p hp).same s
theorem AllIL.rows {n : Nat} {H : Hp} : ∀ {ps : List Addr}, AllIL n H ps → ∃ rs : List (List Int), ps.length = rs.length ∧ (∀ (i : Nat) (q : Addr) (r : List Int), ps[i]? = some q → rs[i]? = some r → H q = some (.lst (r.map V.int))) ∧ ∀ r ∈ rs, r.length ≤ n
  | [], _ => ⟨[], rfl, fun i q r h _ => by simp at h, fun r h => by cases h⟩
  | p :: ps, h => by
    obtain ⟨r, e, hl⟩ := h p List.mem_cons_self
    obtain ⟨rs, h1, h2, h3⟩ := AllIL.rows fun q hq => h q (List.mem_cons_of_mem _ hq)
    refine ⟨r :: rs, by simp [h1], fun i q r' hq hr => ?_, fun r' hr' => ?_⟩
    · match i with
      | 0 =>
        cases hq
        cases hr
        exact e
      | i + 1 => exact h2 i q r' hq hr
    · rcases List.mem_cons.mp hr' with rfl | hr'
      · exact hl
      · exact h3 r' hr'
/-- a short list of such lists -/
def SL (n : Nat) (H : Hp) (p : Addr) : Prop := ∃ ps : List Addr, H p = some (.lst (ps.map V.ref)) ∧ AllIL n H ps ∧ ps.length ≤ 10
theorem SL.same {n : Nat} {H H' : Hp} {p : Addr} (h : SL n H p) (s : Same H H') : SL n H' p := by
  obtain ⟨ps, e, a, hl⟩ := h
  exact ⟨ps, s _ _ e, a.same s, hl⟩
theorem SL.sees {n : Nat} {K : PySem.W.Frag} {H : Hp} {p : Addr} (h : SL n H p) : ∃ ps rs, SeesI K H p ps rs ∧ rs.length ≤ 10 ∧ ∀ r ∈ rs, r.length ≤ n := by
  obtain ⟨ps, e, a, hl⟩ := h
  obtain ⟨rs, h1, h2, h3⟩ := a.rows
  exact ⟨ps, rs, ⟨.of e, h1, fun i q r hq hr => .of (h2 i q r hq hr)⟩, by omega, h3⟩
theorem il_cut (r : List Int) (lo hi : Option Int) : ∃ r' : List Int, cutV (r.map V.int) lo hi = r'.map V.int ∧ r'.length ≤ r.length := by
  unfold cutV
  refine ⟨(r.drop (HT.sIx (r.map V.int).length 0 lo)).take (HT.sIx (r.map V.int).length (r.map V.int).length hi - HT.sIx (r.map V.int).length 0 lo), ?_, ?_⟩
  · rw [List.map_take, List.map_drop]
  · rw [List.length_take, List.length_drop]
    omega
theorem IL.cut {n : Nat} {H : Hp} {p : Addr} {r : List Int} {lo hi : Option Int} (e : H p = some (.lst (cutV (r.map V.int) lo hi))) (h : r.length ≤ n) : IL n H p := by
  obtain ⟨r', e', h'⟩ := il_cut r lo hi
  exact ⟨r', by rw [e, e'], by omega⟩
theorem IL.cat {n : Nat} {H : Hp} {p : Addr} {a b : List Int} (e : H p = some (.lst (a.map V.int ++ b.map V.int))) (h : a.length + b.length ≤ n) : IL n H p :=
  ⟨a ++ b, by rw [e, List.map_append], by rw [List.length_append]; omega⟩
section
variable {P : Program} {w : World} {K : PySem.W.Frag} {mg : Str → Option Value} {base : Heap}
/-! ### the law -/
def spLaw (K : PySem.W.Frag) : Sp := fun vs H Q _ => ∃ (a : Addr) (cs : List Int), vs = [.ref a] ∧ SqL K H a (cs.map V.int) ∧ cs.length ≤ 63 ∧ Cells cs ∧ ∀ H', Q (.bl true) H'
abbrev n_law : List Str := ["_law_script", "_law_by", "_law_boxes_here", "_law_many", "_law_last", "_law_most", "_law_one", "_law_two", "_law_near", "_law_ring_here", "_law_lists", "_law_several", "_law_first", "_law_second"]
theorem sc_law : FnScope n_law ["_law_script"] (defScope s_law) := ⟨rfl, rfl, rfl, by decide +kernel, rfl, by decide +kernel, by decide +kernel⟩
theorem ok_law (T : Tx K mg) {f : Addr} {fd : FuncData} (F : Fun K "law" "law" s_law f fd) : FnOk P w K mg base CX0 8 f fd ["_law_script"] (spLaw K) := by
  refine F.ok sc_law (fun vs H Q E h => ?_) (fun cdv A outer s H vs Q E hr h => ?_)
  · obtain ⟨a, cs, rfl, _⟩ := h
    rfl
  · obtain ⟨a, cs, rfl, hS, hlen, hC, q⟩ := h
    refine ⟨_, (pss_cons (ps_set (i := 0) sc_law.nd rfl (.inl rfl) (pe_slice sl_list (pv 0) po_none (po_some pe_int)))
    (pss_cons (ps_for PassesOwn.never rfl (pi_range3 (by rfl) T.m_range (pa_cons pe_int (pa_cons (pe_callB (call_max2 rfl) (by rfl) T.m_max (by decide +kernel) (pa_cons pe_int (pa_cons (pe_callB call_len_seq (by rfl) T.m_len (by decide +kernel) (pa_cons (pv 0) pa_nil)) pa_nil))) (pa_cons (pe_op op_add pe_int (pe_op op_fdiv (pe_callB call_len_seq (by rfl) T.m_len (by decide +kernel) (pa_cons (pv 0) pa_nil)) pe_int)) pa_nil)))) (pg_name (i := 1) sc_law.nd rfl (.inl rfl))
      (pss_cons (ps_set (i := 2) sc_law.nd rfl (.inl rfl) (pe_df T.law_boxes (ok_law_boxes T) (hr.mono (by decide)) (pa_cons (pv 0) (pa_cons (pv 1) (pa_cons pe_int pa_nil)))))
      (pss_cons (ps_par (i := 3) (j := 4) (by rfl) sc_law.nd rfl rfl (by decide) rfl rfl (pa_cons (pe_callB call_len_seq (by rfl) T.m_len (by decide +kernel) (pa_cons (pv 2) pa_nil)) (pa_cons (pe_op op_sub (pe_callB call_len_seq (by rfl) T.m_len (by decide +kernel) (pa_cons (pv 2) pa_nil)) pe_int) pa_nil)) (by rfl))
      (pss_one (ps_for PassesOwn.never rfl (pi_tup (pe_tup (pa_cons pe_int (pa_cons (pe_op op_add pe_int (pe_op op_fdiv (pv 3) pe_int)) (pa_cons (pv 3) pa_nil))))) (pg_name (i := 5) sc_law.nd rfl (.inl rfl))
        (pss_cons (ps_if (pt_not (pt_val (pe_df T.law_says (ok_law_says T) (hr.mono (by decide)) (pa_cons (pe_meth (pe_bare T.All.g T.All.kp T.All.mks T.i_All) T.All.cl T.All_shows.meth (ok_All_shows T) (hr.mono (by decide)) T.All_shows.b .nil pass0 (pa_cons (pv 2) (pa_cons (pv 5) pa_nil))) (pa_cons (pe_cmpR op_le (pe_df T.law_longest (ok_law_longest T) (hr.mono (by decide)) (pa_cons (pv 2) pa_nil)) (pv 5) (nomark _)) pa_nil)))))
          (pss_one (ps_ret pe_bl))
          pss_nil)
        (pss_cons (ps_par (i := 6) (j := 7) (by rfl) sc_law.nd rfl rfl (by decide) rfl rfl (pa_cons (pe_df T.law_ring (ok_law_ring T) (hr.mono (by decide)) (pa_cons (pv 2) (pa_cons pe_int pa_nil))) (pa_cons (pe_df T.law_ring (ok_law_ring T) (hr.mono (by decide)) (pa_cons (pv 2) (pa_cons (pv 4) pa_nil))) pa_nil)) (by rfl))
        (pss_cons (ps_set (i := 8) sc_law.nd rfl (.inl rfl) (pe_lst (pa_cons (pv 6) (pa_cons (pv 7) (pa_cons (pe_op op_cat (pe_slice sl_list (pv 6) (po_some pe_int) po_none) (pe_slice sl_list (pv 6) po_none (po_some pe_int))) (pa_cons (pe_revL (pv 6)) (pa_cons (pe_slice sl_list (pv 6) po_none (po_some (pe_un un_neg pe_int))) pa_nil)))))))
        (pss_cons (ps_set (i := 8) sc_law.nd rfl (.inl rfl) (pe_op op_cat (pv 8) (pe_lst (pa_cons (pe_op op_cat (pv 6) (pv 6)) (pa_cons (pe_op op_cat (pv 6) (pe_lst (pa_cons (pv 3) pa_nil))) (pa_cons (pe_op op_cat (pe_lst (pa_cons (pe_un un_neg pe_int) pa_nil)) (pv 6)) (pa_cons (pe_lst pa_nil) (pa_cons (pe_lst (pa_cons (pe_op op_pow pe_int pe_int) pa_nil)) pa_nil))))))))
        (pss_cons (ps_for PassesOwn.never rfl (pi_list (pv 8)) (pg_name (i := 9) sc_law.nd rfl (.inl rfl))
          (pss_one (ps_if (pt_not (pt_val (pe_df T.law_ring_right (ok_law_ring_right T) (hr.mono (by decide)) (pa_cons (pv 2) (pa_cons (pv 5) (pa_cons (pv 9) pa_nil))))))
            (pss_one (ps_ret pe_bl))
            pss_nil)))
        (pss_cons (ps_set (i := 10) sc_law.nd rfl (.inl rfl) (pe_lst (pa_cons (pe_lst (pa_cons (pv 6) pa_nil)) (pa_cons (pe_lst (pa_cons (pv 7) pa_nil)) (pa_cons (pe_lst (pa_cons (pv 6) (pa_cons (pv 7) pa_nil))) (pa_cons (pe_lst (pa_cons (pv 7) (pa_cons (pv 6) pa_nil))) (pa_cons (pe_lst (pa_cons (pv 6) (pa_cons (pe_op op_cat (pe_slice sl_list (pv 6) (po_some pe_int) po_none) (pe_slice sl_list (pv 6) po_none (po_some pe_int))) pa_nil))) pa_nil)))))))
        (pss_cons (ps_set (i := 10) sc_law.nd rfl (.inl rfl) (pe_op op_cat (pv 10) (pe_lst (pa_cons (pe_lst (pa_cons (pv 6) (pa_cons (pv 7) (pa_cons (pv 7) pa_nil)))) (pa_cons (pe_lst pa_nil) (pa_cons (pe_lst (pa_cons (pe_lst pa_nil) pa_nil)) (pa_cons (pe_lst (pa_cons (pv 6) (pa_cons (pe_lst pa_nil) pa_nil))) pa_nil)))))))
        (pss_cons (ps_for PassesOwn.never rfl (pi_list (pv 10)) (pg_name (i := 11) sc_law.nd rfl (.inl rfl))
          (pss_one (ps_if (pt_not (pt_val (pe_df T.law_rings_right (ok_law_rings_right T) (hr.mono (by decide)) (pa_cons (pv 2) (pa_cons (pv 5) (pa_cons (pv 11) pa_nil))))))
            (pss_one (ps_ret pe_bl))
            pss_nil)))
        (pss_one (ps_for PassesOwn.never rfl (pi_tup (pe_tup (pa_cons pe_int (pa_cons (pv 4) (pa_cons (pe_op op_fdiv (pv 3) pe_int) (pa_cons (pv 3) (pa_cons (pe_un un_neg pe_int) (pa_cons (pe_op op_pow pe_int pe_int) pa_nil)))))))) (pg_name (i := 12) sc_law.nd rfl (.inl rfl))
          (pss_one (ps_for PassesOwn.never rfl (pi_tup (pe_tup (pa_cons pe_int (pa_cons (pv 4) (pa_cons (pe_un un_neg pe_int) (pa_cons (pv 3) pa_nil)))))) (pg_name (i := 13) sc_law.nd rfl (.inl rfl))
            (pss_one (ps_if (pt_not (pt_val (pe_df T.law_pair_right (ok_law_pair_right T) (hr.mono (by decide)) (pa_cons (pv 2) (pa_cons (pv 5) (pa_cons (pv 12) (pa_cons (pv 13) pa_nil)))))))
              (pss_one (ps_ret pe_bl))
              pss_nil)))))))))))))))))))
    (pss_one (ps_ret (pe_and (pe_cmpR op_isBl (pe_meth (pe_make (T.Long.mak T.Long_init) (ok_Long_init T) (hr.mono (by decide)) (by rfl) T.Long.g T.Long_init.b .nil pass0 (pa_cons (pe_lst (pa_cons pe_int (pa_cons pe_int (pa_cons pe_int pa_nil)))) pa_nil)) T.Long.cl T.Long_shows.meth (ok_Long_shows T) (hr.mono (by decide)) T.Long_shows.b .nil pass0 (pa_cons (pe_lst (pa_cons pe_int (pa_cons pe_int (pa_cons pe_int pa_nil)))) (pa_cons pe_int pa_nil))) pe_bl (nomark _)) (pe_one (pe_cmpR op_isBl (pe_meth (pe_make (T.Barred.mak T.Barred_init) (ok_Barred_init T) (hr.mono (by decide)) (by rfl) T.Barred.g T.Barred_init.b .nil pass0 (pa_cons (pe_lst (pa_cons (pe_lst (pa_cons pe_int (pa_cons pe_int (pa_cons pe_int pa_nil)))) pa_nil)) pa_nil)) T.Barred.cl T.Barred_shows.meth (ok_Barred_shows T) (hr.mono (by decide)) T.Barred_shows.b .nil pass0 (pa_cons (pe_lst (pa_cons pe_int (pa_cons pe_int (pa_cons pe_int pa_nil)))) (pa_cons pe_int pa_nil))) pe_bl (nomark _)))))))), ?_⟩
    refine ⟨_, rfl, 63, rfl, a, _, rfl, hS, fun sc nsc => ?_⟩
    rw [show (63 : Int) = ((63 : Nat) : Int) from rfl, cut_to, List.take_of_length_le (by rw [List.length_map]; omega)]
    have esc : (upd H sc (.lst (cs.map V.int))) sc = some (.lst (cs.map V.int)) := upd_same
    refine ⟨_, rfl, sc, _, rfl, .inl (.of esc), _, _, rfl, _, rfl, sc, _, rfl, .inl (.of esc), _, 2, rfl, rfl, ⟨by decide, by decide⟩, 1, _, rfl, rfl, ?_⟩
    obtain ⟨mx, em, hm1, hm2⟩ : ∃ m : Nat, (if (((cs.map V.int).length : Nat) : Int) > 1 then (((cs.map V.int).length : Nat) : Int) else 1) = (m : Int) ∧ 1 ≤ m ∧ m ≤ 63 := by
      rw [List.length_map]
      by_cases h1 : ((cs.length : Nat) : Int) > 1
      · rw [if_pos h1]; exact ⟨cs.length, rfl, by omega, hlen⟩
      · rw [if_neg h1]; exact ⟨1, rfl, by omega, by omega⟩
    obtain ⟨d, ed, hd1, hd2⟩ : ∃ d : Nat, 1 + (((cs.map V.int).length : Nat) : Int) / 2 = (d : Int) ∧ 1 ≤ d ∧ d ≤ 63 := by
      rw [List.length_map]
      exact ⟨1 + cs.length / 2, by push_cast; rfl, by omega, by omega⟩
    refine ⟨0, mx, d, _, (by rw [← em, ← ed]), rgC_pos hm1 (by omega) hd1 (by omega), ?_⟩
    refine for_rangeC (lo := 0) (c := (d : Int)) (n := (mx - 1) / d + 1) (fun i σ H3 => ∃ v1 v2 v3 v4 v5 v6 v7 v8 v9 v10 v11 v12 v13, σ = [some (.ref sc), v1, v2, v3, v4, v5, v6, v7, v8, v9, v10, v11, v12, v13] ∧ H3 sc = some (.lst (cs.map V.int))) ⟨_, _, _, _, _, _, _, _, _, _, _, _, _, rfl, esc⟩ (fun i σ H3 hi hP => ?_) (fun σ H3 hP => ?_)
    · obtain ⟨v1, v2, v3, v4, v5, v6, v7, v8, v9, v10, v11, v12, v13, rfl, esc3⟩ := hP
      rw [show (0 : Int) + ((i : Nat) : Int) * (d : Int) = ((i * d : Nat) : Int) by push_cast; omega]
      refine ⟨_, rfl, _, rfl, sc, cs, i * d, 12, rfl, .of esc3, hC, by decide, by decide, fun H4 pb ns s4 npb epb g hn1 hn2 => ?_⟩
      refine ⟨_, rfl, pb, _, rfl, .inl (.of epb), _, rfl, pb, _, rfl, .inl (.of epb), _, 1, rfl, rfl, _, _, rfl, ?_⟩
      rw [iv_len]
      dsimp only
      rw [show (ns.length : Int) - 1 = ((ns.length - 1 : Nat) : Int) by omega]
      refine ⟨_, rfl, _, 2, rfl, rfl, ⟨by decide, by decide⟩, 1, _, rfl, rfl, _, rfl, sz (by simp), ?_⟩
      refine fun pt n5 => ?_
      generalize hG : upd _ pt _ = H5
      obtain ⟨s5, e5⟩ := gen_upd n5 hG
      clear hG
      obtain ⟨ms, ems, hms⟩ : ∃ ms : List Nat, [V.int 1, V.int (1 + (ns.length : Int) / 2), V.int (ns.length : Int)] = iv ms ∧ ∀ x ∈ ms, 1 ≤ x ∧ x ≤ ns.length := by
        refine ⟨[1, 1 + ns.length / 2, ns.length], ?_, ?_⟩
        · show _ = [V.int ((1 : Nat) : Int), V.int ((1 + ns.length / 2 : Nat) : Int), V.int ((ns.length : Nat) : Int)]
          push_cast
          rfl
        · intro x hx
          simp only [List.mem_cons, List.not_mem_nil, or_false] at hx
          omega
      have e5' : H5 pt = some (.tup (iv ms)) := by rw [e5, ← ems]
      have epb5 := s5 _ _ epb
      have esc5 := s5 _ _ (s4 _ _ esc3)
      refine ⟨pt, rfl, ⟨_, .of e5'⟩, ?_⟩
      refine for_tup (K := K) (a := pt) (xs := iv ms) (fun j σ H6 => ∃ v5 v6 v7 v8 v9 v10 v11 v12 v13, σ = [some (.ref sc), some (.int ((i * d : Nat) : Int)), some (.ref pb), some (.int (ns.length : Int)), some (.int ((ns.length - 1 : Nat) : Int)), v5, v6, v7, v8, v9, v10, v11, v12, v13] ∧ Same H5 H6) ⟨_, _, _, _, _, _, _, _, _, rfl, .refl _⟩ (fun j σ H6 _ h => ?_) (fun j x σ H6 hx hP => ?_) (fun σ H6 hP => ?_)
      · obtain ⟨_, _, _, _, _, _, _, _, _, _, s6⟩ := h
        exact .of (s6 _ _ e5')
      · obtain ⟨v5, v6, v7, v8, v9, v10, v11, v12, v13, rfl, s6⟩ := hP
        rw [iv_get?] at hx
        obtain ⟨m, hmo, rfl⟩ := Option.map_eq_some_iff.mp hx
        obtain ⟨hmo1, hmo2⟩ := hms m (List.mem_of_getElem? hmo)
        have epb6 := s6 _ _ epb5
        -- All().shows
        refine fun xa dxa nxa ndxa hnea => ?_
        have sa : Same H6 (upd (upd H6 dxa (.own xa)) xa (.ins T.All.C dxa [])) := fun b u hb => by
          rw [upd_ne (ne_of_none hb nxa), upd_ne (ne_of_none hb ndxa)]
          exact hb
        refine ⟨xa, dxa, [], rfl, upd_same, rfl, _, rfl, _, rfl, .ref xa, pb, ns, m, rfl, .of (sa _ _ epb6), g, by omega, fun b1 H7 s7 hb1 => ?_⟩
        refine ⟨_, rfl, pb, ns, rfl, .of (s7 _ _ (sa _ _ epb6)), g, hn1, by omega, fun H8 n8 s8 _ _ hm8 => ⟨_, rfl, _, _, rfl, rfl, b1, _, rfl, _, rfl, iteNS ?_ ?_⟩⟩
        · refine bool_iff hb1 ?_
          rw [decide_eq_true_iff, ← hm8 m]
          omega
        have s68 := (sa.trans s7).trans s8
        have epb8 := s68 _ _ epb6
        clear nxa ndxa hnea sa s7 s8 hb1
        -- the rings of the first and the last hand
        refine ⟨_, rfl, pb, ns, 0, rfl, .of epb8, g, by omega, by omega, fun H9 p1 s9 n9 e9 => ?_⟩
        refine ⟨_, rfl, _, rfl, pb, ns, ns.length - 1, rfl, .of (s9 _ _ epb8), g, by omega, by omega, fun Ha p2 sa na ea => ⟨_, _, rfl, ?_⟩⟩
        obtain ⟨r1, er1, hr1⟩ : ∃ r : List Int, Ha p1 = some (.lst (r.map V.int)) ∧ r.length ≤ 12 := ⟨(ringOf ns 0).map fun (n : Nat) => (n : Int), by rw [sa _ _ e9, iv_eq], by rw [List.length_map]; have := ringOf_len g (h := 0) (by omega); omega⟩
        have i2 : IL 12 Ha p2 := ⟨(ringOf ns (ns.length - 1)).map fun (n : Nat) => (n : Int), by rw [ea, iv_eq], by rw [List.length_map]; have := ringOf_len g (h := ns.length - 1) (by omega); omega⟩
        have epba := sa _ _ (s9 _ _ epb8)
        have s6a := (s68.trans s9).trans sa
        -- near ones
        refine ⟨_, rfl, _, rfl, _, rfl, 1, rfl, p1, _, rfl, .of er1, fun c1 nn1 => ?_⟩
        generalize hG : upd _ c1 _ = Hb
        obtain ⟨t1, f1⟩ := gen_upd nn1 hG
        clear hG
        refine ⟨_, rfl, 1, rfl, p1, _, rfl, .of (t1 _ _ er1), fun c2 nn2 => ?_⟩
        generalize hG : upd _ c2 _ = Hc
        obtain ⟨t2, f2⟩ := gen_upd nn2 hG
        clear hG
        obtain ⟨r11, g11, l11⟩ := il_cut r1 (some 1) none
        obtain ⟨r12, g12, l12⟩ := il_cut r1 none (some 1)
        rw [g11] at f1
        rw [g12] at f2
        refine ⟨c1, c2, _, _, rfl, rfl, t2 _ _ f1, f2, by rw [List.length_map, List.length_map]; exact sz (by omega), fun c3 nn3 => ?_⟩
        generalize hG : upd _ c3 _ = Hd
        obtain ⟨t3, f3⟩ := gen_upd nn3 hG
        clear hG
        have t123 := (t1.trans t2).trans t3
        refine ⟨_, rfl, p1, _, rfl, .of (t123 _ _ er1), fun c4 nn4 => ?_⟩
        generalize hG : upd _ c4 _ = He
        obtain ⟨t4, f4⟩ := gen_upd nn4 hG
        clear hG
        refine ⟨_, rfl, _, rfl, _, rfl, p1, _, rfl, .of (t4 _ _ (t123 _ _ er1)), fun c5 nn5 => ?_⟩
        generalize hG : upd _ c5 _ = Hf
        obtain ⟨t5, f5⟩ := gen_upd nn5 hG
        clear hG
        refine ⟨sz (by simp), fun pn nn6 => ?_⟩
        generalize hG : upd _ pn _ = Hg
        obtain ⟨t6, f6⟩ := gen_upd nn6 hG
        clear hG
        have i1 : IL 12 Hg p1 := ⟨r1, (((t123.trans t4).trans t5).trans t6) _ _ er1, hr1⟩
        have i3 : IL 24 Hg c3 := (IL.cat f3 (by omega)).same ((t4.trans t5).trans t6)
        have i4 : IL 12 Hg c4 := IL.same ⟨r1.reverse, by rw [f4, List.map_reverse], by rw [List.length_reverse]; exact hr1⟩ (t5.trans t6)
        have i5 : IL 12 Hg c5 := (IL.cut f5 hr1).same t6
        have sg := ((t123.trans t4).trans t5).trans t6
        have er1g := sg _ _ er1
        have i2g := i2.same sg
        have a1 : AllIL 30 Hg [p1, p2, c3, c4, c5] := by
          intro p hp
          simp only [List.mem_cons, List.not_mem_nil, or_false] at hp
          rcases hp with rfl | rfl | rfl | rfl | rfl
          · exact i1.le (by omega)
          · exact i2g.le (by omega)
          · exact i3.le (by omega)
          · exact i4.le (by omega)
          · exact i5.le (by omega)
        have epbg := sg _ _ epba
        have s6g := s6a.trans sg
        clear i1 i3 i4 i5 f1 f2 f3 f4 f5 t1 t2 t3 t4 t5 t6 t123 sg g11 l11 g12 l12
        -- more of them
        refine ⟨_, rfl, _, rfl, _, rfl, p1, p1, _, _, rfl, rfl, er1g, er1g, by rw [List.length_map]; exact sz (by omega), fun c6 nn7 => ?_⟩
        generalize hG : upd _ c6 _ = Hh
        obtain ⟨u1, f1⟩ := gen_upd nn7 hG
        clear hG
        refine ⟨_, rfl, _, rfl, sz (by simp), fun c7 nn8 => ?_⟩
        generalize hG : upd _ c7 _ = Hi
        obtain ⟨u2, f2⟩ := gen_upd nn8 hG
        clear hG
        refine ⟨p1, c7, _, _, rfl, rfl, u2 _ _ (u1 _ _ er1g), f2, by rw [List.length_map]; exact sz (by simp; omega), fun c8 nn9 => ?_⟩
        generalize hG : upd _ c8 _ = Hj
        obtain ⟨u3, f3⟩ := gen_upd nn9 hG
        clear hG
        refine ⟨1, rfl, sz (by simp), fun c9 nn10 => ?_⟩
        generalize hG : upd _ c9 _ = Hk
        obtain ⟨u4, f4⟩ := gen_upd nn10 hG
        clear hG
        refine ⟨_, rfl, c9, p1, _, _, rfl, rfl, f4, u4 _ _ (u3 _ _ (u2 _ _ (u1 _ _ er1g))), by rw [List.length_map]; exact sz (by simp; omega), fun ca nn11 => ?_⟩
        generalize hG : upd _ ca _ = Hl
        obtain ⟨u5, f5⟩ := gen_upd nn11 hG
        clear hG
        refine ⟨Nat.zero_le _, fun cb nn12 => ?_⟩
        generalize hG : upd _ cb _ = Hm
        obtain ⟨u6, f6'⟩ := gen_upd nn12 hG
        clear hG
        refine ⟨10, 20, rfl, rfl, ⟨by decide, by decide, by decide⟩, sz (by simp), fun cc nn13 => ?_⟩
        generalize hG : upd _ cc _ = Hn
        obtain ⟨u7, f7⟩ := gen_upd nn13 hG
        clear hG
        refine ⟨sz (by simp), fun cd nn14 => ?_⟩
        generalize hG : upd _ cd _ = Ho
        obtain ⟨u8, f8⟩ := gen_upd nn14 hG
        clear hG
        have u18 := ((((((u1.trans u2).trans u3).trans u4).trans u5).trans u6).trans u7).trans u8
        refine ⟨pn, cd, _, _, rfl, rfl, u18 _ _ f6, f8, sz (by simp), fun pn2 nn15 => ?_⟩
        generalize hG : upd _ pn2 _ = Hp'
        obtain ⟨u9, f9⟩ := gen_upd nn15 hG
        clear hG
        have u19 := u18.trans u9
        have a2 : AllIL 30 Hp' [p1, p2, c3, c4, c5, c6, c8, ca, cb, cc] := by
          intro p hp
          simp only [List.mem_cons, List.not_mem_nil, or_false] at hp
          rcases hp with h | h | h | h | h | rfl | rfl | rfl | rfl | rfl
          · exact (a1 p (by simp [h])).same u19
          · exact (a1 p (by simp [h])).same u19
          · exact (a1 p (by simp [h])).same u19
          · exact (a1 p (by simp [h])).same u19
          · exact (a1 p (by simp [h])).same u19
          · exact (IL.cat f1 (by omega)).same (((((((u2.trans u3).trans u4).trans u5).trans u6).trans u7).trans u8).trans u9)
          · exact (IL.cat (b := [(ns.length : Int)]) f3 (by simp; omega)).same ((((((u4.trans u5).trans u6).trans u7).trans u8).trans u9))
          · exact (IL.cat (a := [-1]) f5 (by simp; omega)).same (((u6.trans u7).trans u8).trans u9)
          · exact IL.same (H := Hm) ⟨[], f6', by simp⟩ ((u7.trans u8).trans u9)
          · exact IL.same (H := Hn) ⟨[10 ^ (20 : Int).toNat], f7, by simp⟩ (u8.trans u9)
        have epbp := u19 _ _ epbg
        have er1p := u19 _ _ er1g
        have i2p := i2g.same u19
        have s6p := s6g.trans u19
        have f9' : Hp' pn2 = some (.lst ([p1, p2, c3, c4, c5, c6, c8, ca, cb, cc].map V.ref)) := f9
        clear f1 f2 f3 f4 f5 f6' f7 f8 u1 u2 u3 u4 u5 u6 u7 u8 u9 u18 u19 f6
        generalize [p1, p2, c3, c4, c5, c6, c8, ca, cb, cc] = nl at a2 f9'
        refine ⟨_, rfl, pn2, rfl, ⟨_, .of f9'⟩, ?_⟩
        refine for_list (K := K) (a := pn2) (xs := nl.map V.ref) (fun t σ Hq => ∃ v9, σ = [some (.ref sc), some (.int ((i * d : Nat) : Int)), some (.ref pb), some (.int (ns.length : Int)), some (.int ((ns.length - 1 : Nat) : Int)), some (.int (m : Int)), some (.ref p1), some (.ref p2), some (.ref pn2), v9, v10, v11, v12, v13] ∧ Same Hp' Hq) ⟨_, rfl, .refl _⟩ (fun t σ Hq _ h => ?_) (fun t v σ Hq hv hP => ?_) (fun σ Hq hP => ?_)
        · obtain ⟨_, _, sq⟩ := h
          exact .of (sq _ _ f9')
        · obtain ⟨v9, rfl, sq⟩ := hP
          rw [List.getElem?_map] at hv
          obtain ⟨pz, hpz, rfl⟩ := Option.map_eq_some_iff.mp hv
          obtain ⟨rz, ez, hz⟩ := (a2 pz (List.mem_of_getElem? hpz)).same sq
          exact ⟨_, rfl, _, rfl, _, rfl, pb, pz, ns, rz, m, rfl, .of (sq _ _ epbp), g, by omega, .of ez, by omega, fun Hr sr => ⟨_, rfl, iteF ⟨_, rfl, sq.trans sr⟩⟩⟩
        obtain ⟨v9, rfl, sq⟩ := hP
        have epbq := sq _ _ epbp
        have er1q := sq _ _ er1p
        have i2q := i2p.same sq
        have i1q : IL 12 Hq p1 := ⟨r1, er1q, hr1⟩
        have s6q := s6p.trans sq
        clear f9 f9' a1 a2
        -- lists of rings
        refine ⟨_, rfl, sz (by simp), fun d1 nn16 => ?_⟩
        generalize hG : upd _ d1 _ = G1
        obtain ⟨t1, f1⟩ := gen_upd nn16 hG
        clear hG
        refine ⟨_, rfl, sz (by simp), fun d2 nn17 => ?_⟩
        generalize hG : upd _ d2 _ = G2
        obtain ⟨t2, f2⟩ := gen_upd nn17 hG
        clear hG
        refine ⟨_, rfl, _, rfl, sz (by simp), fun d3 nn18 => ?_⟩
        generalize hG : upd _ d3 _ = G3
        obtain ⟨t3, f3⟩ := gen_upd nn18 hG
        clear hG
        refine ⟨_, rfl, _, rfl, sz (by simp), fun d4 nn19 => ?_⟩
        generalize hG : upd _ d4 _ = G4
        obtain ⟨t4, f4⟩ := gen_upd nn19 hG
        clear hG
        have t14 := ((t1.trans t2).trans t3).trans t4
        refine ⟨_, rfl, _, rfl, 1, rfl, p1, _, rfl, .of (t14 _ _ er1q), fun c1 nn20 => ?_⟩
        generalize hG : upd _ c1 _ = G5
        obtain ⟨t5, g1⟩ := gen_upd nn20 hG
        clear hG
        refine ⟨_, rfl, 1, rfl, p1, _, rfl, .of (t5 _ _ (t14 _ _ er1q)), fun c2 nn21 => ?_⟩
        generalize hG : upd _ c2 _ = G6
        obtain ⟨t6, g2⟩ := gen_upd nn21 hG
        clear hG
        obtain ⟨r11, g11, l11⟩ := il_cut r1 (some 1) none
        obtain ⟨r12, g12, l12⟩ := il_cut r1 none (some 1)
        rw [g11] at g1
        rw [g12] at g2
        refine ⟨c1, c2, _, _, rfl, rfl, t6 _ _ g1, g2, by rw [List.length_map, List.length_map]; exact sz (by omega), fun c3 nn22 => ?_⟩
        generalize hG : upd _ c3 _ = G7
        obtain ⟨t7, g3⟩ := gen_upd nn22 hG
        clear hG
        refine ⟨sz (by simp), fun d5 nn23 => ?_⟩
        generalize hG : upd _ d5 _ = G8
        obtain ⟨t8, f5⟩ := gen_upd nn23 hG
        clear hG
        refine ⟨sz (by simp), fun pl nn24 => ?_⟩
        generalize hG : upd _ pl _ = G9
        obtain ⟨t9, f6⟩ := gen_upd nn24 hG
        clear hG
        have t19 := ((((t14.trans t5).trans t6).trans t7).trans t8).trans t9
        have ic3 : IL 24 G9 c3 := (IL.cat g3 (by omega)).same (t8.trans t9)
        have j1 := (i1q.same t19).le (show 12 ≤ 24 by omega)
        have j2 := (i2q.same t19).le (show 12 ≤ 24 by omega)
        have al : ∀ p ∈ [p1, p2, c3], IL 24 G9 p := by
          intro p hp
          simp only [List.mem_cons, List.not_mem_nil, or_false] at hp
          rcases hp with rfl | rfl | rfl
          · exact j1
          · exact j2
          · exact ic3
        have b1 : ∀ p ∈ [d1, d2, d3, d4, d5], SL 24 G9 p := by
          intro p hp
          simp only [List.mem_cons, List.not_mem_nil, or_false] at hp
          rcases hp with rfl | rfl | rfl | rfl | rfl
          · exact ⟨[p1], ((((((((t2.trans t3).trans t4).trans t5).trans t6).trans t7).trans t8).trans t9)) _ _ f1, fun z hz => al z (by simp at hz; simp [hz]), by simp⟩
          · exact ⟨[p2], (((((((t3.trans t4).trans t5).trans t6).trans t7).trans t8).trans t9)) _ _ f2, fun z hz => al z (by simp at hz; simp [hz]), by simp⟩
          · exact ⟨[p1, p2], ((((((t4.trans t5).trans t6).trans t7).trans t8).trans t9)) _ _ f3, fun z hz => al z (by simp at hz; rcases hz with h | h <;> simp [h]), by simp⟩
          · exact ⟨[p2, p1], (((((t5.trans t6).trans t7).trans t8).trans t9)) _ _ f4, fun z hz => al z (by simp at hz; rcases hz with h | h <;> simp [h]), by simp⟩
          · exact ⟨[p1, c3], t9 _ _ f5, fun z hz => al z (by simp at hz; rcases hz with h | h <;> simp [h]), by simp⟩
        have epb9 := t19 _ _ epbq
        have s69 := s6q.trans t19
        clear f1 f2 f3 f4 f5 g1 g2 g3 g11 g12 l11 l12 t1 t2 t3 t4 t5 t6 t7 t8 t9 t14 t19 ic3 al
        refine ⟨_, rfl, _, rfl, _, rfl, _, rfl, sz (by simp), fun k1 nn25 => ?_⟩
        generalize hG : upd _ k1 _ = G10
        obtain ⟨u1, f1⟩ := gen_upd nn25 hG
        clear hG
        refine ⟨Nat.zero_le _, fun k2 nn26 => ?_⟩
        generalize hG : upd _ k2 _ = G11
        obtain ⟨u2, f2⟩ := gen_upd nn26 hG
        clear hG
        refine ⟨Nat.zero_le _, fun k3 nn27 => ?_⟩
        generalize hG : upd _ k3 _ = G12
        obtain ⟨u3, f3⟩ := gen_upd nn27 hG
        clear hG
        refine ⟨sz (by simp), fun k4 nn28 => ?_⟩
        generalize hG : upd _ k4 _ = G13
        obtain ⟨u4, f4⟩ := gen_upd nn28 hG
        clear hG
        refine ⟨_, rfl, Nat.zero_le _, fun k5 nn29 => ?_⟩
        generalize hG : upd _ k5 _ = G14
        obtain ⟨u5, f5⟩ := gen_upd nn29 hG
        clear hG
        refine ⟨sz (by simp), fun k6 nn30 => ?_⟩
        generalize hG : upd _ k6 _ = G15
        obtain ⟨u6, g6⟩ := gen_upd nn30 hG
        clear hG
        refine ⟨sz (by simp), fun k7 nn31 => ?_⟩
        generalize hG : upd _ k7 _ = G16
        obtain ⟨u7, f7⟩ := gen_upd nn31 hG
        clear hG
        have u17 := (((((u1.trans u2).trans u3).trans u4).trans u5).trans u6).trans u7
        refine ⟨pl, k7, _, _, rfl, rfl, u17 _ _ f6, f7, sz (by simp), fun pl2 nn32 => ?_⟩
        generalize hG : upd _ pl2 _ = G17
        obtain ⟨u8, f8⟩ := gen_upd nn32 hG
        clear hG
        have u18 := u17.trans u8
        have al : ∀ p ∈ [p1, p2, k3, k5], IL 24 G17 p := by
          intro p hp
          simp only [List.mem_cons, List.not_mem_nil, or_false] at hp
          rcases hp with rfl | rfl | rfl | rfl
          · exact j1.same u18
          · exact j2.same u18
          · exact IL.same (H := G12) ⟨[], f3, by simp⟩ ((((u4.trans u5).trans u6).trans u7).trans u8)
          · exact IL.same (H := G14) ⟨[], f5, by simp⟩ ((u6.trans u7).trans u8)
        have b2 : ∀ p ∈ [d1, d2, d3, d4, d5, k1, k2, k4, k6], SL 24 G17 p := by
          intro p hp
          simp only [List.mem_cons, List.not_mem_nil, or_false] at hp
          rcases hp with h | h | h | h | h | rfl | rfl | rfl | rfl
          · exact (b1 p (by simp [h])).same u18
          · exact (b1 p (by simp [h])).same u18
          · exact (b1 p (by simp [h])).same u18
          · exact (b1 p (by simp [h])).same u18
          · exact (b1 p (by simp [h])).same u18
          · exact ⟨[p1, p2, p2], ((((((u2.trans u3).trans u4).trans u5).trans u6).trans u7).trans u8) _ _ f1, fun z hz => al z (by simp at hz; rcases hz with h | h <;> simp [h]), by simp⟩
          · exact ⟨[], (((((u3.trans u4).trans u5).trans u6).trans u7).trans u8) _ _ f2, fun z hz => (by cases hz), by simp⟩
          · exact ⟨[k3], (((u5.trans u6).trans u7).trans u8) _ _ f4, fun z hz => al z (by simp at hz; simp [hz]), by simp⟩
          · exact ⟨[p1, k5], (u7.trans u8) _ _ g6, fun z hz => al z (by simp at hz; rcases hz with h | h <;> simp [h]), by simp⟩
        have f8' : G17 pl2 = some (.lst ([d1, d2, d3, d4, d5, k1, k2, k4, k6].map V.ref)) := f8
        have epb17 := u18 _ _ epb9
        have s617 := s69.trans u18
        clear f1 f2 f3 f4 f5 f7 g6 u1 u2 u3 u4 u5 u6 u7 u8 u17 u18 al b1 f8 f6 j1 j2
        generalize [d1, d2, d3, d4, d5, k1, k2, k4, k6] = ll at b2 f8'
        refine ⟨_, rfl, pl2, rfl, ⟨_, .of f8'⟩, ?_⟩
        refine for_list (K := K) (a := pl2) (xs := ll.map V.ref) (fun t σ Hq => ∃ v11, σ = [some (.ref sc), some (.int ((i * d : Nat) : Int)), some (.ref pb), some (.int (ns.length : Int)), some (.int ((ns.length - 1 : Nat) : Int)), some (.int (m : Int)), some (.ref p1), some (.ref p2), some (.ref pn2), v9, some (.ref pl2), v11, v12, v13] ∧ Same G17 Hq) ⟨_, rfl, .refl _⟩ (fun t σ Hq _ h => ?_) (fun t v σ Hq hv hP => ?_) (fun σ Hq hP => ?_)
        · obtain ⟨_, _, sq⟩ := h
          exact .of (sq _ _ f8')
        · obtain ⟨v11, rfl, sq⟩ := hP
          rw [List.getElem?_map] at hv
          obtain ⟨pz, hpz, rfl⟩ := Option.map_eq_some_iff.mp hv
          obtain ⟨psz, rsz, Sz, hz1, hz2⟩ := ((b2 pz (List.mem_of_getElem? hpz)).same sq).sees (K := K)
          exact ⟨_, rfl, _, rfl, _, rfl, pb, pz, psz, ns, rsz, m, rfl, Sz, .of (sq _ _ epb17), g, by omega, by omega, fun r hr => by have := hz2 r hr; omega, fun Hr sr => ⟨_, rfl, iteF ⟨_, rfl, sq.trans sr⟩⟩⟩
        obtain ⟨v11, rfl, sq⟩ := hP
        have epbr := sq _ _ epb17
        have s6r := s617.trans sq
        clear b2 f8'
        -- pairs
        refine ⟨_, rfl, _, rfl, _, 2, rfl, rfl, ⟨by decide, by decide⟩, _, rfl, 1, rfl, 10, 20, rfl, rfl, ⟨by decide, by decide, by decide⟩, sz (by simp), fun pu nn33 => ?_⟩
        generalize hG : upd _ pu _ = G1
        obtain ⟨t1, f1⟩ := gen_upd nn33 hG
        clear hG
        have f1' : ∃ fs : List Int, G1 pu = some (.tup (fs.map V.int)) := ⟨[0, ((ns.length - 1 : Nat) : Int), (ns.length : Int) / 2, (ns.length : Int), -1, 10 ^ (20 : Int).toNat], f1⟩
        obtain ⟨fs, f1'⟩ := f1'
        refine ⟨pu, rfl, ⟨_, .of f1'⟩, ?_⟩
        refine for_tup (K := K) (a := pu) (xs := fs.map V.int) (fun t σ Hs => ∃ v12 v13, σ = [some (.ref sc), some (.int ((i * d : Nat) : Int)), some (.ref pb), some (.int (ns.length : Int)), some (.int ((ns.length - 1 : Nat) : Int)), some (.int (m : Int)), some (.ref p1), some (.ref p2), some (.ref pn2), v9, some (.ref pl2), v11, v12, v13] ∧ Same G1 Hs) ⟨_, _, rfl, .refl _⟩ (fun t σ Hs _ h => ?_) (fun t v σ Hs hv hP => ?_) (fun σ Hs hP => ?_)
        · obtain ⟨_, _, _, ss⟩ := h
          exact .of (ss _ _ f1')
        · obtain ⟨v12, v13, rfl, ss⟩ := hP
          rw [List.getElem?_map] at hv
          obtain ⟨iz, _, rfl⟩ := Option.map_eq_some_iff.mp hv
          refine ⟨_, rfl, 1, rfl, _, rfl, sz (by simp), fun pv nn34 => ?_⟩
          generalize hG : upd _ pv _ = G2
          obtain ⟨t2, f2⟩ := gen_upd nn34 hG
          clear hG
          have f2' : ∃ gs : List Int, G2 pv = some (.tup (gs.map V.int)) := ⟨[0, ((ns.length - 1 : Nat) : Int), -1, (ns.length : Int)], f2⟩
          obtain ⟨gs, f2'⟩ := f2'
          refine ⟨pv, rfl, ⟨_, .of f2'⟩, ?_⟩
          refine for_tup (K := K) (a := pv) (xs := gs.map V.int) (fun t σ Ht => ∃ v13, σ = [some (.ref sc), some (.int ((i * d : Nat) : Int)), some (.ref pb), some (.int (ns.length : Int)), some (.int ((ns.length - 1 : Nat) : Int)), some (.int (m : Int)), some (.ref p1), some (.ref p2), some (.ref pn2), v9, some (.ref pl2), v11, some (.int iz), v13] ∧ Same G2 Ht) ⟨_, rfl, .refl _⟩ (fun t σ Ht _ h => ?_) (fun t v σ Ht hv hP => ?_) (fun σ Ht hP => ?_)
          · obtain ⟨_, _, st⟩ := h
            exact .of (st _ _ f2')
          · obtain ⟨v13, rfl, st⟩ := hP
            rw [List.getElem?_map] at hv
            obtain ⟨jz, _, rfl⟩ := Option.map_eq_some_iff.mp hv
            exact ⟨_, rfl, _, rfl, _, rfl, _, rfl, pb, ns, iz, jz, m, rfl, .of (st _ _ (t2 _ _ (ss _ _ (t1 _ _ epbr)))), g, hn1, by omega, fun Hr sr => ⟨_, rfl, iteF ⟨_, rfl, st.trans sr⟩⟩⟩
          · obtain ⟨v13, rfl, st⟩ := hP
            exact ⟨_, _, rfl, (ss.trans t2).trans st⟩
        · obtain ⟨v12, v13, rfl, ss⟩ := hP
          exact ⟨_, _, _, _, _, _, _, _, _, rfl, ((s6.trans s6r).trans t1).trans ss⟩
      · obtain ⟨v5, v6, v7, v8, v9, v10, v11, v12, v13, rfl, s6⟩ := hP
        exact ⟨_, _, _, _, _, _, _, _, _, _, _, _, _, rfl, s6 _ _ esc5⟩
    · obtain ⟨v1, v2, v3, v4, v5, v6, v7, v8, v9, v10, v11, v12, v13, rfl, esc3⟩ := hP
      have g1 : Good [1, 2, 0] := ⟨by decide⟩
      have R1 : RingI [1, 2, 0] [1, 2, 0] := ⟨1, [1, 2, 0], rfl, by
        have := ringOf_is g1 (h := 1) (by decide)
        rw [show ringOf [1, 2, 0] 1 = [1, 2, 0] by decide] at this
        exact this⟩
      have R2 : RingI [1, 2, 0] [0, 1, 2] := ⟨0, [0, 1, 2], rfl, by
        have := ringOf_is g1 (h := 0) (by decide)
        rw [show ringOf [1, 2, 0] 0 = [0, 1, 2] by decide] at this
        exact this⟩
      refine ⟨sz (by simp), fun pa nn35 => ?_⟩
      generalize hG : upd _ pa _ = G1
      obtain ⟨t1, f1⟩ := gen_upd nn35 hG
      clear hG
      refine fun x dx nx ndx hne => ⟨x, pa, dx, [V.int 1, V.int 2, V.int 0], rfl, upd_same, .of ?_, fun l2 nl2 => ⟨rfl, ?_⟩⟩
      · rw [upd_ne (ne_of_none f1 nx), upd_ne (ne_of_none f1 ndx)]
        exact f1
      have nl2x : l2 ≠ x := fun e => by rw [e, upd_same] at nl2; cases nl2
      refine ⟨x, dx, _, rfl, upd_same, lk_not (by decide +kernel), sz (by simp), fun pb nn36 => ?_⟩
      generalize hG : upd _ pb _ = G3
      obtain ⟨t3, f3⟩ := gen_upd nn36 hG
      clear hG
      refine ⟨x, pb, l2, dx, [1, 2, 0], [1, 2, 0], 2, rfl, t3 _ _ upd_same, .of (t3 _ _ (by rw [upd_ne nl2x, upd_same]; rfl)), .of f3, by decide, by decide, fun b H4 s4 hb => ?_⟩
      have : b = true := hb.mpr ⟨R1, by decide⟩
      subst this
      refine ⟨true, true, rfl, rfl, _, rfl, ?_⟩
      refine iteT ⟨sz (by simp), fun pc nn37 => ?_⟩
      generalize hG : upd _ pc _ = G5
      obtain ⟨t5, f5⟩ := gen_upd nn37 hG
      clear hG
      refine ⟨sz (by simp), fun pd nn38 => ?_⟩
      generalize hG : upd _ pd _ = G6
      obtain ⟨t6, f6⟩ := gen_upd nn38 hG
      clear hG
      refine fun x dx nx ndx hne => ⟨x, dx, pd, [pc], [[0, 1, 2]], rfl, upd_same, ?_, by simp, fun H7 l7 ps7 ex7 k7 nl7 el7 R7 hl7 => ⟨rfl, ?_⟩⟩
      · have sx : Same G6 (upd (upd G6 dx (.own x)) x (.ins T.Barred.C dx [])) := fun b u hb => by
          rw [upd_ne (ne_of_none hb nx), upd_ne (ne_of_none hb ndx)]
          exact hb
        refine ⟨.of (sx _ _ f6), rfl, fun i q r hq hr => ?_⟩
        match i with
        | 0 =>
          cases hq
          cases hr
          exact .of (sx _ _ (t6 _ _ f5))
        | i + 1 => simp at hq
      refine ⟨x, dx, _, rfl, ex7, lk_not (by decide +kernel), sz (by simp), fun pe nn39 => ?_⟩
      generalize hG : upd _ pe _ = G8
      obtain ⟨t8, f8⟩ := gen_upd nn39 hG
      clear hG
      refine ⟨x, pe, dx, l7, ps7, [1, 2, 0], [[0, 1, 2]], 1, rfl, t8 _ _ ex7, (R7.seesI el7).same t8, .of f8, g1, by decide, by simp, by simp, fun b H9 s9 hb => ?_⟩
      have : b = true := hb.mpr ⟨fun r hr => by simp at hr; rw [hr]; exact R2, .inl ⟨_, rfl, by decide⟩⟩
      subst this
      exact ⟨true, true, rfl, rfl, q _⟩
end
end Sb
/-! ### what the top has written; the law's own head -/
namespace Sb
open PySem PySem.Spec PyProof.Rows L2
theorem all_mk {l : PySem.W.OpenLaw} {w : World} {K : PySem.W.Frag} {h : Heap} {mg : Str → Option Value} {fa : Addr} (X : K.In h) (G : h.Ns mainGlobals mg) (hfa : mg "law" = some (.ref fa))
    {f0 : Addr} {od0 an0 : Option Addr} {sl0 : Array (Option Value)} {oc0 kV0 dc0 pm0 cd0 ct0 : Value}
    (a0 : PySem.W.nsIn K mainGlobals "is_whole" = some (some (.ref f0))) (l0 : K.lookup f0 = some ⟨oc0, od0, .func (PySem.W.fnOf "is_whole" "is_whole" (defArgs s_is_whole) (defBody s_is_whole) (defScope s_is_whole) .none kV0 dc0 pm0 an0 cd0 ct0), sl0⟩) (e0 : PySem.W.codeIn K cd0 "is_whole" = true) (k0 : PySem.W.keepIn K (.ref f0) = true)
    {f1 : Addr} {od1 an1 : Option Addr} {sl1 : Array (Option Value)} {oc1 kV1 dc1 pm1 cd1 ct1 : Value}
    (a1 : PySem.W.nsIn K mainGlobals "ring_from" = some (some (.ref f1))) (l1 : K.lookup f1 = some ⟨oc1, od1, .func (PySem.W.fnOf "ring_from" "ring_from" (defArgs s_ring_from) (defBody s_ring_from) (defScope s_ring_from) .none kV1 dc1 pm1 an1 cd1 ct1), sl1⟩) (e1 : PySem.W.codeIn K cd1 "ring_from" = true) (k1 : PySem.W.keepIn K (.ref f1) = true)
    {f2 : Addr} {od2 an2 : Option Addr} {sl2 : Array (Option Value)} {oc2 kV2 dc2 pm2 cd2 ct2 : Value}
    (a2 : PySem.W.nsIn K mainGlobals "rings_of" = some (some (.ref f2))) (l2 : K.lookup f2 = some ⟨oc2, od2, .func (PySem.W.fnOf "rings_of" "rings_of" (defArgs s_rings_of) (defBody s_rings_of) (defScope s_rings_of) .none kV2 dc2 pm2 an2 cd2 ct2), sl2⟩) (e2 : PySem.W.codeIn K cd2 "rings_of" = true) (k2 : PySem.W.keepIn K (.ref f2) = true)
    {f3 : Addr} {od3 an3 : Option Addr} {sl3 : Array (Option Value)} {oc3 kV3 dc3 pm3 cd3 ct3 : Value}
    (a3 : PySem.W.nsIn K mainGlobals "exchanged" = some (some (.ref f3))) (l3 : K.lookup f3 = some ⟨oc3, od3, .func (PySem.W.fnOf "exchanged" "exchanged" (defArgs s_exchanged) (defBody s_exchanged) (defScope s_exchanged) .none kV3 dc3 pm3 an3 cd3 ct3), sl3⟩) (e3 : PySem.W.codeIn K cd3 "exchanged" = true) (k3 : PySem.W.keepIn K (.ref f3) = true)
    {f4 : Addr} {od4 an4 : Option Addr} {sl4 : Array (Option Value)} {oc4 kV4 dc4 pm4 cd4 ct4 : Value}
    (a4 : PySem.W.nsIn K mainGlobals "long_rings" = some (some (.ref f4))) (l4 : K.lookup f4 = some ⟨oc4, od4, .func (PySem.W.fnOf "long_rings" "long_rings" (defArgs s_long_rings) (defBody s_long_rings) (defScope s_long_rings) .none kV4 dc4 pm4 an4 cd4 ct4), sl4⟩) (e4 : PySem.W.codeIn K cd4 "long_rings" = true) (k4 : PySem.W.keepIn K (.ref f4) = true)
    {f5 : Addr} {od5 an5 : Option Addr} {sl5 : Array (Option Value)} {oc5 kV5 dc5 pm5 cd5 ct5 : Value}
    (a5 : PySem.W.nsIn K mainGlobals "is_ring" = some (some (.ref f5))) (l5 : K.lookup f5 = some ⟨oc5, od5, .func (PySem.W.fnOf "is_ring" "is_ring" (defArgs s_is_ring) (defBody s_is_ring) (defScope s_is_ring) .none kV5 dc5 pm5 an5 cd5 ct5), sl5⟩) (e5 : PySem.W.codeIn K cd5 "is_ring" = true) (k5 : PySem.W.keepIn K (.ref f5) = true)
    {f6 : Addr} {od6 an6 : Option Addr} {sl6 : Array (Option Value)} {oc6 kV6 dc6 pm6 cd6 ct6 : Value}
    (a6 : PySem.W.nsIn K mainGlobals "_law_cell_at" = some (some (.ref f6))) (l6 : K.lookup f6 = some ⟨oc6, od6, .func (PySem.W.fnOf "_law_cell_at" "_law_cell_at" (defArgs s_law_cell_at) (defBody s_law_cell_at) (defScope s_law_cell_at) .none kV6 dc6 pm6 an6 cd6 ct6), sl6⟩) (e6 : PySem.W.codeIn K cd6 "_law_cell_at" = true) (k6 : PySem.W.keepIn K (.ref f6) = true)
    {f7 : Addr} {od7 an7 : Option Addr} {sl7 : Array (Option Value)} {oc7 kV7 dc7 pm7 cd7 ct7 : Value}
    (a7 : PySem.W.nsIn K mainGlobals "_law_draw" = some (some (.ref f7))) (l7 : K.lookup f7 = some ⟨oc7, od7, .func (PySem.W.fnOf "_law_draw" "_law_draw" (defArgs s_law_draw) (defBody s_law_draw) (defScope s_law_draw) .none kV7 dc7 pm7 an7 cd7 ct7), sl7⟩) (e7 : PySem.W.codeIn K cd7 "_law_draw" = true) (k7 : PySem.W.keepIn K (.ref f7) = true)
    {f8 : Addr} {od8 an8 : Option Addr} {sl8 : Array (Option Value)} {oc8 kV8 dc8 pm8 cd8 ct8 : Value}
    (a8 : PySem.W.nsIn K mainGlobals "_law_value" = some (some (.ref f8))) (l8 : K.lookup f8 = some ⟨oc8, od8, .func (PySem.W.fnOf "_law_value" "_law_value" (defArgs s_law_value) (defBody s_law_value) (defScope s_law_value) .none kV8 dc8 pm8 an8 cd8 ct8), sl8⟩) (e8 : PySem.W.codeIn K cd8 "_law_value" = true) (k8 : PySem.W.keepIn K (.ref f8) = true)
    {f9 : Addr} {od9 an9 : Option Addr} {sl9 : Array (Option Value)} {oc9 kV9 dc9 pm9 cd9 ct9 : Value}
    (a9 : PySem.W.nsIn K mainGlobals "_law_says" = some (some (.ref f9))) (l9 : K.lookup f9 = some ⟨oc9, od9, .func (PySem.W.fnOf "_law_says" "_law_says" (defArgs s_law_says) (defBody s_law_says) (defScope s_law_says) .none kV9 dc9 pm9 an9 cd9 ct9), sl9⟩) (e9 : PySem.W.codeIn K cd9 "_law_says" = true) (k9 : PySem.W.keepIn K (.ref f9) = true)
    {f10 : Addr} {od10 an10 : Option Addr} {sl10 : Array (Option Value)} {oc10 kV10 dc10 pm10 cd10 ct10 : Value}
    (a10 : PySem.W.nsIn K mainGlobals "_law_boxes" = some (some (.ref f10))) (l10 : K.lookup f10 = some ⟨oc10, od10, .func (PySem.W.fnOf "_law_boxes" "_law_boxes" (defArgs s_law_boxes) (defBody s_law_boxes) (defScope s_law_boxes) .none kV10 dc10 pm10 an10 cd10 ct10), sl10⟩) (e10 : PySem.W.codeIn K cd10 "_law_boxes" = true) (k10 : PySem.W.keepIn K (.ref f10) = true)
    {f11 : Addr} {od11 an11 : Option Addr} {sl11 : Array (Option Value)} {oc11 kV11 dc11 pm11 cd11 ct11 : Value}
    (a11 : PySem.W.nsIn K mainGlobals "_law_ring" = some (some (.ref f11))) (l11 : K.lookup f11 = some ⟨oc11, od11, .func (PySem.W.fnOf "_law_ring" "_law_ring" (defArgs s_law_ring) (defBody s_law_ring) (defScope s_law_ring) .none kV11 dc11 pm11 an11 cd11 ct11), sl11⟩) (e11 : PySem.W.codeIn K cd11 "_law_ring" = true) (k11 : PySem.W.keepIn K (.ref f11) = true)
    {f12 : Addr} {od12 an12 : Option Addr} {sl12 : Array (Option Value)} {oc12 kV12 dc12 pm12 cd12 ct12 : Value}
    (a12 : PySem.W.nsIn K mainGlobals "_law_longest" = some (some (.ref f12))) (l12 : K.lookup f12 = some ⟨oc12, od12, .func (PySem.W.fnOf "_law_longest" "_law_longest" (defArgs s_law_longest) (defBody s_law_longest) (defScope s_law_longest) .none kV12 dc12 pm12 an12 cd12 ct12), sl12⟩) (e12 : PySem.W.codeIn K cd12 "_law_longest" = true) (k12 : PySem.W.keepIn K (.ref f12) = true)
    {f13 : Addr} {od13 an13 : Option Addr} {sl13 : Array (Option Value)} {oc13 kV13 dc13 pm13 cd13 ct13 : Value}
    (a13 : PySem.W.nsIn K mainGlobals "_law_changed" = some (some (.ref f13))) (l13 : K.lookup f13 = some ⟨oc13, od13, .func (PySem.W.fnOf "_law_changed" "_law_changed" (defArgs s_law_changed) (defBody s_law_changed) (defScope s_law_changed) .none kV13 dc13 pm13 an13 cd13 ct13), sl13⟩) (e13 : PySem.W.codeIn K cd13 "_law_changed" = true) (k13 : PySem.W.keepIn K (.ref f13) = true)
    {f14 : Addr} {od14 an14 : Option Addr} {sl14 : Array (Option Value)} {oc14 kV14 dc14 pm14 cd14 ct14 : Value}
    (a14 : PySem.W.nsIn K mainGlobals "_law_is_ring" = some (some (.ref f14))) (l14 : K.lookup f14 = some ⟨oc14, od14, .func (PySem.W.fnOf "_law_is_ring" "_law_is_ring" (defArgs s_law_is_ring) (defBody s_law_is_ring) (defScope s_law_is_ring) .none kV14 dc14 pm14 an14 cd14 ct14), sl14⟩) (e14 : PySem.W.codeIn K cd14 "_law_is_ring" = true) (k14 : PySem.W.keepIn K (.ref f14) = true)
    {f15 : Addr} {od15 an15 : Option Addr} {sl15 : Array (Option Value)} {oc15 kV15 dc15 pm15 cd15 ct15 : Value}
    (a15 : PySem.W.nsIn K mainGlobals "_law_barred" = some (some (.ref f15))) (l15 : K.lookup f15 = some ⟨oc15, od15, .func (PySem.W.fnOf "_law_barred" "_law_barred" (defArgs s_law_barred) (defBody s_law_barred) (defScope s_law_barred) .none kV15 dc15 pm15 an15 cd15 ct15), sl15⟩) (e15 : PySem.W.codeIn K cd15 "_law_barred" = true) (k15 : PySem.W.keepIn K (.ref f15) = true)
    {f16 : Addr} {od16 an16 : Option Addr} {sl16 : Array (Option Value)} {oc16 kV16 dc16 pm16 cd16 ct16 : Value}
    (a16 : PySem.W.nsIn K mainGlobals "_law_ring_right" = some (some (.ref f16))) (l16 : K.lookup f16 = some ⟨oc16, od16, .func (PySem.W.fnOf "_law_ring_right" "_law_ring_right" (defArgs s_law_ring_right) (defBody s_law_ring_right) (defScope s_law_ring_right) .none kV16 dc16 pm16 an16 cd16 ct16), sl16⟩) (e16 : PySem.W.codeIn K cd16 "_law_ring_right" = true) (k16 : PySem.W.keepIn K (.ref f16) = true)
    {f17 : Addr} {od17 an17 : Option Addr} {sl17 : Array (Option Value)} {oc17 kV17 dc17 pm17 cd17 ct17 : Value}
    (a17 : PySem.W.nsIn K mainGlobals "_law_rings_right" = some (some (.ref f17))) (l17 : K.lookup f17 = some ⟨oc17, od17, .func (PySem.W.fnOf "_law_rings_right" "_law_rings_right" (defArgs s_law_rings_right) (defBody s_law_rings_right) (defScope s_law_rings_right) .none kV17 dc17 pm17 an17 cd17 ct17), sl17⟩) (e17 : PySem.W.codeIn K cd17 "_law_rings_right" = true) (k17 : PySem.W.keepIn K (.ref f17) = true)
    {f18 : Addr} {od18 an18 : Option Addr} {sl18 : Array (Option Value)} {oc18 kV18 dc18 pm18 cd18 ct18 : Value}
    (a18 : PySem.W.nsIn K mainGlobals "_law_pair_right" = some (some (.ref f18))) (l18 : K.lookup f18 = some ⟨oc18, od18, .func (PySem.W.fnOf "_law_pair_right" "_law_pair_right" (defArgs s_law_pair_right) (defBody s_law_pair_right) (defScope s_law_pair_right) .none kV18 dc18 pm18 an18 cd18 ct18), sl18⟩) (e18 : PySem.W.codeIn K cd18 "_law_pair_right" = true) (k18 : PySem.W.keepIn K (.ref f18) = true)
    {f19 : Addr} {od19 an19 : Option Addr} {sl19 : Array (Option Value)} {oc19 kV19 dc19 pm19 cd19 ct19 : Value}
    (a19 : PySem.W.nsIn K mainGlobals "law" = some (some (.ref f19))) (l19 : K.lookup f19 = some ⟨oc19, od19, .func (PySem.W.fnOf "law" "law" (defArgs s_law) (defBody s_law) (defScope s_law) .none kV19 dc19 pm19 an19 cd19 ct19), sl19⟩) (e19 : PySem.W.codeIn K cd19 "law" = true) (k19 : PySem.W.keepIn K (.ref f19) = true)
    (cg1 : PySem.W.specialIn K (.builtin "object.__class__") "__get__" = some (some (.builtin "getset_descriptor.__get__"))) (cg2 : PySem.W.takesIn K (.builtin "object.__class__") = some true)
    {C_Answer : Addr} (a_Answer : PySem.W.nsIn K mainGlobals "Answer" = some (some (.ref C_Answer))) (pg_Answer : PySem.W.plainGet K C_Answer Str.empty = true) (hd_Answer : PySem.W.hasDictIn K C_Answer = true) (po_Answer : PySem.W.plainOver K C_Answer = true) (sa_Answer : PySem.W.findIn K (.ref C_Answer) "__setattr__" = some (some (.builtin "object.__setattr__")))
    (mk_Answer : PySem.W.makesIn K C_Answer = true) (kc_Answer : PySem.W.keepIn K (.ref C_Answer) = true) (ha_Answer : PySem.W.findIn K (.ref C_Answer) "__class__" = some (some (.builtin "object.__class__"))) (hm_Answer : PySem.W.mroIn K C_Answer (.type "object") = some true)
    (ni_Answer : PySem.W.findIn K (.ref C_Answer) "__init__" = some (some (.builtin "object.__init__")))
    {C_All : Addr} (a_All : PySem.W.nsIn K mainGlobals "All" = some (some (.ref C_All))) (pg_All : PySem.W.plainGet K C_All Str.empty = true) (hd_All : PySem.W.hasDictIn K C_All = true) (po_All : PySem.W.plainOver K C_All = true) (sa_All : PySem.W.findIn K (.ref C_All) "__setattr__" = some (some (.builtin "object.__setattr__")))
    (mk_All : PySem.W.makesIn K C_All = true) (kc_All : PySem.W.keepIn K (.ref C_All) = true) (ha_All : PySem.W.findIn K (.ref C_All) "__class__" = some (some (.builtin "object.__class__"))) (hm_All : PySem.W.mroIn K C_All (.type "object") = some true)
    (ni_All : PySem.W.findIn K (.ref C_All) "__init__" = some (some (.builtin "object.__init__")))
    {f_All_shows : Addr} {od_All_shows an_All_shows : Option Addr} {sl_All_shows : Array (Option Value)} {oc_All_shows kV_All_shows dc_All_shows pm_All_shows cd_All_shows ct_All_shows : Value}
    (a_All_shows : PySem.W.findIn K (.ref C_All) "shows" = some (some (.ref f_All_shows))) (l_All_shows : K.lookup f_All_shows = some ⟨oc_All_shows, od_All_shows, .func (PySem.W.fnOf "shows" "All.shows" (defArgs s_All_shows) (defBody s_All_shows) (defScope s_All_shows) .none kV_All_shows dc_All_shows pm_All_shows an_All_shows cd_All_shows ct_All_shows), sl_All_shows⟩) (e_All_shows : PySem.W.codeIn K cd_All_shows "All.shows" = true) (k_All_shows : PySem.W.keepIn K (.ref f_All_shows) = true) (fn_All_shows : PySem.W.isFn K (.ref f_All_shows) = true)
    {C_Long : Addr} (a_Long : PySem.W.nsIn K mainGlobals "Long" = some (some (.ref C_Long))) (pg_Long : PySem.W.plainGet K C_Long Str.empty = true) (hd_Long : PySem.W.hasDictIn K C_Long = true) (po_Long : PySem.W.plainOver K C_Long = true) (sa_Long : PySem.W.findIn K (.ref C_Long) "__setattr__" = some (some (.builtin "object.__setattr__")))
    (mk_Long : PySem.W.makesIn K C_Long = true) (kc_Long : PySem.W.keepIn K (.ref C_Long) = true) (ha_Long : PySem.W.findIn K (.ref C_Long) "__class__" = some (some (.builtin "object.__class__"))) (hm_Long : PySem.W.mroIn K C_Long (.type "object") = some true)
    {f_Long_init : Addr} {od_Long_init an_Long_init : Option Addr} {sl_Long_init : Array (Option Value)} {oc_Long_init kV_Long_init dc_Long_init pm_Long_init cd_Long_init ct_Long_init : Value}
    (a_Long_init : PySem.W.findIn K (.ref C_Long) "__init__" = some (some (.ref f_Long_init))) (l_Long_init : K.lookup f_Long_init = some ⟨oc_Long_init, od_Long_init, .func (PySem.W.fnOf "__init__" "Long.__init__" (defArgs s_Long___init__) (defBody s_Long___init__) (defScope s_Long___init__) .none kV_Long_init dc_Long_init pm_Long_init an_Long_init cd_Long_init ct_Long_init), sl_Long_init⟩) (e_Long_init : PySem.W.codeIn K cd_Long_init "Long.__init__" = true) (k_Long_init : PySem.W.keepIn K (.ref f_Long_init) = true) (fn_Long_init : PySem.W.isFn K (.ref f_Long_init) = true)
    {f_Long_shows : Addr} {od_Long_shows an_Long_shows : Option Addr} {sl_Long_shows : Array (Option Value)} {oc_Long_shows kV_Long_shows dc_Long_shows pm_Long_shows cd_Long_shows ct_Long_shows : Value}
    (a_Long_shows : PySem.W.findIn K (.ref C_Long) "shows" = some (some (.ref f_Long_shows))) (l_Long_shows : K.lookup f_Long_shows = some ⟨oc_Long_shows, od_Long_shows, .func (PySem.W.fnOf "shows" "Long.shows" (defArgs s_Long_shows) (defBody s_Long_shows) (defScope s_Long_shows) .none kV_Long_shows dc_Long_shows pm_Long_shows an_Long_shows cd_Long_shows ct_Long_shows), sl_Long_shows⟩) (e_Long_shows : PySem.W.codeIn K cd_Long_shows "Long.shows" = true) (k_Long_shows : PySem.W.keepIn K (.ref f_Long_shows) = true) (fn_Long_shows : PySem.W.isFn K (.ref f_Long_shows) = true)
    (na_Long_ring : PySem.W.findIn K (.ref C_Long) "ring" = some none)
    {C_Mend : Addr} (a_Mend : PySem.W.nsIn K mainGlobals "Mend" = some (some (.ref C_Mend))) (pg_Mend : PySem.W.plainGet K C_Mend Str.empty = true) (hd_Mend : PySem.W.hasDictIn K C_Mend = true) (po_Mend : PySem.W.plainOver K C_Mend = true) (sa_Mend : PySem.W.findIn K (.ref C_Mend) "__setattr__" = some (some (.builtin "object.__setattr__")))
    (mk_Mend : PySem.W.makesIn K C_Mend = true) (kc_Mend : PySem.W.keepIn K (.ref C_Mend) = true) (ha_Mend : PySem.W.findIn K (.ref C_Mend) "__class__" = some (some (.builtin "object.__class__"))) (hm_Mend : PySem.W.mroIn K C_Mend (.type "object") = some true)
    {f_Mend_init : Addr} {od_Mend_init an_Mend_init : Option Addr} {sl_Mend_init : Array (Option Value)} {oc_Mend_init kV_Mend_init dc_Mend_init pm_Mend_init cd_Mend_init ct_Mend_init : Value}
    (a_Mend_init : PySem.W.findIn K (.ref C_Mend) "__init__" = some (some (.ref f_Mend_init))) (l_Mend_init : K.lookup f_Mend_init = some ⟨oc_Mend_init, od_Mend_init, .func (PySem.W.fnOf "__init__" "Mend.__init__" (defArgs s_Mend___init__) (defBody s_Mend___init__) (defScope s_Mend___init__) .none kV_Mend_init dc_Mend_init pm_Mend_init an_Mend_init cd_Mend_init ct_Mend_init), sl_Mend_init⟩) (e_Mend_init : PySem.W.codeIn K cd_Mend_init "Mend.__init__" = true) (k_Mend_init : PySem.W.keepIn K (.ref f_Mend_init) = true) (fn_Mend_init : PySem.W.isFn K (.ref f_Mend_init) = true)
    {f_Mend_shows : Addr} {od_Mend_shows an_Mend_shows : Option Addr} {sl_Mend_shows : Array (Option Value)} {oc_Mend_shows kV_Mend_shows dc_Mend_shows pm_Mend_shows cd_Mend_shows ct_Mend_shows : Value}
    (a_Mend_shows : PySem.W.findIn K (.ref C_Mend) "shows" = some (some (.ref f_Mend_shows))) (l_Mend_shows : K.lookup f_Mend_shows = some ⟨oc_Mend_shows, od_Mend_shows, .func (PySem.W.fnOf "shows" "Mend.shows" (defArgs s_Mend_shows) (defBody s_Mend_shows) (defScope s_Mend_shows) .none kV_Mend_shows dc_Mend_shows pm_Mend_shows an_Mend_shows cd_Mend_shows ct_Mend_shows), sl_Mend_shows⟩) (e_Mend_shows : PySem.W.codeIn K cd_Mend_shows "Mend.shows" = true) (k_Mend_shows : PySem.W.keepIn K (.ref f_Mend_shows) = true) (fn_Mend_shows : PySem.W.isFn K (.ref f_Mend_shows) = true)
    (na_Mend_one : PySem.W.findIn K (.ref C_Mend) "one" = some none)
    (na_Mend_other : PySem.W.findIn K (.ref C_Mend) "other" = some none)
    {C_Barred : Addr} (a_Barred : PySem.W.nsIn K mainGlobals "Barred" = some (some (.ref C_Barred))) (pg_Barred : PySem.W.plainGet K C_Barred Str.empty = true) (hd_Barred : PySem.W.hasDictIn K C_Barred = true) (po_Barred : PySem.W.plainOver K C_Barred = true) (sa_Barred : PySem.W.findIn K (.ref C_Barred) "__setattr__" = some (some (.builtin "object.__setattr__")))
    (mk_Barred : PySem.W.makesIn K C_Barred = true) (kc_Barred : PySem.W.keepIn K (.ref C_Barred) = true) (ha_Barred : PySem.W.findIn K (.ref C_Barred) "__class__" = some (some (.builtin "object.__class__"))) (hm_Barred : PySem.W.mroIn K C_Barred (.type "object") = some true)
    {f_Barred_init : Addr} {od_Barred_init an_Barred_init : Option Addr} {sl_Barred_init : Array (Option Value)} {oc_Barred_init kV_Barred_init dc_Barred_init pm_Barred_init cd_Barred_init ct_Barred_init : Value}
    (a_Barred_init : PySem.W.findIn K (.ref C_Barred) "__init__" = some (some (.ref f_Barred_init))) (l_Barred_init : K.lookup f_Barred_init = some ⟨oc_Barred_init, od_Barred_init, .func (PySem.W.fnOf "__init__" "Barred.__init__" (defArgs s_Barred___init__) (defBody s_Barred___init__) (defScope s_Barred___init__) .none kV_Barred_init dc_Barred_init pm_Barred_init an_Barred_init cd_Barred_init ct_Barred_init), sl_Barred_init⟩) (e_Barred_init : PySem.W.codeIn K cd_Barred_init "Barred.__init__" = true) (k_Barred_init : PySem.W.keepIn K (.ref f_Barred_init) = true) (fn_Barred_init : PySem.W.isFn K (.ref f_Barred_init) = true)
    {f_Barred_shows : Addr} {od_Barred_shows an_Barred_shows : Option Addr} {sl_Barred_shows : Array (Option Value)} {oc_Barred_shows kV_Barred_shows dc_Barred_shows pm_Barred_shows cd_Barred_shows ct_Barred_shows : Value}
    (a_Barred_shows : PySem.W.findIn K (.ref C_Barred) "shows" = some (some (.ref f_Barred_shows))) (l_Barred_shows : K.lookup f_Barred_shows = some ⟨oc_Barred_shows, od_Barred_shows, .func (PySem.W.fnOf "shows" "Barred.shows" (defArgs s_Barred_shows) (defBody s_Barred_shows) (defScope s_Barred_shows) .none kV_Barred_shows dc_Barred_shows pm_Barred_shows an_Barred_shows cd_Barred_shows ct_Barred_shows), sl_Barred_shows⟩) (e_Barred_shows : PySem.W.codeIn K cd_Barred_shows "Barred.shows" = true) (k_Barred_shows : PySem.W.keepIn K (.ref f_Barred_shows) = true) (fn_Barred_shows : PySem.W.isFn K (.ref f_Barred_shows) = true)
    (na_Barred_rings : PySem.W.findIn K (.ref C_Barred) "rings" = some none)
    (q_All_Answer : PySem.W.kitOne K (.ref C_All) (.ref C_Answer) = some true)
    (q_All_All : PySem.W.kitOne K (.ref C_All) (.ref C_All) = some true)
    (q_All_Long : PySem.W.kitOne K (.ref C_All) (.ref C_Long) = some false)
    (q_All_Mend : PySem.W.kitOne K (.ref C_All) (.ref C_Mend) = some false)
    (q_All_Barred : PySem.W.kitOne K (.ref C_All) (.ref C_Barred) = some false)
    (q_Long_Answer : PySem.W.kitOne K (.ref C_Long) (.ref C_Answer) = some true)
    (q_Long_All : PySem.W.kitOne K (.ref C_Long) (.ref C_All) = some false)
    (q_Long_Long : PySem.W.kitOne K (.ref C_Long) (.ref C_Long) = some true)
    (q_Long_Mend : PySem.W.kitOne K (.ref C_Long) (.ref C_Mend) = some false)
    (q_Long_Barred : PySem.W.kitOne K (.ref C_Long) (.ref C_Barred) = some false)
    (q_Mend_Answer : PySem.W.kitOne K (.ref C_Mend) (.ref C_Answer) = some true)
    (q_Mend_All : PySem.W.kitOne K (.ref C_Mend) (.ref C_All) = some false)
    (q_Mend_Long : PySem.W.kitOne K (.ref C_Mend) (.ref C_Long) = some false)
    (q_Mend_Mend : PySem.W.kitOne K (.ref C_Mend) (.ref C_Mend) = some true)
    (q_Mend_Barred : PySem.W.kitOne K (.ref C_Mend) (.ref C_Barred) = some false)
    (q_Barred_Answer : PySem.W.kitOne K (.ref C_Barred) (.ref C_Answer) = some true)
    (q_Barred_All : PySem.W.kitOne K (.ref C_Barred) (.ref C_All) = some false)
    (q_Barred_Long : PySem.W.kitOne K (.ref C_Barred) (.ref C_Long) = some false)
    (q_Barred_Mend : PySem.W.kitOne K (.ref C_Barred) (.ref C_Mend) = some false)
    (q_Barred_Barred : PySem.W.kitOne K (.ref C_Barred) (.ref C_Barred) = some true)
    (z0 : PySem.W.nsIn K mainGlobals "len" = some none)
    (z1 : PySem.W.nsIn K mainGlobals "range" = some none)
    (z2 : PySem.W.nsIn K mainGlobals "list" = some none)
    (z3 : PySem.W.nsIn K mainGlobals "isinstance" = some none)
    (z4 : PySem.W.nsIn K mainGlobals "all" = some none)
    (z5 : PySem.W.nsIn K mainGlobals "any" = some none)
    (z6 : PySem.W.nsIn K mainGlobals "int" = some none)
    (z7 : PySem.W.nsIn K mainGlobals "bool" = some none)
    (z8 : PySem.W.nsIn K mainGlobals "max" = some none)
    (z9 : PySem.W.nsIn K mainGlobals "min" = some none)
    (z10 : PySem.W.nsIn K mainGlobals "zip" = some none)
    (z11 : PySem.W.nsIn K mainGlobals "set" = some none)
    : ∃ fd : FuncData, (∀ (s : Shared) (v : Value), BindsTo s fd ⟨[v], []⟩ [("_law_script", v)]) ∧ ∀ base : Heap, K.In base → base.Ns mainGlobals mg → FnOk l.prog w K mg base CX0 8 fa fd ["_law_script"] (spLaw K) := by
  have e := hfa.symm.trans (PySem.W.mg_of X G a19)
  cases e
  have F0 := fun_mk (st := s_is_whole) l0 e0 k0
  have F1 := fun_mk (st := s_ring_from) l1 e1 k1
  have F2 := fun_mk (st := s_rings_of) l2 e2 k2
  have F3 := fun_mk (st := s_exchanged) l3 e3 k3
  have F4 := fun_mk (st := s_long_rings) l4 e4 k4
  have F5 := fun_mk (st := s_is_ring) l5 e5 k5
  have F6 := fun_mk (st := s_law_cell_at) l6 e6 k6
  have F7 := fun_mk (st := s_law_draw) l7 e7 k7
  have F8 := fun_mk (st := s_law_value) l8 e8 k8
  have F9 := fun_mk (st := s_law_says) l9 e9 k9
  have F10 := fun_mk (st := s_law_boxes) l10 e10 k10
  have F11 := fun_mk (st := s_law_ring) l11 e11 k11
  have F12 := fun_mk (st := s_law_longest) l12 e12 k12
  have F13 := fun_mk (st := s_law_changed) l13 e13 k13
  have F14 := fun_mk (st := s_law_is_ring) l14 e14 k14
  have F15 := fun_mk (st := s_law_barred) l15 e15 k15
  have F16 := fun_mk (st := s_law_ring_right) l16 e16 k16
  have F17 := fun_mk (st := s_law_rings_right) l17 e17 k17
  have F18 := fun_mk (st := s_law_pair_right) l18 e18 k18
  have F19 := fun_mk (st := s_law) l19 e19 k19
  refine ⟨_, fun s v => ?b, fun base _ _ => ok_law ⟨⟨_, _, F0, PySem.W.mg_of X G a0, F0.binds (ps := ["thing"]) fun _ _ _ _ _ _ us hl => match us, hl with | [_], _ => rfl⟩, ⟨_, _, F1, PySem.W.mg_of X G a1, F1.binds (ps := ["boxes", "hand"]) fun _ _ _ _ _ _ us hl => match us, hl with | [_, _], _ => rfl⟩, ⟨_, _, F2, PySem.W.mg_of X G a2, F2.binds (ps := ["boxes"]) fun _ _ _ _ _ _ us hl => match us, hl with | [_], _ => rfl⟩, ⟨_, _, F3, PySem.W.mg_of X G a3, F3.binds (ps := ["boxes", "one", "other"]) fun _ _ _ _ _ _ us hl => match us, hl with | [_, _, _], _ => rfl⟩, ⟨_, _, F4, PySem.W.mg_of X G a4, F4.binds (ps := ["boxes", "most"]) fun _ _ _ _ _ _ us hl => match us, hl with | [_, _], _ => rfl⟩, ⟨_, _, F5, PySem.W.mg_of X G a5, F5.binds (ps := ["boxes", "ring"]) fun _ _ _ _ _ _ us hl => match us, hl with | [_, _], _ => rfl⟩, ⟨_, _, F6, PySem.W.mg_of X G a6, F6.binds (ps := ["_law_script", "_law_k"]) fun _ _ _ _ _ _ us hl => match us, hl with | [_, _], _ => rfl⟩, ⟨_, _, F7, PySem.W.mg_of X G a7, F7.binds (ps := ["_law_cell", "_law_k", "_law_many"]) fun _ _ _ _ _ _ us hl => match us, hl with | [_, _, _], _ => rfl⟩, ⟨_, _, F8, PySem.W.mg_of X G a8, F8.binds (ps := ["_law_cell", "_law_turn"]) fun _ _ _ _ _ _ us hl => match us, hl with | [_, _], _ => rfl⟩, ⟨_, _, F9, PySem.W.mg_of X G a9, F9.binds (ps := ["_law_said", "_law_due"]) fun _ _ _ _ _ _ us hl => match us, hl with | [_, _], _ => rfl⟩, ⟨_, _, F10, PySem.W.mg_of X G a10, F10.binds (ps := ["_law_script", "_law_by", "_law_most"]) fun _ _ _ _ _ _ us hl => match us, hl with | [_, _, _], _ => rfl⟩, ⟨_, _, F11, PySem.W.mg_of X G a11, F11.binds (ps := ["_law_boxes_here", "_law_hand"]) fun _ _ _ _ _ _ us hl => match us, hl with | [_, _], _ => rfl⟩, ⟨_, _, F12, PySem.W.mg_of X G a12, F12.binds (ps := ["_law_boxes_here"]) fun _ _ _ _ _ _ us hl => match us, hl with | [_], _ => rfl⟩, ⟨_, _, F13, PySem.W.mg_of X G a13, F13.binds (ps := ["_law_boxes_here", "_law_one", "_law_other"]) fun _ _ _ _ _ _ us hl => match us, hl with | [_, _, _], _ => rfl⟩, ⟨_, _, F14, PySem.W.mg_of X G a14, F14.binds (ps := ["_law_boxes_here", "_law_ring_here"]) fun _ _ _ _ _ _ us hl => match us, hl with | [_, _], _ => rfl⟩, ⟨_, _, F15, PySem.W.mg_of X G a15, F15.binds (ps := ["_law_boxes_here", "_law_most", "_law_several"]) fun _ _ _ _ _ _ us hl => match us, hl with | [_, _, _], _ => rfl⟩, ⟨_, _, F16, PySem.W.mg_of X G a16, F16.binds (ps := ["_law_boxes_here", "_law_most", "_law_ring_here"]) fun _ _ _ _ _ _ us hl => match us, hl with | [_, _, _], _ => rfl⟩, ⟨_, _, F17, PySem.W.mg_of X G a17, F17.binds (ps := ["_law_boxes_here", "_law_most", "_law_several"]) fun _ _ _ _ _ _ us hl => match us, hl with | [_, _, _], _ => rfl⟩, ⟨_, _, F18, PySem.W.mg_of X G a18, F18.binds (ps := ["_law_boxes_here", "_law_most", "_law_one", "_law_other"]) fun _ _ _ _ _ _ us hl => match us, hl with | [_, _, _, _], _ => rfl⟩, ⟨cg1, cg2⟩, ⟨C_Answer, PySem.W.mg_of X G a_Answer, ⟨pg_Answer, hd_Answer, po_Answer, sa_Answer⟩, mk_Answer, kc_Answer, ha_Answer, hm_Answer⟩, ni_Answer, ⟨C_All, PySem.W.mg_of X G a_All, ⟨pg_All, hd_All, po_All, sa_All⟩, mk_All, kc_All, ha_All, hm_All⟩, ni_All, ⟨_, _, fun_mk (st := s_All_shows) l_All_shows e_All_shows k_All_shows, a_All_shows, fn_All_shows, (fun_mk (st := s_All_shows) l_All_shows e_All_shows k_All_shows).binds (ps := ["self", "boxes", "most"]) fun _ _ _ _ _ _ us hl => match us, hl with | [_, _, _], _ => rfl⟩, ⟨C_Long, PySem.W.mg_of X G a_Long, ⟨pg_Long, hd_Long, po_Long, sa_Long⟩, mk_Long, kc_Long, ha_Long, hm_Long⟩, ⟨_, _, fun_mk (st := s_Long___init__) l_Long_init e_Long_init k_Long_init, a_Long_init, fn_Long_init, (fun_mk (st := s_Long___init__) l_Long_init e_Long_init k_Long_init).binds (ps := ["self", "ring"]) fun _ _ _ _ _ _ us hl => match us, hl with | [_, _], _ => rfl⟩, ⟨_, _, fun_mk (st := s_Long_shows) l_Long_shows e_Long_shows k_Long_shows, a_Long_shows, fn_Long_shows, (fun_mk (st := s_Long_shows) l_Long_shows e_Long_shows k_Long_shows).binds (ps := ["self", "boxes", "most"]) fun _ _ _ _ _ _ us hl => match us, hl with | [_, _, _], _ => rfl⟩, na_Long_ring, ⟨C_Mend, PySem.W.mg_of X G a_Mend, ⟨pg_Mend, hd_Mend, po_Mend, sa_Mend⟩, mk_Mend, kc_Mend, ha_Mend, hm_Mend⟩, ⟨_, _, fun_mk (st := s_Mend___init__) l_Mend_init e_Mend_init k_Mend_init, a_Mend_init, fn_Mend_init, (fun_mk (st := s_Mend___init__) l_Mend_init e_Mend_init k_Mend_init).binds (ps := ["self", "one", "other"]) fun _ _ _ _ _ _ us hl => match us, hl with | [_, _, _], _ => rfl⟩, ⟨_, _, fun_mk (st := s_Mend_shows) l_Mend_shows e_Mend_shows k_Mend_shows, a_Mend_shows, fn_Mend_shows, (fun_mk (st := s_Mend_shows) l_Mend_shows e_Mend_shows k_Mend_shows).binds (ps := ["self", "boxes", "most"]) fun _ _ _ _ _ _ us hl => match us, hl with | [_, _, _], _ => rfl⟩, na_Mend_one, na_Mend_other, ⟨C_Barred, PySem.W.mg_of X G a_Barred, ⟨pg_Barred, hd_Barred, po_Barred, sa_Barred⟩, mk_Barred, kc_Barred, ha_Barred, hm_Barred⟩, ⟨_, _, fun_mk (st := s_Barred___init__) l_Barred_init e_Barred_init k_Barred_init, a_Barred_init, fn_Barred_init, (fun_mk (st := s_Barred___init__) l_Barred_init e_Barred_init k_Barred_init).binds (ps := ["self", "rings"]) fun _ _ _ _ _ _ us hl => match us, hl with | [_, _], _ => rfl⟩, ⟨_, _, fun_mk (st := s_Barred_shows) l_Barred_shows e_Barred_shows k_Barred_shows, a_Barred_shows, fn_Barred_shows, (fun_mk (st := s_Barred_shows) l_Barred_shows e_Barred_shows k_Barred_shows).binds (ps := ["self", "boxes", "most"]) fun _ _ _ _ _ _ us hl => match us, hl with | [_, _, _], _ => rfl⟩, na_Barred_rings, q_All_Answer, q_All_All, q_All_Long, q_All_Mend, q_All_Barred, q_Long_Answer, q_Long_All, q_Long_Long, q_Long_Mend, q_Long_Barred, q_Mend_Answer, q_Mend_All, q_Mend_Long, q_Mend_Mend, q_Mend_Barred, q_Barred_Answer, q_Barred_All, q_Barred_Long, q_Barred_Mend, q_Barred_Barred, PySem.W.mg_none_of X G z0, PySem.W.mg_none_of X G z1, PySem.W.mg_none_of X G z2, PySem.W.mg_none_of X G z3, PySem.W.mg_none_of X G z4, PySem.W.mg_none_of X G z5, PySem.W.mg_none_of X G z6, PySem.W.mg_none_of X G z7, PySem.W.mg_none_of X G z8, PySem.W.mg_none_of X G z9, PySem.W.mg_none_of X G z10, PySem.W.mg_none_of X G z11⟩ F19⟩
  exact .of_eq rfl
end Sb
open PySem PySem.W PyProof.Rows
set_option maxHeartbeats 0 in
theorem PySem.Challenge.cw_slipboxes_k07_by_hand_holds : PySem.Challenge.rw_slipboxes_k07_by_hand.Holds := by
  w_on; o_law; k_head; (case hw => w_witness2)
  k_fill
  refine L2.walk_ofB (l := PySem.Challenge.rw_slipboxes_k07_by_hand) (n := 63) (k := 8) (x := "_law_script") (CX := fun _ => L2.CX0) (sp := fun w => Sb.spLaw _) rfl (by decide) rfl ⟨rfl, by decide, by decide⟩ (fun w h Y => PySem.W.kIn_of Y) ?F (fun _ _ a ns hl hb _ hS => ⟨a, ns, rfl, hS, hl, hb, fun _ => rfl⟩) (fun _ _ _ _ _ h => h)
  case F =>
    intro w mg fa h KX G hmg
    refine' Sb.all_mk KX G hmg ?a0 ?l0 ?e0 ?k0 ?a1 ?l1 ?e1 ?k1 ?a2 ?l2 ?e2 ?k2 ?a3 ?l3 ?e3 ?k3 ?a4 ?l4 ?e4 ?k4 ?a5 ?l5 ?e5 ?k5 ?a6 ?l6 ?e6 ?k6 ?a7 ?l7 ?e7 ?k7 ?a8 ?l8 ?e8 ?k8 ?a9 ?l9 ?e9 ?k9 ?a10 ?l10 ?e10 ?k10 ?a11 ?l11 ?e11 ?k11 ?a12 ?l12 ?e12 ?k12 ?a13 ?l13 ?e13 ?k13 ?a14 ?l14 ?e14 ?k14 ?a15 ?l15 ?e15 ?k15 ?a16 ?l16 ?e16 ?k16 ?a17 ?l17 ?e17 ?k17 ?a18 ?l18 ?e18 ?k18 ?a19 ?l19 ?e19 ?k19 ?cg1 ?cg2 ?a_Answer ?pg_Answer ?hd_Answer ?po_Answer ?sa_Answer ?mk_Answer ?kc_Answer ?ha_Answer ?hm_Answer ?ni_Answer ?a_All ?pg_All ?hd_All ?po_All ?sa_All ?mk_All ?kc_All ?ha_All ?hm_All ?ni_All ?a_All_shows ?l_All_shows ?e_All_shows ?k_All_shows ?fn_All_shows ?a_Long ?pg_Long ?hd_Long ?po_Long ?sa_Long ?mk_Long ?kc_Long ?ha_Long ?hm_Long ?a_Long_init ?l_Long_init ?e_Long_init ?k_Long_init ?fn_Long_init ?a_Long_shows ?l_Long_shows ?e_Long_shows ?k_Long_shows ?fn_Long_shows ?na_Long_ring ?a_Mend ?pg_Mend ?hd_Mend ?po_Mend ?sa_Mend ?mk_Mend ?kc_Mend ?ha_Mend ?hm_Mend ?a_Mend_init ?l_Mend_init ?e_Mend_init ?k_Mend_init ?fn_Mend_init ?a_Mend_shows ?l_Mend_shows ?e_Mend_shows ?k_Mend_shows ?fn_Mend_shows ?na_Mend_one ?na_Mend_other ?a_Barred ?pg_Barred ?hd_Barred ?po_Barred ?sa_Barred ?mk_Barred ?kc_Barred ?ha_Barred ?hm_Barred ?a_Barred_init ?l_Barred_init ?e_Barred_init ?k_Barred_init ?fn_Barred_init ?a_Barred_shows ?l_Barred_shows ?e_Barred_shows ?k_Barred_shows ?fn_Barred_shows ?na_Barred_rings ?q_All_Answer ?q_All_All ?q_All_Long ?q_All_Mend ?q_All_Barred ?q_Long_Answer ?q_Long_All ?q_Long_Long ?q_Long_Mend ?q_Long_Barred ?q_Mend_Answer ?q_Mend_All ?q_Mend_Long ?q_Mend_Mend ?q_Mend_Barred ?q_Barred_Answer ?q_Barred_All ?q_Barred_Long ?q_Barred_Mend ?q_Barred_Barred ?z0 ?z1 ?z2 ?z3 ?z4 ?z5 ?z6 ?z7 ?z8 ?z9 ?z10 ?z11
    (case a0 => k_is)
    (case l0 => k_is)
    (case e0 => k_is)
    (case k0 => k_is)
    (case a1 => k_is)
    (case l1 => k_is)
    (case e1 => k_is)
    (case k1 => k_is)
    (case a2 => k_is)
    (case l2 => k_is)
    (case e2 => k_is)
    (case k2 => k_is)
    (case a3 => k_is)
    (case l3 => k_is)
    (case e3 => k_is)
    (case k3 => k_is)
    (case a4 => k_is)
    (case l4 => k_is)
    (case e4 => k_is)
    (case k4 => k_is)
    (case a5 => k_is)
    (case l5 => k_is)
    (case e5 => k_is)
    (case k5 => k_is)
    (case a6 => k_is)
    (case l6 => k_is)
    (case e6 => k_is)
    (case k6 => k_is)
    (case a7 => k_is)
    (case l7 => k_is)
    (case e7 => k_is)
    (case k7 => k_is)
    (case a8 => k_is)
    (case l8 => k_is)
    (case e8 => k_is)
    (case k8 => k_is)
    (case a9 => k_is)
    (case l9 => k_is)
    (case e9 => k_is)
    (case k9 => k_is)
    (case a10 => k_is)
    (case l10 => k_is)
    (case e10 => k_is)
    (case k10 => k_is)
    (case a11 => k_is)
    (case l11 => k_is)
    (case e11 => k_is)
    (case k11 => k_is)
    (case a12 => k_is)
    (case l12 => k_is)
    (case e12 => k_is)
    (case k12 => k_is)
    (case a13 => k_is)
    (case l13 => k_is)
    (case e13 => k_is)
    (case k13 => k_is)
    (case a14 => k_is)
    (case l14 => k_is)
    (case e14 => k_is)
    (case k14 => k_is)
    (case a15 => k_is)
    (case l15 => k_is)
    (case e15 => k_is)
    (case k15 => k_is)
    (case a16 => k_is)
    (case l16 => k_is)
    (case e16 => k_is)
    (case k16 => k_is)
    (case a17 => k_is)
    (case l17 => k_is)
    (case e17 => k_is)
    (case k17 => k_is)
    (case a18 => k_is)
    (case l18 => k_is)
    (case e18 => k_is)
    (case k18 => k_is)
    (case a19 => k_is)
    (case l19 => k_is)
    (case e19 => k_is)
    (case k19 => k_is)
    (case cg1 => k_is)
    (case cg2 => k_is)
    (case a_Answer => k_is)
    (case pg_Answer => k_is)
    (case hd_Answer => k_is)
    (case po_Answer => k_is)
    (case sa_Answer => k_is)
    (case mk_Answer => k_is)
    (case kc_Answer => k_is)
    (case ha_Answer => k_is)
    (case hm_Answer => k_is)
    (case ni_Answer => k_is)
    (case a_All => k_is)
    (case pg_All => k_is)
    (case hd_All => k_is)
    (case po_All => k_is)
    (case sa_All => k_is)
    (case mk_All => k_is)
    (case kc_All => k_is)
    (case ha_All => k_is)
    (case hm_All => k_is)
    (case ni_All => k_is)
    (case a_All_shows => k_is)
    (case l_All_shows => k_is)
    (case e_All_shows => k_is)
    (case k_All_shows => k_is)
    (case fn_All_shows => k_is)
    (case a_Long => k_is)
    (case pg_Long => k_is)
    (case hd_Long => k_is)
    (case po_Long => k_is)
    (case sa_Long => k_is)
    (case mk_Long => k_is)
    (case kc_Long => k_is)
    (case ha_Long => k_is)
    (case hm_Long => k_is)
    (case a_Long_init => k_is)
    (case l_Long_init => k_is)
    (case e_Long_init => k_is)
    (case k_Long_init => k_is)
    (case fn_Long_init => k_is)
    (case a_Long_shows => k_is)
    (case l_Long_shows => k_is)
    (case e_Long_shows => k_is)
    (case k_Long_shows => k_is)
    (case fn_Long_shows => k_is)
    (case na_Long_ring => k_is)
    (case a_Mend => k_is)
    (case pg_Mend => k_is)
    (case hd_Mend => k_is)
    (case po_Mend => k_is)
    (case sa_Mend => k_is)
    (case mk_Mend => k_is)
    (case kc_Mend => k_is)
    (case ha_Mend => k_is)
    (case hm_Mend => k_is)
    (case a_Mend_init => k_is)
    (case l_Mend_init => k_is)
    (case e_Mend_init => k_is)
    (case k_Mend_init => k_is)
    (case fn_Mend_init => k_is)
    (case a_Mend_shows => k_is)
    (case l_Mend_shows => k_is)
    (case e_Mend_shows => k_is)
    (case k_Mend_shows => k_is)
    (case fn_Mend_shows => k_is)
    (case na_Mend_one => k_is)
    (case na_Mend_other => k_is)
    (case a_Barred => k_is)
    (case pg_Barred => k_is)
    (case hd_Barred => k_is)
    (case po_Barred => k_is)
    (case sa_Barred => k_is)
    (case mk_Barred => k_is)
    (case kc_Barred => k_is)
    (case ha_Barred => k_is)
    (case hm_Barred => k_is)
    (case a_Barred_init => k_is)
    (case l_Barred_init => k_is)
    (case e_Barred_init => k_is)
    (case k_Barred_init => k_is)
    (case fn_Barred_init => k_is)
    (case a_Barred_shows => k_is)
    (case l_Barred_shows => k_is)
    (case e_Barred_shows => k_is)
    (case k_Barred_shows => k_is)
    (case fn_Barred_shows => k_is)
    (case na_Barred_rings => k_is)
    (case q_All_Answer => kit_is)
    (case q_All_All => kit_is)
    (case q_All_Long => kit_is)
    (case q_All_Mend => kit_is)
    (case q_All_Barred => kit_is)
    (case q_Long_Answer => kit_is)
    (case q_Long_All => kit_is)
    (case q_Long_Long => kit_is)
    (case q_Long_Mend => kit_is)
    (case q_Long_Barred => kit_is)
    (case q_Mend_Answer => kit_is)
    (case q_Mend_All => kit_is)
    (case q_Mend_Long => kit_is)
    (case q_Mend_Mend => kit_is)
    (case q_Mend_Barred => kit_is)
    (case q_Barred_Answer => kit_is)
    (case q_Barred_All => kit_is)
    (case q_Barred_Long => kit_is)
    (case q_Barred_Mend => kit_is)
    (case q_Barred_Barred => kit_is)
    (case z0 => k_is)
    (case z1 => k_is)
    (case z2 => k_is)
    (case z3 => k_is)
    (case z4 => k_is)
    (case z5 => k_is)
    (case z6 => k_is)
    (case z7 => k_is)
    (case z8 => k_is)
    (case z9 => k_is)
    (case z10 => k_is)
    (case z11 => k_is)

