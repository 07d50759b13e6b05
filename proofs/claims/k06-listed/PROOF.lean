import PyProof.Rows.All
import Wide.All
import OpenK.AllK
import Wide.FinOn
import HandS.ForMost
import HandS.IsInst
import HandS.Conv
import HandS.More
import HandS.Zip
import HandS.Wide
import HandS.SortInts
import HandS.EndBits
import KE.IntBitsLaws
import HandS.Style
import HandS.Walk
import HandS.Codes
import KE.BitLaws
import KE.DataCmp
import KE.SortData
import PySem.Challenge.RW_slipboxes_k06_listed
set_option Elab.async false
set_option linter.all false
set_option maxRecDepth 100000
set_option maxHeartbeats 4000000
/-! Rings of boxes, in plain Lean. -/
namespace Sb

/-- the slip in box i -/
def nxt (ns : List Nat) (i : Nat) : Nat := ns.getD i 0

/-- boxes: each number below the length once -/
structure Good (ns : List Nat) : Prop where
  perm : ns.Perm (List.range ns.length)

theorem Good.nodup {ns : List Nat} (g : Good ns) : ns.Nodup := g.perm.nodup_iff.mpr List.nodup_range
theorem Good.lt {ns : List Nat} (g : Good ns) {x : Nat} (h : x ∈ ns) : x < ns.length := List.mem_range.mp (g.perm.mem_iff.mp h)
theorem Good.mem {ns : List Nat} (g : Good ns) {x : Nat} (h : x < ns.length) : x ∈ ns := g.perm.mem_iff.mpr (List.mem_range.mpr h)

theorem nxt_get {ns : List Nat} {i : Nat} (h : i < ns.length) : nxt ns i = ns[i] := by
  unfold nxt; rw [List.getD_eq_getElem?_getD, List.getElem?_eq_getElem h]; rfl
theorem nxt_get? {ns : List Nat} {i : Nat} (h : i < ns.length) : ns[i]? = some (nxt ns i) := by
  rw [nxt_get h, List.getElem?_eq_getElem h]
theorem Good.nxt_lt {ns : List Nat} (g : Good ns) {i : Nat} (h : i < ns.length) : nxt ns i < ns.length := by
  rw [nxt_get h]; exact g.lt (List.getElem_mem h)
theorem Good.inj {ns : List Nat} (g : Good ns) {i j : Nat} (hi : i < ns.length) (hj : j < ns.length) (e : nxt ns i = nxt ns j) : i = j := by
  rw [nxt_get hi, nxt_get hj] at e
  exact (List.getElem_inj g.nodup).mp e

/-- r goes from h on where the slips lead, no box twice -/
structure Chain (ns : List Nat) (h : Nat) (r : List Nat) : Prop where
  head : r[0]? = some h
  step : ∀ i x y, r[i]? = some x → r[i + 1]? = some y → nxt ns x = y
  nd : r.Nodup
  lt : ∀ x ∈ r, x < ns.length

/-- a ring from h on -/
structure IsRing (ns : List Nat) (h : Nat) (r : List Nat) : Prop extends Chain ns h r where
  back : ∀ x, r[r.length - 1]? = some x → nxt ns x = h

theorem Chain.pos {ns : List Nat} {h : Nat} {r : List Nat} (c : Chain ns h r) : 0 < r.length := by
  have := c.head
  cases r with
  | nil => simp at this
  | cons a l => simp
theorem Chain.hlt {ns : List Nat} {h : Nat} {r : List Nat} (c : Chain ns h r) : h < ns.length := c.lt h (List.mem_of_getElem? c.head)
theorem Chain.hmem {ns : List Nat} {h : Nat} {r : List Nat} (c : Chain ns h r) : h ∈ r := List.mem_of_getElem? c.head
theorem Chain.one {ns : List Nat} {h : Nat} (hh : h < ns.length) : Chain ns h [h] where
  head := rfl
  step := fun i x y _ e => by simp at e
  nd := by simp
  lt := fun x hx => by simp at hx; subst hx; exact hh

theorem nodup_le : ∀ {n : Nat} {r : List Nat}, r.Nodup → (∀ x ∈ r, x < n) → r.length ≤ n
  | 0, r, _, lt => by
    cases r with
    | nil => simp
    | cons a l => exact absurd (lt a List.mem_cons_self) (Nat.not_lt_zero a)
  | n + 1, r, nd, lt => by
    have ih := nodup_le (n := n) (r := r.erase n) (nd.erase n) fun x hx => by
      have h1 := lt x (List.mem_of_mem_erase hx)
      have h2 : x ≠ n := fun e => by
        subst e
        exact (List.Nodup.not_mem_erase nd) hx
      omega
    by_cases h : n ∈ r
    · rw [List.length_erase_of_mem h] at ih
      omega
    · rw [List.erase_of_not_mem h] at ih
      omega
theorem Chain.len_le {ns : List Nat} {h : Nat} {r : List Nat} (c : Chain ns h r) : r.length ≤ ns.length := nodup_le c.nd c.lt

/-- the slip behind a chain is its first box, or a new one -/
theorem Chain.slip {ns : List Nat} {h : Nat} {r : List Nat} (g : Good ns) (c : Chain ns h r) {x : Nat} (hx : r[r.length - 1]? = some x) (hm : nxt ns x ∈ r) : nxt ns x = h := by
  obtain ⟨j, hj, e⟩ := List.mem_iff_getElem.mp hm
  cases j with
  | zero =>
    have := c.head
    rw [List.getElem?_eq_getElem hj] at this
    rw [← e]; exact Option.some.inj this
  | succ j =>
    exfalso
    have hj' : j < r.length := by omega
    have e1 : nxt ns r[j] = r[j + 1] := c.step j _ _ (List.getElem?_eq_getElem hj') (List.getElem?_eq_getElem hj)
    have hl : r.length - 1 < r.length := by omega
    have ex : r[r.length - 1] = x := by
      rw [List.getElem?_eq_getElem hl] at hx
      exact Option.some.inj hx
    have e2 : r[j] = x := g.inj (c.lt _ (List.getElem_mem hj')) (c.lt _ (ex ▸ List.getElem_mem hl)) (by rw [e1, e])
    have : j = r.length - 1 := (List.getElem_inj c.nd).mp (e2.trans ex.symm)
    omega

theorem last?_append {r : List Nat} {y : Nat} : (r ++ [y])[(r ++ [y]).length - 1]? = some y := by
  simp

theorem Chain.more {ns : List Nat} {h : Nat} {r : List Nat} (c : Chain ns h r) {x : Nat} (hx : r[r.length - 1]? = some x) (hn : nxt ns x ∉ r) (hl : nxt ns x < ns.length) : Chain ns h (r ++ [nxt ns x]) where
  head := by
    rw [List.getElem?_append_left c.pos]; exact c.head
  step := fun i a b ha hb => by
    by_cases hi : i + 1 < r.length
    · rw [List.getElem?_append_left (by omega)] at ha
      rw [List.getElem?_append_left hi] at hb
      exact c.step i a b ha hb
    · have hlt : i + 1 < (r ++ [nxt ns x]).length := by
        obtain ⟨h1, _⟩ := List.getElem?_eq_some_iff.mp hb; exact h1
      rw [List.length_append] at hlt
      simp at hlt
      have hi2 : i = r.length - 1 := by omega
      have hp := c.pos
      rw [List.getElem?_append_left (by omega), hi2, hx] at ha
      rw [List.getElem?_append_right (by omega)] at hb
      have : i + 1 - r.length = 0 := by omega
      rw [this] at hb
      cases ha
      simpa using hb
  nd := by
    rw [List.nodup_append]
    refine ⟨c.nd, by simp, ?_⟩
    intro a ha b hb
    simp at hb
    subst hb
    intro e; subst e; exact hn ha
  lt := fun y hy => by
    rcases List.mem_append.mp hy with z | z
    · exact c.lt y z
    · simp at z; subst z; exact hl

theorem Chain.last {ns : List Nat} {h : Nat} {r : List Nat} (c : Chain ns h r) : ∃ x, r[r.length - 1]? = some x ∧ x ∈ r ∧ x < ns.length := by
  have hp := c.pos
  have hl : r.length - 1 < r.length := by omega
  exact ⟨r[r.length - 1], List.getElem?_eq_getElem hl, List.getElem_mem hl, c.lt _ (List.getElem_mem hl)⟩

/-- the ring of a hand, by steps -/
def ringGo (ns : List Nat) (h : Nat) : Nat → List Nat → List Nat
  | 0, r => r
  | k + 1, r => if nxt ns (r.getLastD 0) = h then r else ringGo ns h k (r ++ [nxt ns (r.getLastD 0)])
def ringOf (ns : List Nat) (h : Nat) : List Nat := ringGo ns h ns.length [h]

theorem getLastD_of {r : List Nat} {x : Nat} (hx : r[r.length - 1]? = some x) : r.getLastD 0 = x := by
  rw [List.getLastD_eq_getLast?, List.getLast?_eq_getElem?, hx]; rfl

theorem ringGo_is {ns : List Nat} {h : Nat} (g : Good ns) : ∀ (k : Nat) (r : List Nat), Chain ns h r → ns.length < r.length + k → IsRing ns h (ringGo ns h k r)
  | 0, r, c, hk => by have := c.len_le; omega
  | k + 1, r, c, hk => by
    obtain ⟨x, hx, hm, hl⟩ := c.last
    unfold ringGo
    rw [getLastD_of hx]
    by_cases e : nxt ns x = h
    · rw [if_pos e]
      exact ⟨c, fun y hy => by rw [hx] at hy; cases hy; exact e⟩
    · rw [if_neg e]
      refine ringGo_is g k _ (c.more hx (fun z => e (c.slip g hx z)) (g.nxt_lt hl)) ?_
      rw [List.length_append, List.length_singleton]; omega

theorem ringOf_is {ns : List Nat} {h : Nat} (g : Good ns) (hh : h < ns.length) : IsRing ns h (ringOf ns h) :=
  ringGo_is g _ _ (Chain.one hh) (by simp)

theorem Chain.same {ns : List Nat} {h : Nat} {r q : List Nat} (c : Chain ns h r) (d : Chain ns h q) : ∀ i, i < r.length → i < q.length → r[i]? = q[i]?
  | 0, _, _ => c.head.trans d.head.symm
  | i + 1, h1, h2 => by
    have ih := Chain.same c d i (by omega) (by omega)
    have e1 := c.step i _ _ (List.getElem?_eq_getElem (by omega)) (List.getElem?_eq_getElem h1)
    have e2 := d.step i _ _ (List.getElem?_eq_getElem (by omega)) (List.getElem?_eq_getElem h2)
    rw [List.getElem?_eq_getElem (by omega), List.getElem?_eq_getElem (by omega)] at ih
    rw [List.getElem?_eq_getElem h1, List.getElem?_eq_getElem h2, ← e1, ← e2, Option.some.inj ih]

theorem IsRing.not_lt {ns : List Nat} {h : Nat} {r q : List Nat} (c : IsRing ns h r) (d : Chain ns h q) : ¬ r.length < q.length := fun hlt => by
  have hp := c.pos
  obtain ⟨x, hx, hm, hl⟩ := c.toChain.last
  have e := Chain.same c.toChain d (r.length - 1) (by omega) (by omega)
  have b := c.back x hx
  rw [hx] at e
  have s := d.step (r.length - 1) x _ e.symm (by rw [show r.length - 1 + 1 = r.length by omega]; exact List.getElem?_eq_getElem hlt)
  rw [b] at s
  have h0 := d.head
  have hq : 0 < q.length := by omega
  rw [List.getElem?_eq_getElem hq] at h0
  have : 0 = r.length := (List.getElem_inj d.nd).mp ((Option.some.inj h0).trans s)
  omega

theorem IsRing.unique {ns : List Nat} {h : Nat} {r q : List Nat} (c : IsRing ns h r) (d : IsRing ns h q) : r = q := by
  have hl : r.length = q.length := by
    have h1 := c.not_lt d.toChain
    have h2 := d.not_lt c.toChain
    omega
  apply List.ext_getElem? 
  intro i
  by_cases hi : i < r.length
  · exact Chain.same c.toChain d.toChain i hi (by omega)
  · rw [List.getElem?_eq_none (by omega), List.getElem?_eq_none (by omega)]

theorem IsRing.eq {ns : List Nat} {h : Nat} {r : List Nat} (g : Good ns) (c : IsRing ns h r) : r = ringOf ns h := c.unique (ringOf_is g c.toChain.hlt)

end Sb

namespace Sb

theorem ringOf_nd {ns : List Nat} {h : Nat} (g : Good ns) (hh : h < ns.length) : (ringOf ns h).Nodup := (ringOf_is g hh).nd
theorem ringOf_lt {ns : List Nat} {h x : Nat} (g : Good ns) (hh : h < ns.length) (hx : x ∈ ringOf ns h) : x < ns.length := (ringOf_is g hh).lt x hx
theorem ringOf_mem {ns : List Nat} {h : Nat} (g : Good ns) (hh : h < ns.length) : h ∈ ringOf ns h := (ringOf_is g hh).toChain.hmem
theorem ringOf_len {ns : List Nat} {h : Nat} (g : Good ns) (hh : h < ns.length) : (ringOf ns h).length ≤ ns.length := (ringOf_is g hh).toChain.len_le
theorem ringOf_pos {ns : List Nat} {h : Nat} (g : Good ns) (hh : h < ns.length) : 0 < (ringOf ns h).length := (ringOf_is g hh).toChain.pos

/-- consecutive boxes of a list, each leading to the next -/
def Leads (ns : List Nat) : List Nat → Prop
  | x :: y :: r => nxt ns x = y ∧ Leads ns (y :: r)
  | _ => True

/-- IsRing by a list's own form -/
theorem isRing_iff {ns : List Nat} {h : Nat} {r : List Nat} : IsRing ns h r ↔ r[0]? = some h ∧ r.Nodup ∧ (∀ x ∈ r, x < ns.length) ∧ ∀ i x y, r[i]? = some x → r[(i + 1) % r.length]? = some y → nxt ns x = y := by
  constructor
  · intro c
    refine ⟨c.head, c.nd, c.lt, fun i x y hx hy => ?_⟩
    have hi : i < r.length := (List.getElem?_eq_some_iff.mp hx).1
    by_cases hl : i + 1 < r.length
    · rw [Nat.mod_eq_of_lt hl] at hy
      exact c.step i x y hx hy
    · have e : i + 1 = r.length := by omega
      rw [e, Nat.mod_self, c.head] at hy
      cases hy
      exact c.back x (by rw [← e]; exact hx)
  · rintro ⟨h0, nd, lt, st⟩
    refine ⟨⟨h0, fun i x y hx hy => ?_, nd, lt⟩, fun x hx => ?_⟩
    · have hl : i + 1 < r.length := (List.getElem?_eq_some_iff.mp hy).1
      exact st i x y hx (by rw [Nat.mod_eq_of_lt hl]; exact hy)
    · have hi : r.length - 1 < r.length := (List.getElem?_eq_some_iff.mp hx).1
      exact st (r.length - 1) x h hx (by rw [show r.length - 1 + 1 = r.length by omega, Nat.mod_self]; exact h0)

/-- a ring turned -/
theorem IsRing.turn {ns : List Nat} {h y : Nat} {a b : List Nat} (c : IsRing ns h (a ++ y :: b)) : IsRing ns y (y :: b ++ a) := by
  rw [isRing_iff] at c ⊢
  obtain ⟨h0, nd, lt, st⟩ := c
  refine ⟨rfl, ?_, fun x hx => lt x ?_, fun i x z hx hz => ?_⟩
  · exact (List.perm_append_comm.nodup_iff).mp nd
  · exact (List.perm_append_comm.mem_iff).mp hx
  · have hn : (y :: b ++ a).length = (a ++ y :: b).length := by simp; omega
    have key : ∀ j, j < (a ++ y :: b).length → (y :: b ++ a)[j]? = (a ++ y :: b)[(j + a.length) % (a ++ y :: b).length]? := by
      intro j hj
      by_cases hjb : j < (y :: b).length
      · have e : (j + a.length) % (a ++ y :: b).length = j + a.length := Nat.mod_eq_of_lt (by rw [List.length_append]; omega)
        rw [e, List.getElem?_append_left hjb, List.getElem?_append_right (by omega)]
        congr 1; omega
      · have hl : (a ++ y :: b).length = a.length + (y :: b).length := List.length_append
        have e : (j + a.length) % (a ++ y :: b).length = j - (y :: b).length := by
          rw [Nat.mod_eq_sub_mod (by omega), Nat.mod_eq_of_lt (by omega)]; omega
        rw [e, List.getElem?_append_right (by omega), List.getElem?_append_left (by omega)]
    have hi : i < (a ++ y :: b).length := by
      have := (List.getElem?_eq_some_iff.mp hx).1; omega
    rw [key i hi] at hx
    rw [hn, key _ (Nat.mod_lt _ (by omega))] at hz
    refine st _ x z hx ?_
    rw [← hz]
    congr 1
    rw [Nat.mod_add_mod, Nat.mod_add_mod]
    congr 1; omega

theorem ringOf_turn {ns : List Nat} {h y : Nat} (g : Good ns) (hh : h < ns.length) (hy : y ∈ ringOf ns h) : ∃ a b, ringOf ns h = a ++ y :: b ∧ ringOf ns y = y :: b ++ a := by
  obtain ⟨a, b, e⟩ := List.append_of_mem hy
  have c := ringOf_is g hh
  rw [e] at c
  exact ⟨a, b, e, (c.turn.eq g).symm⟩

theorem ringOf_perm {ns : List Nat} {h y : Nat} (g : Good ns) (hh : h < ns.length) (hy : y ∈ ringOf ns h) : (ringOf ns y).Perm (ringOf ns h) := by
  obtain ⟨a, b, e1, e2⟩ := ringOf_turn g hh hy
  rw [e1, e2]
  exact List.perm_append_comm
theorem ringOf_mem_iff {ns : List Nat} {h y x : Nat} (g : Good ns) (hh : h < ns.length) (hy : y ∈ ringOf ns h) : x ∈ ringOf ns y ↔ x ∈ ringOf ns h := (ringOf_perm g hh hy).mem_iff
theorem ringOf_symm {ns : List Nat} {h y : Nat} (g : Good ns) (hh : h < ns.length) (hy : y ∈ ringOf ns h) : h ∈ ringOf ns y := (ringOf_mem_iff g hh hy).mpr (ringOf_mem g hh)
theorem ringOf_len_eq {ns : List Nat} {h y : Nat} (g : Good ns) (hh : h < ns.length) (hy : y ∈ ringOf ns h) : (ringOf ns y).length = (ringOf ns h).length := (ringOf_perm g hh hy).length_eq

/-- h is the least of its ring -/
def isMin (ns : List Nat) (h : Nat) : Bool := (ringOf ns h).all fun x => decide (h ≤ x)
theorem isMin_iff {ns : List Nat} {h : Nat} : isMin ns h = true ↔ ∀ x ∈ ringOf ns h, h ≤ x := by
  unfold isMin
  rw [List.all_eq_true]
  simp
/-- the rings from the boxes below k on -/
def ringsTo (ns : List Nat) (k : Nat) : List (List Nat) := ((List.range k).filter (isMin ns)).map (ringOf ns)
def ringsOf (ns : List Nat) : List (List Nat) := ringsTo ns ns.length
theorem ringsTo_zero (ns : List Nat) : ringsTo ns 0 = [] := rfl
theorem ringsTo_succ (ns : List Nat) (k : Nat) : ringsTo ns (k + 1) = if isMin ns k = true then ringsTo ns k ++ [ringOf ns k] else ringsTo ns k := by
  unfold ringsTo
  rw [List.range_succ, List.filter_append, List.map_append]
  by_cases h : isMin ns k = true
  · rw [if_pos h]; simp [h]
  · rw [if_neg h]; simp [h]

theorem exists_min : ∀ (r : List Nat), r ≠ [] → ∃ m, m ∈ r ∧ ∀ x ∈ r, m ≤ x
  | [], h => absurd rfl h
  | [a], _ => ⟨a, by simp, fun x hx => by simp at hx; omega⟩
  | a :: b :: l, _ => by
    obtain ⟨m, hm, hl⟩ := exists_min (b :: l) (by simp)
    by_cases h : a ≤ m
    · exact ⟨a, by simp, fun x hx => by
        rcases List.mem_cons.mp hx with e | e
        · omega
        · have := hl x e; omega⟩
    · exact ⟨m, List.mem_cons_of_mem _ hm, fun x hx => by
        rcases List.mem_cons.mp hx with e | e
        · omega
        · exact hl x e⟩

/-- box k stands in a ring from a lesser box on, just where it is not the least of its own -/
theorem gone_iff {ns : List Nat} (g : Good ns) {k : Nat} (hk : k < ns.length) : k ∈ (ringsTo ns k).flatten ↔ ¬ isMin ns k = true := by
  unfold ringsTo
  rw [List.mem_flatten]
  constructor
  · rintro ⟨r, hr, hkr⟩ hm
    obtain ⟨h, hh, rfl⟩ := List.mem_map.mp hr
    obtain ⟨h1, h2⟩ := List.mem_filter.mp hh
    have h3 := List.mem_range.mp h1
    have := isMin_iff.mp hm h (ringOf_symm g (by omega) hkr)
    omega
  · intro hm
    obtain ⟨m, hm1, hm2⟩ := exists_min (ringOf ns k) (fun e => by have := ringOf_pos g hk; rw [e] at this; simp at this)
    have hmk : m ≤ k := hm2 k (ringOf_mem g hk)
    have hml : m < ns.length := ringOf_lt g hk hm1
    have hmin : isMin ns m = true := isMin_iff.mpr fun x hx => hm2 x ((ringOf_mem_iff g hk hm1).mp hx)
    have hne : m ≠ k := fun e => by subst e; exact hm hmin
    exact ⟨ringOf ns m, List.mem_map.mpr ⟨m, List.mem_filter.mpr ⟨List.mem_range.mpr (by omega), hmin⟩, rfl⟩, ringOf_symm g hk hm1⟩

theorem ringsOf_mem {ns : List Nat} {r : List Nat} (h : r ∈ ringsOf ns) : ∃ k, k < ns.length ∧ isMin ns k = true ∧ r = ringOf ns k := by
  unfold ringsOf ringsTo at h
  obtain ⟨k, hk, rfl⟩ := List.mem_map.mp h
  obtain ⟨h1, h2⟩ := List.mem_filter.mp hk
  exact ⟨k, List.mem_range.mp h1, h2, rfl⟩
theorem ringsTo_len (ns : List Nat) (k : Nat) : (ringsTo ns k).length ≤ k := by
  unfold ringsTo
  rw [List.length_map]
  have := List.length_filter_le (isMin ns) (List.range k)
  rwa [List.length_range] at this
end Sb

namespace Sb

/-! ### boxes laid by a law's own steps -/
theorem good_of_perm {ns : List Nat} {m : Nat} (h : ns.Perm (List.range m)) : Good ns := ⟨by
  have e : ns.length = m := by rw [h.length_eq, List.length_range]
  rw [e]; exact h⟩
theorem insert_perm {ns : List Nat} {i m : Nat} (h : ns.Perm (List.range m)) : (ns.take i ++ [m] ++ ns.drop i).Perm (List.range (m + 1)) := by
  rw [List.range_succ]
  have h1 : (ns.take i ++ [m] ++ ns.drop i).Perm (ns.take i ++ ns.drop i ++ [m]) := by
    rw [List.append_assoc, List.append_assoc]
    exact List.Perm.append_left _ List.perm_append_comm
  rw [List.take_append_drop] at h1
  exact h1.trans (List.Perm.append_right _ h)

/-- slips laid one after the other -/
def layAll (f : List Nat) (ps : List (Nat × Nat)) : List Nat := ps.foldl (fun f p => f.set p.1 p.2) f
theorem layAll_snoc (f : List Nat) (ps : List (Nat × Nat)) (p : Nat × Nat) : layAll f (ps ++ [p]) = (layAll f ps).set p.1 p.2 := by
  unfold layAll; rw [List.foldl_append]; rfl
theorem layAll_len : ∀ (ps : List (Nat × Nat)) (f : List Nat), (layAll f ps).length = f.length
  | [], _ => rfl
  | p :: ps, f => by
    show (layAll (f.set p.1 p.2) ps).length = f.length
    rw [layAll_len ps, List.length_set]
theorem nxt_set_ne {f : List Nat} {i j v : Nat} (h : i ≠ j) : nxt (f.set i v) j = nxt f j := by
  unfold nxt; rw [List.getD_eq_getElem?_getD, List.getD_eq_getElem?_getD, List.getElem?_set_ne h]
theorem nxt_set_eq {f : List Nat} {i v : Nat} (h : i < f.length) : nxt (f.set i v) i = v := by
  unfold nxt; rw [List.getD_eq_getElem?_getD, List.getElem?_set_self h]; rfl
theorem layAll_out : ∀ (ps : List (Nat × Nat)) (f : List Nat) (x : Nat), x ∉ ps.map (·.1) → nxt (layAll f ps) x = nxt f x
  | [], _, _, _ => rfl
  | p :: ps, f, x, h => by
    show nxt (layAll (f.set p.1 p.2) ps) x = nxt f x
    rw [List.map_cons, List.mem_cons, not_or] at h
    rw [layAll_out ps _ x h.2, nxt_set_ne (fun e => h.1 e.symm)]
theorem layAll_in : ∀ (ps : List (Nat × Nat)) (f : List Nat), (ps.map (·.1)).Nodup → (∀ p ∈ ps, p.1 < f.length) → (ps.map (·.1)).map (nxt (layAll f ps)) = ps.map (·.2)
  | [], _, _, _ => rfl
  | p :: ps, f, nd, lt => by
    rw [List.map_cons, List.nodup_cons] at nd
    have e1 : nxt (layAll (f.set p.1 p.2) ps) p.1 = p.2 := by
      rw [layAll_out ps _ _ nd.1, nxt_set_eq (lt p List.mem_cons_self)]
    have e2 := layAll_in ps (f.set p.1 p.2) nd.2 (fun q hq => by rw [List.length_set]; exact lt q (List.mem_cons_of_mem _ hq))
    show nxt (layAll (f.set p.1 p.2) ps) p.1 :: (ps.map (·.1)).map (nxt (layAll (f.set p.1 p.2) ps)) = _
    rw [e1, e2]; rfl

/-- a ring's boxes and their slips -/
def rot (r : List Nat) : List Nat := r.drop 1 ++ r.take 1
theorem rot_perm (r : List Nat) : (rot r).Perm r := by
  unfold rot
  exact List.perm_append_comm.trans (by rw [List.take_append_drop])
theorem rot_len (r : List Nat) : (rot r).length = r.length := (rot_perm r).length_eq
theorem zip_fst {r q : List Nat} (h : r.length = q.length) : (r.zip q).map (·.1) = r := by
  rw [List.map_fst_zip]; omega
theorem zip_snd {r q : List Nat} (h : r.length = q.length) : (r.zip q).map (·.2) = q := by
  rw [List.map_snd_zip]; omega

/-- what holds between the blocks: the boxes of the first b of the order lead to one another -/
structure Laid (order f : List Nat) (b : Nat) : Prop where
  len : f.length = order.length
  perm : ((order.take b).map (nxt f)).Perm (order.take b)
theorem Laid.start (order : List Nat) (f : List Nat) (h : f.length = order.length) : Laid order f 0 := ⟨h, by simp⟩
theorem Laid.step {order f : List Nat} {b s : Nat} (ho : order.Perm (List.range order.length)) (L : Laid order f b) :
    Laid order (layAll f (((order.drop b).take s).zip (rot ((order.drop b).take s)))) (b + s) := by
  have nd : order.Nodup := ho.nodup_iff.mpr List.nodup_range
  have hr : ((order.drop b).take s).length = (rot ((order.drop b).take s)).length := (rot_len _).symm
  have et : order.take (b + s) = order.take b ++ (order.drop b).take s := List.take_add
  have nd2 : (order.take b ++ (order.drop b).take s).Nodup := by
    rw [← et]; exact nd.sublist (List.take_sublist _ _)
  rw [List.nodup_append] at nd2
  refine ⟨by rw [layAll_len]; exact L.len, ?_⟩
  rw [et, List.map_append]
  refine List.Perm.append ?_ ?_
  · have e : (order.take b).map (nxt (layAll f (((order.drop b).take s).zip (rot ((order.drop b).take s))))) = (order.take b).map (nxt f) := by
      apply List.map_congr_left
      intro x hx
      refine layAll_out _ _ _ ?_
      rw [zip_fst hr]
      exact fun z => nd2.2.2 x hx x z rfl
    rw [e]; exact L.perm
  · have e := layAll_in (((order.drop b).take s).zip (rot ((order.drop b).take s))) f (by rw [zip_fst hr]; exact nd2.2.1) (fun p hp => by
      have h1 : p.1 ∈ (order.drop b).take s := by
        rw [← zip_fst hr]; exact List.mem_map.mpr ⟨p, hp, rfl⟩
      have h2 : p.1 ∈ order := List.mem_of_mem_drop (List.mem_of_mem_take h1)
      rw [L.len]
      exact List.mem_range.mp (ho.mem_iff.mp h2))
    rw [zip_fst hr, zip_snd hr] at e
    rw [e]; exact rot_perm _
theorem map_nxt_range (f : List Nat) : (List.range f.length).map (nxt f) = f := by
  apply List.ext_getElem?
  intro i
  rw [List.getElem?_map]
  by_cases h : i < f.length
  · rw [List.getElem?_range h, nxt_get? h]; rfl
  · rw [List.getElem?_eq_none (by rw [List.length_range]; omega), List.getElem?_eq_none (by omega)]; rfl
theorem Laid.done {order f : List Nat} {b : Nat} (ho : order.Perm (List.range order.length)) (L : Laid order f b) (hb : order.length ≤ b) : Good f := by
  have p := L.perm
  rw [List.take_of_length_le hb] at p
  have q : ((List.range f.length).map (nxt f)).Perm (order.map (nxt f)) := by
    rw [L.len]; exact (ho.map _).symm
  rw [map_nxt_range] at q
  refine good_of_perm (m := order.length) ?_
  exact (q.trans p).trans ho

theorem flatten_len {n : Nat} : ∀ (l : List (List Nat)), (∀ r ∈ l, r.length ≤ n) → l.flatten.length ≤ l.length * n
  | [], _ => by simp
  | r :: l, h => by
    have ih := flatten_len l fun q hq => h q (List.mem_cons_of_mem _ hq)
    have h1 := h r List.mem_cons_self
    rw [List.flatten_cons, List.length_append, List.length_cons, Nat.succ_mul]
    omega
theorem ringsTo_flat {ns : List Nat} (g : Good ns) {k : Nat} (hk : k ≤ ns.length) : (ringsTo ns k).flatten.length ≤ k * ns.length := by
  have h := flatten_len (n := ns.length) (ringsTo ns k) fun r hr => by
    unfold ringsTo at hr
    obtain ⟨h, hh, rfl⟩ := List.mem_map.mp hr
    have := List.mem_range.mp (List.mem_filter.mp hh).1
    exact ringOf_len g (by omega)
  exact Nat.le_trans h (Nat.mul_le_mul_right _ (ringsTo_len ns k))
end Sb

namespace Sb

/-! ### hands that open at most m boxes; lists of any numbers that are rings -/
def Short (ns : List Nat) (m : Nat) : Prop := ∀ h, h < ns.length → (ringOf ns h).length ≤ m
def longOf (ns : List Nat) (m : Nat) : List (List Nat) := (ringsOf ns).filter fun r => decide (m < r.length)
theorem min_of {ns : List Nat} (g : Good ns) {h : Nat} (hh : h < ns.length) : ∃ k, k < ns.length ∧ isMin ns k = true ∧ k ∈ ringOf ns h ∧ (ringOf ns k).length = (ringOf ns h).length := by
  obtain ⟨m, hm1, hm2⟩ := exists_min (ringOf ns h) (fun e => by have := ringOf_pos g hh; rw [e] at this; simp at this)
  exact ⟨m, ringOf_lt g hh hm1, isMin_iff.mpr fun x hx => hm2 x ((ringOf_mem_iff g hh hm1).mp hx), hm1, ringOf_len_eq g hh hm1⟩
theorem mem_ringsOf {ns : List Nat} {k : Nat} (hk : k < ns.length) (hm : isMin ns k = true) : ringOf ns k ∈ ringsOf ns :=
  List.mem_map.mpr ⟨k, List.mem_filter.mpr ⟨List.mem_range.mpr hk, hm⟩, rfl⟩
theorem longOf_nil {ns : List Nat} (g : Good ns) {m : Nat} : longOf ns m = [] ↔ Short ns m := by
  unfold longOf
  rw [List.filter_eq_nil_iff]
  constructor
  · intro h i hi
    obtain ⟨k, hk, hmin, _, hl⟩ := min_of g hi
    have := h _ (mem_ringsOf hk hmin)
    simp at this
    omega
  · intro h r hr
    obtain ⟨k, hk, _, rfl⟩ := ringsOf_mem hr
    have := h k hk
    simp
    omega
theorem longOf_mem {ns : List Nat} {m : Nat} {r : List Nat} (h : r ∈ longOf ns m) : ∃ k, k < ns.length ∧ isMin ns k = true ∧ r = ringOf ns k ∧ m < r.length := by
  unfold longOf at h
  obtain ⟨h1, h2⟩ := List.mem_filter.mp h
  obtain ⟨k, hk, hm, e⟩ := ringsOf_mem h1
  exact ⟨k, hk, hm, e, by simpa using h2⟩
theorem longOf_len (ns : List Nat) (m : Nat) : (longOf ns m).length ≤ ns.length := by
  unfold longOf
  exact Nat.le_trans (List.length_filter_le _ _) (ringsTo_len ns ns.length)

/-- a list of numbers of any kind is a ring, from some box on -/
def RingI (ns : List Nat) (r : List Int) : Prop := ∃ (h : Nat) (q : List Nat), r = q.map (fun (n : Nat) => (n : Int)) ∧ IsRing ns h q
theorem ringOf_ringI {ns : List Nat} (g : Good ns) {h : Nat} (hh : h < ns.length) : RingI ns ((ringOf ns h).map fun (n : Nat) => (n : Int)) := ⟨h, _, rfl, ringOf_is g hh⟩
theorem cast_toNat {r : List Int} (h : ∀ x ∈ r, 0 ≤ x) : r = (r.map Int.toNat).map (fun (n : Nat) => (n : Int)) := by
  rw [List.map_map]
  conv => lhs; rw [← List.map_id r]
  apply List.map_congr_left
  intro x hx
  have := h x hx
  show x = ((x.toNat : Nat) : Int)
  omega
theorem castN_inj {a b : List Nat} (h : a.map (fun (n : Nat) => (n : Int)) = b.map (fun (n : Nat) => (n : Int))) : a = b := by
  have := congrArg (List.map Int.toNat) h
  rw [List.map_map, List.map_map] at this
  have e : ∀ l : List Nat, l.map (Int.toNat ∘ fun (n : Nat) => (n : Int)) = l := fun l => by
    conv => rhs; rw [← List.map_id l]
    apply List.map_congr_left
    intro x _
    rfl
  rwa [e, e] at this
theorem castN_nodup {q : List Nat} : (q.map (fun (n : Nat) => (n : Int))).Nodup ↔ q.Nodup := by
  constructor
  · intro h
    exact (List.pairwise_map.mp h).imp fun hab e => hab (by rw [e])
  · intro h
    exact List.Pairwise.map _ (fun a b hab e => hab (by omega)) h
/-- by its consecutive boxes -/
theorem ringI_steps {ns : List Nat} {r : List Int} : RingI ns r ↔ r ≠ [] ∧ r.Nodup ∧ (∀ x ∈ r, 0 ≤ x ∧ x < (ns.length : Int)) ∧ ∀ (i : Nat) (x y : Int), r[i]? = some x → (r.drop 1 ++ r.take 1)[i]? = some y → ((nxt ns x.toNat : Nat) : Int) = y := by
  have rotg : ∀ {α : Type} (l : List α) (i : Nat), i < l.length → (l.drop 1 ++ l.take 1)[i]? = l[(i + 1) % l.length]? := by
    intro α l i hi
    by_cases h : i + 1 < l.length
    · rw [Nat.mod_eq_of_lt h, List.getElem?_append_left (by rw [List.length_drop]; omega), List.getElem?_drop]
      congr 1; omega
    · have e : i + 1 = l.length := by omega
      rw [e, Nat.mod_self, List.getElem?_append_right (by rw [List.length_drop]; omega), List.length_drop]
      rw [show i - (l.length - 1) = 0 by omega, List.getElem?_take, if_pos (by omega)]
  constructor
  · rintro ⟨h, q, rfl, c⟩
    have c' := isRing_iff.mp c
    obtain ⟨h0, nd, lt, st⟩ := c'
    refine ⟨fun e => ?_, castN_nodup.mpr nd, fun x hx => ?_, fun i x y hx hy => ?_⟩
    · have : q = [] := by simpa using e
      rw [this] at h0; simp at h0
    · obtain ⟨n, hn, rfl⟩ := List.mem_map.mp hx
      have := lt n hn
      omega
    · have hi : i < (q.map (fun (n : Nat) => (n : Int))).length := (List.getElem?_eq_some_iff.mp hx).1
      rw [rotg _ _ hi, List.getElem?_map, List.length_map] at hy
      rw [List.getElem?_map] at hx
      obtain ⟨a, ha, rfl⟩ := Option.map_eq_some_iff.mp hx
      obtain ⟨b, hb, rfl⟩ := Option.map_eq_some_iff.mp hy
      have := st i a b ha hb
      rw [Int.toNat_natCast, this]
  · rintro ⟨hne, nd, lt, st⟩
    have e := cast_toNat (fun x hx => (lt x hx).1)
    generalize eq : r.map Int.toNat = q at e
    subst e
    have hq : q ≠ [] := fun z => hne (by rw [z]; rfl)
    obtain ⟨h, l, rfl⟩ := List.exists_cons_of_ne_nil hq
    refine ⟨h, _, rfl, isRing_iff.mpr ⟨rfl, castN_nodup.mp nd, fun x hx => ?_, fun i x y hx hy => ?_⟩⟩
    · have := lt (x : Int) (List.mem_map.mpr ⟨x, hx, rfl⟩)
      omega
    · have hi : i < (h :: l).length := (List.getElem?_eq_some_iff.mp hx).1
      have h1 : ((h :: l).map (fun (n : Nat) => (n : Int)))[i]? = some (x : Int) := by rw [List.getElem?_map, hx]; rfl
      have h2 : (((h :: l).map (fun (n : Nat) => (n : Int))).drop 1 ++ ((h :: l).map (fun (n : Nat) => (n : Int))).take 1)[i]? = some (y : Int) := by
        rw [rotg _ _ (by rw [List.length_map]; exact hi), List.getElem?_map, List.length_map, hy]; rfl
      have := st i _ _ h1 h2
      rw [Int.toNat_natCast] at this
      omega
/-- by the ring of its first box -/
theorem ringI_first {ns : List Nat} (g : Good ns) {r : List Int} {x : Int} (hr : r[0]? = some x) (lt : ∀ x ∈ r, 0 ≤ x ∧ x < (ns.length : Int)) :
    RingI ns r ↔ r = (ringOf ns x.toNat).map (fun (n : Nat) => (n : Int)) := by
  have hx := lt x (List.mem_of_getElem? hr)
  constructor
  · rintro ⟨h, q, rfl, c⟩
    have h0 := c.head
    rw [List.getElem?_map, h0] at hr
    cases hr
    rw [Int.toNat_natCast, ← c.eq g]
  · intro e
    rw [e]
    exact ringOf_ringI g (by omega)
theorem ring_back {ns : List Nat} (g : Good ns) {h x : Nat} (hh : h < ns.length) (hx : (ringOf ns h)[(ringOf ns h).length - 1]? = some x) : nxt ns x = h := (ringOf_is g hh).back x hx
/-- a ring with one more box is none -/
theorem ring_more {ns : List Nat} {h x : Nat} {q : List Nat} (c : IsRing ns h q) : ¬ RingI ns (q.map (fun (n : Nat) => (n : Int)) ++ [(x : Int)]) := by
  rintro ⟨h', q', e, c'⟩
  have e2 : q' = q ++ [x] := castN_inj (by rw [← e, List.map_append]; rfl)
  subst e2
  have hh : h' = h := by
    have h1 := c'.head
    have h2 := c.head
    rw [List.getElem?_append_left c.toChain.pos, h2] at h1
    cases h1; rfl
  subst hh
  exact c.not_lt c'.toChain (by rw [List.length_append]; show _ < _ + 1; omega)
end Sb

namespace Sb

/-! ### the slips of two boxes exchanged -/
def exch (ns : List Nat) (i j : Nat) : List Nat := (ns.set i (nxt ns j)).set j (nxt ns i)
theorem exch_len (ns : List Nat) (i j : Nat) : (exch ns i j).length = ns.length := by
  unfold exch; rw [List.length_set, List.length_set]
theorem exch_perm {ns : List Nat} {i j : Nat} (hi : i < ns.length) (hj : j < ns.length) : (exch ns i j).Perm ns := by
  unfold exch
  rw [nxt_get hi, nxt_get hj]
  exact List.set_set_perm hi hj
theorem exch_good {ns : List Nat} (g : Good ns) {i j : Nat} (hi : i < ns.length) (hj : j < ns.length) : Good (exch ns i j) := ⟨by
  rw [exch_len]
  exact (exch_perm hi hj).trans g.perm⟩
theorem exch_nxt {ns : List Nat} {i j x : Nat} (h1 : x ≠ i) (h2 : x ≠ j) : nxt (exch ns i j) x = nxt ns x := by
  unfold exch
  rw [nxt_set_ne (fun e => h2 e.symm), nxt_set_ne (fun e => h1 e.symm)]
theorem exch_nxt_j {ns : List Nat} {i j : Nat} (hj : j < ns.length) : nxt (exch ns i j) j = nxt ns i := by
  unfold exch
  rw [nxt_set_eq (by rw [List.length_set]; exact hj)]
theorem exch_nxt_i {ns : List Nat} {i j : Nat} (hi : i < ns.length) : nxt (exch ns i j) i = nxt ns j := by
  by_cases e : i = j
  · subst e; exact exch_nxt_j hi
  · unfold exch
    rw [nxt_set_ne (fun z => e z.symm), nxt_set_eq hi]
theorem exch_self {ns : List Nat} {i : Nat} (hi : i < ns.length) : exch ns i i = ns := by
  unfold exch
  rw [List.set_set, nxt_get hi, List.set_getElem_self]
theorem exch_comm (ns : List Nat) (i j : Nat) : exch ns i j = exch ns j i := by
  by_cases e : i = j
  · rw [e]
  · unfold exch
    exact List.set_comm _ _ e

theorem mem_dropLast_of {r : List Nat} {k x y : Nat} (hx : r[k]? = some x) (hy : r[k + 1]? = some y) : x ∈ r.dropLast := by
  have hl : k + 1 < r.length := (List.getElem?_eq_some_iff.mp hy).1
  have hk : k < r.length := by omega
  have ex : r[k] = x := by
    rw [List.getElem?_eq_getElem hk] at hx
    exact Option.some.inj hx
  have hd : k < r.dropLast.length := by rw [List.length_dropLast]; omega
  have : r.dropLast[k] = x := by rw [List.getElem_dropLast, ex]
  rw [← this]
  exact List.getElem_mem hd
theorem Chain.exch {ns : List Nat} {h : Nat} {q : List Nat} {i j : Nat} (c : Chain ns h q) (hi : i ∉ q.dropLast) (hj : j ∉ q.dropLast) : Chain (exch ns i j) h q where
  head := c.head
  step := fun k x y hx hy => by
    have hm := mem_dropLast_of hx hy
    rw [exch_nxt (x := x) (fun e => hi (by rw [← e]; exact hm)) (fun e => hj (by rw [← e]; exact hm))]
    exact c.step k x y hx hy
  nd := c.nd
  lt := fun x hx => by rw [exch_len]; exact c.lt x hx
theorem Chain.left {ns : List Nat} {h : Nat} {a b : List Nat} (c : Chain ns h (a ++ b)) (ha : a ≠ []) : Chain ns h a where
  head := by
    have := c.head
    rwa [List.getElem?_append_left (List.length_pos_iff.mpr ha)] at this
  step := fun k x y hx hy => by
    have h2 := (List.getElem?_eq_some_iff.mp hy).1
    refine c.step k x y ?_ ?_
    · rw [List.getElem?_append_left (by omega)]; exact hx
    · rw [List.getElem?_append_left h2]; exact hy
  nd := (List.nodup_append.mp c.nd).1
  lt := fun x hx => c.lt x (List.mem_append_left _ hx)
theorem Chain.right {ns : List Nat} {h y : Nat} {a b : List Nat} (c : Chain ns h (a ++ y :: b)) : Chain ns y (y :: b) where
  head := rfl
  step := fun k x z hx hz => by
    refine c.step (a.length + k) x z ?_ ?_
    · rw [List.getElem?_append_right (by omega), Nat.add_sub_cancel_left]; exact hx
    · rw [List.getElem?_append_right (by omega), show a.length + k + 1 - a.length = k + 1 by omega]; exact hz
  nd := (List.nodup_append.mp c.nd).2.1
  lt := fun x hx => c.lt x (List.mem_append_right _ hx)
theorem Chain.notShort {ns : List Nat} (g : Good ns) {h m : Nat} {q : List Nat} (c : Chain ns h q) (hm : m < q.length) : ¬ Short ns m := fun s => by
  have h1 := s h c.hlt
  have h2 := (ringOf_is g c.hlt).not_lt c
  omega
theorem nxt_mem {ns : List Nat} (g : Good ns) {i : Nat} (hi : i < ns.length) : nxt ns i ∈ ringOf ns i := by
  obtain ⟨h0, _, _, st⟩ := isRing_iff.mp (ringOf_is g hi)
  have hp := ringOf_pos g hi
  have hl : (0 + 1) % (ringOf ns i).length < (ringOf ns i).length := Nat.mod_lt _ hp
  rw [st 0 i _ h0 (List.getElem?_eq_getElem hl)]
  exact List.getElem_mem hl
/-- the ring of the box behind i ends with i -/
theorem ring_ends {ns : List Nat} (g : Good ns) {i : Nat} (hi : i < ns.length) : ∃ d, ringOf ns (nxt ns i) = d ++ [i] := by
  have hn := g.nxt_lt hi
  have R := ringOf_is g hn
  obtain ⟨x, hx, hm, hl⟩ := R.toChain.last
  have e : x = i := g.inj hl hi (R.back x hx)
  subst e
  have hne : ringOf ns (nxt ns x) ≠ [] := fun z => by rw [z] at hm; cases hm
  have hlt : (ringOf ns (nxt ns x)).length - 1 < (ringOf ns (nxt ns x)).length := by
    have := List.length_pos_iff.mpr hne
    omega
  refine ⟨(ringOf ns (nxt ns x)).dropLast, ?_⟩
  have := List.dropLast_concat_getLast hne
  rw [List.getLast_eq_getElem] at this
  rw [List.getElem?_eq_getElem hlt] at hx
  rw [Option.some.inj hx] at this
  exact this.symm
/-- a ring that is too long stays so, where not both boxes are its own -/
theorem bars_one {ns : List Nat} (g : Good ns) {i j h m : Nat} (hi : i < ns.length) (hj : j < ns.length) (hh : h < ns.length) (hm : m < (ringOf ns h).length) (ho : ¬ (i ∈ ringOf ns h ∧ j ∈ ringOf ns h) ∨ i = j) : ¬ Short (exch ns i j) m := by
  by_cases e : i = j
  · subst e
    rw [exch_self hi]
    intro s
    have := s h hh
    omega
  have hnb : ¬ (i ∈ ringOf ns h ∧ j ∈ ringOf ns h) := ho.resolve_right e
  have one : ∀ i j : Nat, i < ns.length → j < ns.length → i ∈ ringOf ns h → j ∉ ringOf ns h → ¬ Short (exch ns i j) m := fun i j hi hj hir hjr => by
    obtain ⟨d, ed⟩ := ring_ends g hi
    have hn := g.nxt_lt hi
    have hmem : nxt ns i ∈ ringOf ns h := (ringOf_mem_iff g hh hir).mp (nxt_mem g hi)
    have c := (ringOf_is g hn).toChain
    have nd := c.nd
    rw [ed] at nd
    have hlen := ringOf_len_eq g hh hmem
    refine (c.exch (i := i) (j := j) ?_ ?_).notShort (exch_good g hi hj) (by omega)
    · rw [ed, List.dropLast_concat]
      intro z
      exact (List.nodup_append.mp nd).2.2 i z i (by simp) rfl
    · rw [ed, List.dropLast_concat]
      intro z
      apply hjr
      rw [← ringOf_mem_iff g hh hmem, ed]
      exact List.mem_append_left _ z
  by_cases hir : i ∈ ringOf ns h
  · exact one i j hi hj hir fun z => hnb ⟨hir, z⟩
  · by_cases hjr : j ∈ ringOf ns h
    · rw [exch_comm]
      exact one j i hj hi hjr hir
    · refine ((ringOf_is g hh).toChain.exch (i := i) (j := j) (fun z => hir (List.dropLast_subset _ z)) (fun z => hjr (List.dropLast_subset _ z))).notShort (exch_good g hi hj) hm
/-- a ring more than twice too long bars every exchange -/
theorem bars_two {ns : List Nat} (g : Good ns) {i j h m : Nat} (hi : i < ns.length) (hj : j < ns.length) (hh : h < ns.length) (hm : 2 * m < (ringOf ns h).length) : ¬ Short (exch ns i j) m := by
  by_cases ho : ¬ (i ∈ ringOf ns h ∧ j ∈ ringOf ns h) ∨ i = j
  · exact bars_one g hi hj hh (by omega) ho
  have hb : i ∈ ringOf ns h ∧ j ∈ ringOf ns h := by
    by_cases z : i ∈ ringOf ns h ∧ j ∈ ringOf ns h
    · exact z
    · exact absurd (.inl z) ho
  have hne : i ≠ j := fun z => ho (.inr z)
  obtain ⟨hir, hjr⟩ := hb
  obtain ⟨d, ed⟩ := ring_ends g hi
  have hn := g.nxt_lt hi
  have hmem : nxt ns i ∈ ringOf ns h := (ringOf_mem_iff g hh hir).mp (nxt_mem g hi)
  have c := (ringOf_is g hn).toChain
  have hlen := ringOf_len_eq g hh hmem
  have hjd : j ∈ d := by
    have : j ∈ ringOf ns (nxt ns i) := (ringOf_mem_iff g hh hmem).mpr hjr
    rw [ed] at this
    rcases List.mem_append.mp this with z | z
    · exact z
    · simp at z; exact absurd z.symm hne
  obtain ⟨q1, q2, eq⟩ := List.append_of_mem hjd
  have er : ringOf ns (nxt ns i) = (q1 ++ [j]) ++ (q2 ++ [i]) := by rw [ed, eq]; simp
  rw [er] at c hlen
  have nd := c.nd
  have g' := exch_good g hi hj
  have hl : (q1 ++ [j]).length + (q2 ++ [i]).length = (ringOf ns h).length := by rw [← List.length_append]; exact hlen
  obtain ⟨nd1, nd2, nd3⟩ := List.nodup_append.mp nd
  by_cases h1 : m < (q1 ++ [j]).length
  · refine ((c.left (by simp)).exch (i := i) (j := j) ?_ ?_).notShort g' h1
    · rw [List.dropLast_concat]
      intro z
      exact nd3 i (List.mem_append_left _ z) i (by simp) rfl
    · rw [List.dropLast_concat]
      intro z
      exact (List.nodup_append.mp nd1).2.2 j z j (by simp) rfl
  · have h2 : m < (q2 ++ [i]).length := by omega
    obtain ⟨y, t, ey⟩ := List.exists_cons_of_ne_nil (show q2 ++ [i] ≠ [] by simp)
    rw [ey] at c
    have c2 := c.right
    rw [← ey] at c2
    refine (c2.exch (i := i) (j := j) ?_ ?_).notShort g' h2
    · rw [List.dropLast_concat]
      intro z
      exact (List.nodup_append.mp nd2).2.2 i z i (by simp) rfl
    · rw [List.dropLast_concat]
      intro z
      exact nd3 j (by simp) j (List.mem_append_left _ z) rfl

/-! ### the rings that are too long, by their least boxes -/
theorem longOf_eq (ns : List Nat) (m : Nat) : longOf ns m = ((List.range ns.length).filter fun k => isMin ns k && decide (m < (ringOf ns k).length)).map (ringOf ns) := by
  unfold longOf ringsOf ringsTo
  rw [List.filter_map, List.filter_filter]
  congr 1
  apply List.filter_congr
  intro k _
  show (decide (m < (ringOf ns k).length) && isMin ns k) = _
  rw [Bool.and_comm]
theorem min_disj {ns : List Nat} (g : Good ns) {a b : Nat} (ha : a < ns.length) (hb : b < ns.length) (h1 : isMin ns a = true) (h2 : isMin ns b = true) (hab : a ≠ b) {x : Nat} (hx : x ∈ ringOf ns a) : x ∉ ringOf ns b := fun z => by
  have e1 : b ∈ ringOf ns a := (ringOf_mem_iff g ha hx).mp (ringOf_symm g hb z)
  have e2 : a ∈ ringOf ns b := (ringOf_mem_iff g hb z).mp (ringOf_symm g ha hx)
  have := isMin_iff.mp h1 b e1
  have := isMin_iff.mp h2 a e2
  omega
theorem longOf_disj {ns : List Nat} (g : Good ns) (m : Nat) : (longOf ns m).Pairwise fun r q => ∀ x ∈ r, x ∉ q := by
  rw [longOf_eq, List.pairwise_map]
  have h0 : ((List.range ns.length).filter fun k => isMin ns k && decide (m < (ringOf ns k).length)).Pairwise (· < ·) := List.Pairwise.filter _ (List.pairwise_lt_range)
  refine List.Pairwise.imp_of_mem ?_ h0
  intro a b ha hb hab x hx
  obtain ⟨ha1, ha2⟩ := List.mem_filter.mp ha
  obtain ⟨hb1, hb2⟩ := List.mem_filter.mp hb
  rw [Bool.and_eq_true] at ha2 hb2
  exact min_disj g (List.mem_range.mp ha1) (List.mem_range.mp hb1) ha2.1 hb2.1 (by omega) hx
theorem bars_rings {ns : List Nat} (g : Good ns) {m : Nat} (h : 1 < (longOf ns m).length) {i j : Nat} (hi : i < ns.length) (hj : j < ns.length) : ¬ Short (exch ns i j) m := by
  have h0 : 0 < (longOf ns m).length := by omega
  obtain ⟨k0, hk0, _, e0, hl0⟩ := longOf_mem (List.getElem_mem h0)
  obtain ⟨k1, hk1, _, e1, hl1⟩ := longOf_mem (List.getElem_mem h)
  have dj := List.pairwise_iff_getElem.mp (longOf_disj g m) 0 1 h0 h (by omega)
  rw [e0, e1] at dj
  rw [e0] at hl0
  rw [e1] at hl1
  by_cases hb : i ∈ ringOf ns k0 ∧ j ∈ ringOf ns k0
  · exact bars_one g hi hj hk1 hl1 (.inl fun z => dj i hb.1 z.1)
  · exact bars_one g hi hj hk0 hl0 (.inl hb)

/-! ### one ring that is too long, not more than twice: cut -/
theorem mend_ok {ns : List Nat} (g : Good ns) {m : Nat} (hm : 1 ≤ m) {r : List Nat} (er : longOf ns m = [r]) (hr : r.length ≤ 2 * m) {i j : Nat} (hi : r[m - 1]? = some i) (hj : r[r.length - 1]? = some j) :
    i < ns.length ∧ j < ns.length ∧ Short (exch ns i j) m := by
  obtain ⟨k, hk, hmin, e, hl⟩ := longOf_mem (r := r) (m := m) (by rw [er]; simp)
  have R := ringOf_is g hk
  rw [← e] at R
  have hil := R.lt i (List.mem_of_getElem? hi)
  have hjl := R.lt j (List.mem_of_getElem? hj)
  refine ⟨hil, hjl, ?_⟩
  have g' := exch_good g hil hjl
  -- the two parts
  have ea : r.take m = r.take (m - 1) ++ [i] := by
    have := List.take_add_one (l := r) (i := m - 1)
    rw [show m - 1 + 1 = m by omega, hi] at this
    exact this
  have hne : r ≠ [] := fun z => by rw [z] at hl; simp at hl
  have eb : r.drop m = (r.drop m).dropLast ++ [j] := by
    have hd : r.drop m ≠ [] := fun z => by
      have := congrArg List.length z
      rw [List.length_drop] at this
      simp at this
      omega
    have := List.dropLast_concat_getLast hd
    rw [List.getLast_drop, List.getLast_eq_getElem] at this
    have hlt : r.length - 1 < r.length := by omega
    rw [List.getElem?_eq_getElem hlt] at hj
    rw [Option.some.inj hj] at this
    exact this.symm
  have eab : r.take m ++ r.drop m = r := List.take_append_drop m r
  have la : (r.take m).length = m := by rw [List.length_take]; omega
  have lb : (r.drop m).length = r.length - m := List.length_drop
  have c := R.toChain
  rw [← eab] at c
  have nd := c.nd
  obtain ⟨nd1, nd2, nd3⟩ := List.nodup_append.mp nd
  have hia : i ∈ r.take m := by rw [ea]; simp
  have hjb : j ∈ r.drop m := by rw [eb]; simp
  have ca : IsRing (exch ns i j) k (r.take m) := by
    refine ⟨(c.left (fun z => by rw [z] at la; simp at la; omega)).exch ?_ ?_, fun x hx => ?_⟩
    · intro z
      rw [ea, List.dropLast_concat] at z
      rw [ea] at nd1
      exact (List.nodup_append.mp nd1).2.2 i z i (by simp) rfl
    · intro z
      exact nd3 j (List.dropLast_subset _ z) j hjb rfl
    · rw [la, List.getElem?_take, if_pos (by omega), hi] at hx
      cases hx
      rw [exch_nxt_i hil]
      exact R.back j hj
  obtain ⟨y, t, ey⟩ := List.exists_cons_of_ne_nil (show r.drop m ≠ [] from fun z => by rw [z] at hjb; cases hjb)
  have cb : IsRing (exch ns i j) y (r.drop m) := by
    have c2 := c
    rw [ey] at c2
    have c3 := c2.right
    rw [← ey] at c3
    refine ⟨c3.exch ?_ ?_, fun x hx => ?_⟩
    · intro z
      exact nd3 i hia i (List.dropLast_subset _ z) rfl
    · intro z
      rw [eb, List.dropLast_concat] at z
      rw [eb] at nd2
      exact (List.nodup_append.mp nd2).2.2 j z j (by simp) rfl
    · have hx2 : x = j := by
        rw [List.getElem?_drop, lb, show m + (r.length - m - 1) = r.length - 1 by omega, hj] at hx
        cases hx; rfl
      rw [hx2, exch_nxt_j hjl]
      refine R.step (m - 1) i y hi ?_
      rw [show m - 1 + 1 = m by omega]
      have : (r.drop m)[0]? = some y := by rw [ey]; rfl
      rw [List.getElem?_drop, Nat.add_zero] at this
      exact this
  have eqa := ca.eq g'
  have eqb := cb.eq g'
  have hk' : k < (exch ns i j).length := ca.toChain.hlt
  have hy' : y < (exch ns i j).length := cb.toChain.hlt
  intro h hh
  by_cases ha : h ∈ r.take m
  · rw [ringOf_len_eq g' hk' (by rw [← eqa]; exact ha), ← eqa]
    omega
  · by_cases hb : h ∈ r.drop m
    · rw [ringOf_len_eq g' hy' (by rw [← eqb]; exact hb), ← eqb]
      omega
    · have hr0 : h ∉ r := fun z => by
        rw [← eab] at z
        rcases List.mem_append.mp z with z | z
        · exact ha z
        · exact hb z
      rw [exch_len] at hh
      have out : ∀ x, x ∈ r → x ∉ ringOf ns h := fun x hx z => by
        apply hr0
        rw [e] at hx ⊢
        exact (ringOf_mem_iff g hk hx).mp (ringOf_symm g hh z)
      have hio := out i (List.mem_of_getElem? hi)
      have hjo := out j (List.mem_of_getElem? hj)
      have H := ringOf_is g hh
      have H' : IsRing (exch ns i j) h (ringOf ns h) := by
        refine ⟨H.toChain.exch (fun z => hio (List.dropLast_subset _ z)) (fun z => hjo (List.dropLast_subset _ z)), fun x hx => ?_⟩
        have hxm := List.mem_of_getElem? hx
        rw [exch_nxt (x := x) (fun z => hio (by rw [← z]; exact hxm)) (fun z => hjo (by rw [← z]; exact hxm))]
        exact H.back x hx
      rw [← H'.eq g']
      by_cases hlong : (ringOf ns h).length ≤ m
      · exact hlong
      · exfalso
        obtain ⟨k2, hk2, hmin2, hm2, hl2⟩ := min_of g hh
        have hin : ringOf ns k2 ∈ longOf ns m := by
          unfold longOf
          exact List.mem_filter.mpr ⟨mem_ringsOf hk2 hmin2, by simp; omega⟩
        rw [er, List.mem_singleton] at hin
        apply hr0
        rw [← hin]
        exact ringOf_symm g hh hm2

/-- some exchange mends it -/
def Can (ns : List Nat) (m : Nat) : Prop := ∃ i j, i ≤ j ∧ j < ns.length ∧ Short (exch ns i j) m
theorem Can.of {ns : List Nat} {m i j : Nat} (hi : i < ns.length) (hj : j < ns.length) (s : Short (exch ns i j) m) : Can ns m := by
  by_cases h : i ≤ j
  · exact ⟨i, j, h, hj, s⟩
  · exact ⟨j, i, by omega, hi, by rw [exch_comm]; exact s⟩
/-- how it is mended, or barred -/
theorem can_iff {ns : List Nat} (g : Good ns) (h1 : 1 ≤ ns.length) {m : Nat} (hm : 1 ≤ m) : Can ns m ↔ longOf ns m = [] ∨ ∃ r, longOf ns m = [r] ∧ r.length ≤ 2 * m := by
  constructor
  · rintro ⟨i, j, hij, hj, s⟩
    cases e : longOf ns m with
    | nil => exact .inl rfl
    | cons r l =>
      right
      cases l with
      | nil =>
        refine ⟨r, rfl, ?_⟩
        by_cases h : r.length ≤ 2 * m
        · exact h
        · obtain ⟨k, hk, _, er, _⟩ := longOf_mem (r := r) (m := m) (ns := ns) (by rw [e]; simp)
          rw [er] at h
          exact absurd s (bars_two g (by omega) hj hk (by omega))
      | cons q l =>
        exact absurd s (bars_rings g (by rw [e]; simp) (by omega) hj)
  · rintro (e | ⟨r, e, hr⟩)
    · refine Can.of (i := 0) (j := 0) (by omega) (by omega) ?_
      rw [exch_self (by omega)]
      exact (longOf_nil g).mp e
    · obtain ⟨k, hk, _, er, hl⟩ := longOf_mem (r := r) (m := m) (ns := ns) (by rw [e]; simp)
      obtain ⟨a, b, s⟩ := mend_ok g hm e hr (List.getElem?_eq_getElem (show m - 1 < r.length by omega)) (List.getElem?_eq_getElem (show r.length - 1 < r.length by omega))
      exact Can.of a b s
end Sb

namespace Sb

/-! ### rings that bar a mending, or not -/
abbrev castN (q : List Nat) : List Int := q.map fun (n : Nat) => (n : Int)
theorem ringI_of {ns : List Nat} (g : Good ns) {r : List Int} (h : RingI ns r) : ∃ k, k < ns.length ∧ r = castN (ringOf ns k) ∧ r[0]? = some (k : Int) := by
  obtain ⟨k, q, rfl, c⟩ := h
  have e := c.eq g
  refine ⟨k, c.toChain.hlt, by rw [e], ?_⟩
  rw [List.getElem?_map, c.head]
  rfl
theorem castN_mem {q : List Nat} {x : Nat} : (x : Int) ∈ castN q ↔ x ∈ q := by
  constructor
  · intro h
    obtain ⟨y, hy, e⟩ := List.mem_map.mp h
    have : y = x := by omega
    subst this
    exact hy
  · intro h
    exact List.mem_map.mpr ⟨x, h, rfl⟩
theorem ringI_apart {ns : List Nat} (g : Good ns) {a b : List Int} (ha : RingI ns a) (hb : RingI ns b) {x : Int} (hx : a[0]? = some x) : x ∉ b ↔ ∀ y ∈ a, y ∉ b := by
  constructor
  · intro h y hya hyb
    obtain ⟨i, hi, ea, h0⟩ := ringI_of g ha
    obtain ⟨j, hj, eb, _⟩ := ringI_of g hb
    rw [h0] at hx
    cases hx
    rw [ea] at hya
    rw [eb] at hyb h
    obtain ⟨u, hu, rfl⟩ := List.mem_map.mp hya
    apply h
    rw [castN_mem] at hyb ⊢
    exact (ringOf_mem_iff g hj hyb).mp (ringOf_symm g hi hu)
  · intro h
    exact h x (List.mem_of_getElem? hx)
theorem ringI_pos {ns : List Nat} {r : List Int} (h : RingI ns r) : 0 < r.length := List.length_pos_iff.mpr (ringI_steps.mp h).1
/-- what is told of a Barred -/
def BarD (ns : List Nat) (m : Nat) (rs : List (List Int)) : Prop := (∀ r ∈ rs, RingI ns r) ∧ ((∃ a, rs = [a] ∧ 2 * m < a.length) ∨ ∃ a b, rs = [a, b] ∧ (∀ x ∈ a, x ∉ b) ∧ m < a.length ∧ m < b.length)
/-- what is told of a Mend -/
def MendD (ns : List Nat) (m : Nat) (i j : Int) : Prop := (0 ≤ i ∧ i < (ns.length : Int)) ∧ (0 ≤ j ∧ j < (ns.length : Int)) ∧ Short (exch ns i.toNat j.toNat) m
theorem longOf_ring {ns : List Nat} (g : Good ns) {m : Nat} {r : List Nat} (h : r ∈ longOf ns m) : RingI ns (castN r) ∧ m < r.length ∧ r.length ≤ ns.length := by
  obtain ⟨k, hk, _, e, hl⟩ := longOf_mem h
  refine ⟨?_, hl, ?_⟩
  · rw [e]; exact ringOf_ringI g hk
  · rw [e]; exact ringOf_len g hk
theorem bar_two {ns : List Nat} (g : Good ns) {m : Nat} {a b : List Nat} {l : List (List Nat)} (h : longOf ns m = a :: b :: l) : BarD ns m [castN a, castN b] := by
  have ra := longOf_ring g (m := m) (r := a) (by rw [h]; simp)
  have rb := longOf_ring g (m := m) (r := b) (by rw [h]; simp)
  have dj := longOf_disj g m
  rw [h] at dj
  have d := (List.pairwise_cons.mp dj).1 b (by simp)
  refine ⟨fun r hr => ?_, .inr ⟨_, _, rfl, fun x hx hy => ?_, by rw [List.length_map]; exact ra.2.1, by rw [List.length_map]; exact rb.2.1⟩⟩
  · simp only [List.mem_cons, List.not_mem_nil, or_false] at hr
    rcases hr with rfl | rfl
    · exact ra.1
    · exact rb.1
  · obtain ⟨u, hu, rfl⟩ := List.mem_map.mp hx
    exact d u hu (castN_mem.mp hy)
theorem bar_one {ns : List Nat} (g : Good ns) {m : Nat} {a : List Nat} (h : longOf ns m = [a]) (hl : 2 * m < a.length) : BarD ns m [castN a] := by
  have ra := longOf_ring g (m := m) (r := a) (by rw [h]; simp)
  refine ⟨fun r hr => ?_, .inl ⟨_, rfl, by rw [List.length_map]; exact hl⟩⟩
  simp only [List.mem_cons, List.not_mem_nil, or_false] at hr
  subst hr
  exact ra.1
/-- an answer of mending -/
inductive MA where
  | mend (i j : Int)
  | barred (rs : List (List Int))
def MA.isMend : MA → Bool
  | .mend .. => true
  | .barred .. => false
def MDue (ns : List Nat) (m : Nat) : MA → Prop
  | .mend i j => MendD ns m i j
  | .barred rs => BarD ns m rs
theorem min_head {r : List Nat} {h : Nat} {mn : Nat} (hm : mn ∈ r) (hle : ∀ x ∈ r, mn ≤ x) (hh : h ∈ r) : mn = h ↔ ∀ x ∈ r, h ≤ x := by
  constructor
  · rintro rfl; exact hle
  · intro z
    have := z mn hm
    have := hle h hh
    omega
end Sb

namespace Sb

/-! ### in how many ways chains of told lengths close into rings of at most m boxes -/
/-- each item, and what is left without it -/
def picks : List Nat → List (Nat × List Nat)
  | [] => []
  | y :: l => (y, l) :: (picks l).map fun p => (p.1, y :: p.2)
theorem picks_len : ∀ {l : List Nat} {p : Nat × List Nat}, p ∈ picks l → p.2.length + 1 = l.length
  | [], p, h => by cases h
  | y :: l, p, h => by
    rcases List.mem_cons.mp h with rfl | h
    · rfl
    · obtain ⟨q, hq, rfl⟩ := List.mem_map.mp h
      have := picks_len hq
      simp only [List.length_cons]
      omega
/-- by the chain that the first one's end leads to: itself, or another one -/
def closesF (m : Nat) : Nat → List Nat → Nat
  | _, [] => 1
  | 0, _ :: _ => 0
  | f + 1, x :: l => (if x ≤ m then closesF m f l else 0) + ((picks l).map fun p => closesF m f ((x + p.1) :: p.2)).sum
def cl (m : Nat) (l : List Nat) : Nat := closesF m l.length l
theorem map_sum_congr {α : Type} {l : List α} {f g : α → Nat} (h : ∀ a ∈ l, f a = g a) : (l.map f).sum = (l.map g).sum := by
  rw [List.map_congr_left h]
theorem map_sum_add {α : Type} (f g : α → Nat) : ∀ l : List α, (l.map fun a => f a + g a).sum = (l.map f).sum + (l.map g).sum
  | [] => rfl
  | a :: l => by
    simp only [List.map_cons, List.sum_cons, map_sum_add f g l]
    omega
theorem map_sum_if {α : Type} (p : Prop) [Decidable p] (f : α → Nat) (l : List α) : (l.map fun a => if p then f a else 0).sum = if p then (l.map f).sum else 0 := by
  by_cases h : p
  · rw [if_pos h]
    exact map_sum_congr fun a _ => if_pos h
  · rw [if_neg h, map_sum_congr (g := fun _ => 0) fun a _ => if_neg h]
    induction l with
    | nil => rfl
    | cons a l ih => simpa using ih
theorem cl_nil (m : Nat) : cl m [] = 1 := rfl
theorem cl_cons (m x : Nat) (l : List Nat) : cl m (x :: l) = (if x ≤ m then cl m l else 0) + ((picks l).map fun p => cl m ((x + p.1) :: p.2)).sum := by
  show closesF m (l.length + 1) (x :: l) = _
  unfold closesF
  congr 1
  apply map_sum_congr
  intro p hp
  have := picks_len hp
  unfold cl
  rw [List.length_cons, this]
/-- two picked, one behind the other: in any turn -/
theorem picks_two (g : Nat → Nat → List Nat → Nat) : ∀ l : List Nat, ((picks l).map fun p => ((picks p.2).map fun q => g p.1 q.1 q.2).sum).sum = ((picks l).map fun p => ((picks p.2).map fun q => g q.1 p.1 q.2).sum).sum := by
  intro l
  induction l generalizing g with
  | nil => rfl
  | cons a l ih =>
    have key : ∀ g : Nat → Nat → List Nat → Nat, ((picks (a :: l)).map fun p => ((picks p.2).map fun q => g p.1 q.1 q.2).sum).sum = ((picks l).map fun q => g a q.1 q.2).sum + (((picks l).map fun p => g p.1 a p.2).sum + ((picks l).map fun p => ((picks p.2).map fun q => g p.1 q.1 (a :: q.2)).sum).sum) := fun g => by
      simp only [picks, List.map_cons, List.sum_cons, List.map_map, Function.comp_def]
      rw [map_sum_add]
    rw [key g, key fun x y r => g y x r, ih fun x y r => g x y (a :: r)]
    omega
theorem picks_perm {l l' : List Nat} (h : l.Perm l') (f : Nat × List Nat → Nat) (hf : ∀ y r r', r.length + 1 = l.length → r.Perm r' → f (y, r) = f (y, r')) : ((picks l).map f).sum = ((picks l').map f).sum := by
  induction h generalizing f with
  | nil => rfl
  | cons x h ih =>
    simp only [picks, List.map_cons, List.sum_cons, List.map_map, Function.comp_def]
    rw [hf x _ _ (by simp) h]
    congr 1
    exact ih (fun p => f (p.1, x :: p.2)) fun y r r' hl hr => hf y _ _ (by simp only [List.length_cons]; omega) (hr.cons x)
  | swap x y l =>
    simp only [picks, List.map_cons, List.sum_cons, List.map_map, Function.comp_def]
    have e : ((picks l).map fun p => f (p.1, y :: x :: p.2)).sum = ((picks l).map fun p => f (p.1, x :: y :: p.2)).sum := map_sum_congr fun p hp => hf _ _ _ (by have := picks_len hp; simp only [List.length_cons]; omega) (.swap ..)
    rw [e]
    omega
  | trans h1 h2 ih1 ih2 =>
    rw [ih1 f hf]
    exact ih2 f fun y r r' hl hr => hf y r r' (by rw [h1.length_eq]; exact hl) hr
theorem cl_swap_of {m n : Nat} (ih : ∀ l l' : List Nat, l.length < n → l.Perm l' → cl m l = cl m l') (x y : Nat) (l : List Nat) (hl : l.length + 2 = n) : cl m (x :: y :: l) = cl m (y :: x :: l) := by
  have key : ∀ x y : Nat, cl m (x :: y :: l) = (if x ≤ m then if y ≤ m then cl m l else 0 else 0) + (if x ≤ m then ((picks l).map fun p => cl m ((y + p.1) :: p.2)).sum else 0) + cl m ((x + y) :: l)
      + (if y ≤ m then ((picks l).map fun p => cl m ((x + p.1) :: p.2)).sum else 0) + ((picks l).map fun p => cl m ((x + y + p.1) :: p.2)).sum + ((picks l).map fun p => ((picks p.2).map fun q => cl m ((x + p.1) :: (y + q.1) :: q.2)).sum).sum := fun x y => by
    rw [cl_cons]
    have e1 : (if x ≤ m then cl m (y :: l) else 0) = (if x ≤ m then if y ≤ m then cl m l else 0 else 0) + (if x ≤ m then ((picks l).map fun p => cl m ((y + p.1) :: p.2)).sum else 0) := by
      by_cases h : x ≤ m
      · rw [if_pos h, if_pos h, if_pos h, cl_cons]
      · rw [if_neg h, if_neg h, if_neg h]
    have e2 : ((picks (y :: l)).map fun p => cl m ((x + p.1) :: p.2)).sum = cl m ((x + y) :: l) + ((picks l).map fun p => cl m ((x + p.1) :: y :: p.2)).sum := by
      simp only [picks, List.map_cons, List.sum_cons, List.map_map, Function.comp_def]
    have e3 : ((picks l).map fun p => cl m ((x + p.1) :: y :: p.2)).sum = ((picks l).map fun p => ((if y ≤ m then cl m ((x + p.1) :: p.2) else 0) + cl m ((x + y + p.1) :: p.2)) + ((picks p.2).map fun q => cl m ((x + p.1) :: (y + q.1) :: q.2)).sum).sum := by
      apply map_sum_congr
      intro p hp
      have hpl := picks_len hp
      rw [ih (_ :: y :: p.2) (y :: (x + p.1) :: p.2) (by simp only [List.length_cons]; omega) (.swap ..), cl_cons]
      have e4 : ((picks ((x + p.1) :: p.2)).map fun q => cl m ((y + q.1) :: q.2)).sum = cl m ((x + y + p.1) :: p.2) + ((picks p.2).map fun q => cl m ((x + p.1) :: (y + q.1) :: q.2)).sum := by
        simp only [picks, List.map_cons, List.sum_cons, List.map_map, Function.comp_def]
        rw [show y + (x + p.1) = x + y + p.1 by omega]
        congr 1
        apply map_sum_congr
        intro q hq
        have hql := picks_len hq
        exact ih _ _ (by simp only [List.length_cons]; omega) (.swap ..)
      rw [e4]
      omega
    rw [e1, e2, e3, map_sum_add, map_sum_add, map_sum_if]
    omega
  rw [key x y, key y x]
  have e6 : ((picks l).map fun p => ((picks p.2).map fun q => cl m ((x + p.1) :: (y + q.1) :: q.2)).sum).sum = ((picks l).map fun p => ((picks p.2).map fun q => cl m ((y + p.1) :: (x + q.1) :: q.2)).sum).sum := by
    rw [picks_two fun a b r => cl m ((x + a) :: (y + b) :: r)]
    apply map_sum_congr
    intro p hp
    apply map_sum_congr
    intro q hq
    have hpl := picks_len hp
    have hql := picks_len hq
    exact ih _ _ (by simp only [List.length_cons]; omega) (.swap ..)
  rw [e6, Nat.add_comm x y]
  by_cases h1 : x ≤ m <;> by_cases h2 : y ≤ m <;> simp only [if_pos, if_neg, h1, h2, not_false_eq_true] <;> omega
/-- the turn of the chains doesn't matter -/
theorem cl_perm {m : Nat} {l l' : List Nat} (h : l.Perm l') : cl m l = cl m l' := by
  suffices H : ∀ n (l l' : List Nat), l.length ≤ n → l.Perm l' → cl m l = cl m l' from H _ l l' (Nat.le_refl _) h
  intro n
  induction n with
  | zero =>
    intro l l' hl h
    have e1 : l = [] := List.length_eq_zero_iff.mp (by omega)
    subst e1
    rw [h.nil_eq]
  | succ n ih =>
    intro l l' hl h
    induction h with
    | nil => rfl
    | cons x h _ =>
      have hl' := hl
      rw [List.length_cons] at hl'
      rw [cl_cons, cl_cons, ih _ _ (by omega) h]
      congr 1
      refine picks_perm h _ fun y r r' hr hp => ih _ _ (by simp only [List.length_cons]; omega) (hp.cons _)
    | swap x y l => exact cl_swap_of (fun l l' hl h => ih l l' (by simp only [List.length_cons] at *; omega) h) y x l rfl
    | trans h1 h2 ih1 ih2 => exact (ih1 hl).trans (ih2 (by rw [← h1.length_eq]; exact hl))

/-! ### the same by the ring of one chain: all choices of others go with it -/
/-- the sum over all partings of a list: what is taken, what is left -/
def spl : List Nat → (List Nat → List Nat → Nat) → Nat
  | [], f => f [] []
  | y :: l, f => spl l (fun T R => f T (y :: R)) + spl l (fun T R => f (y :: T) R)
theorem spl_congr : ∀ {l : List Nat} {f g : List Nat → List Nat → Nat}, (∀ T R, T.length + R.length = l.length → f T R = g T R) → spl l f = spl l g
  | [], f, g, h => h [] [] rfl
  | y :: l, f, g, h => by
    unfold spl
    rw [spl_congr (l := l) fun T R e => h T (y :: R) (by simp only [List.length_cons]; omega), spl_congr (l := l) fun T R e => h (y :: T) R (by simp only [List.length_cons]; omega)]
theorem spl_add : ∀ (l : List Nat) (f g : List Nat → List Nat → Nat), spl l (fun T R => f T R + g T R) = spl l f + spl l g
  | [], f, g => rfl
  | y :: l, f, g => by
    show spl l (fun T R => f T (y :: R) + g T (y :: R)) + spl l (fun T R => f (y :: T) R + g (y :: T) R) = (spl l (fun T R => f T (y :: R)) + spl l (fun T R => f (y :: T) R)) + (spl l (fun T R => g T (y :: R)) + spl l (fun T R => g (y :: T) R))
    rw [spl_add l (fun T R => f T (y :: R)) (fun T R => g T (y :: R)), spl_add l (fun T R => f (y :: T) R) (fun T R => g (y :: T) R)]
    omega
theorem spl_none : ∀ (l : List Nat) (e : List Nat → Nat), spl l (fun T R => if T = [] then e R else 0) = e l
  | [], e => rfl
  | y :: l, e => by
    unfold spl
    rw [spl_none l fun R => e (y :: R)]
    have : ∀ l : List Nat, spl l (fun T R => if y :: T = [] then e R else 0) = 0 := fun l => by
      have z : ∀ l : List Nat, spl l (fun _ _ => 0) = 0 := fun l => by
        induction l with
        | nil => rfl
        | cons a l ih => unfold spl; rw [ih]
      rw [spl_congr (g := fun _ _ => 0) fun T R _ => if_neg (by simp), z]
    rw [this]
    omega
theorem spl_picks (k : List Nat → List Nat → Nat) (hk : ∀ T T' R, T.Perm T' → k T R = k T' R) : ∀ l : List Nat, ((picks l).map fun p => spl p.2 fun T R => k (p.1 :: T) R).sum = spl l fun T R => T.length * k T R := by
  intro l
  induction l generalizing k with
  | nil => simp [picks, spl]
  | cons a l ih =>
    simp only [picks, List.map_cons, List.sum_cons, List.map_map, Function.comp_def, spl]
    rw [map_sum_add, ih (fun T R => k T (a :: R)) fun T T' R h => hk T T' _ h]
    have e : ((picks l).map fun p => spl p.2 fun T R => k (p.1 :: a :: T) R).sum = ((picks l).map fun p => spl p.2 fun T R => k (a :: p.1 :: T) R).sum :=
      map_sum_congr fun p _ => spl_congr fun T R _ => hk _ _ R (.swap ..)
    rw [e, ih (fun T R => k (a :: T) R) fun T T' R h => hk _ _ _ (h.cons a)]
    have e2 : spl l (fun T R => (a :: T).length * k (a :: T) R) = spl l (fun T R => k (a :: T) R) + spl l (fun T R => T.length * k (a :: T) R) := by
      rw [← spl_add]
      apply spl_congr
      intro T R _
      rw [List.length_cons, Nat.add_mul, Nat.one_mul, Nat.add_comm]
    rw [e2]
    omega
def fact : Nat → Nat
  | 0 => 1
  | n + 1 => (n + 1) * fact n
theorem cl_spl (m : Nat) : ∀ (n : Nat) (x : Nat) (l : List Nat), l.length = n → cl m (x :: l) = spl l fun T R => if x + T.sum ≤ m then fact T.length * cl m R else 0 := by
  intro n
  induction n with
  | zero =>
    intro x l hl
    have e : l = [] := List.length_eq_zero_iff.mp hl
    subst e
    rw [cl_cons]
    simp [picks, spl, fact, cl_nil]
  | succ n ih =>
    intro x l hl
    rw [cl_cons]
    have e1 : ((picks l).map fun p => cl m ((x + p.1) :: p.2)).sum = ((picks l).map fun p => spl p.2 fun T R => (fun T R => if x + T.sum ≤ m then fact (T.length - 1) * cl m R else 0) (p.1 :: T) R).sum := by
      apply map_sum_congr
      intro p hp
      have := picks_len hp
      rw [ih (x + p.1) p.2 (by omega)]
      apply spl_congr
      intro T R _
      simp only [List.sum_cons, List.length_cons, Nat.add_sub_cancel, Nat.add_assoc]
    rw [e1, spl_picks (fun T R => if x + T.sum ≤ m then fact (T.length - 1) * cl m R else 0) (fun T T' R h => by simp only [h.sum_nat, h.length_eq])]
    rw [← spl_none l fun R => if x ≤ m then cl m R else 0, ← spl_add]
    apply spl_congr
    intro T R _
    cases T with
    | nil => simp [fact]
    | cons y T =>
      rw [if_neg (by simp), Nat.zero_add, List.length_cons, Nat.add_sub_cancel]
      by_cases h : x + (y :: T).sum ≤ m
      · rw [if_pos h, if_pos h]
        show _ = (T.length + 1) * fact T.length * cl m R
        rw [Nat.mul_assoc]
      · rw [if_neg h, if_neg h, Nat.mul_zero]
end Sb

namespace Sb

/-! ### some slips laid: chains that are open, rings that are closed -/
def begins (n : Nat) (p : List Nat) : List Nat := (List.range n).filter fun b => decide (b ∉ p)
theorem mem_begins {n b : Nat} {p : List Nat} : b ∈ begins n p ↔ b < n ∧ b ∉ p := by
  unfold begins
  rw [List.mem_filter, List.mem_range, decide_eq_true_iff]
theorem begins_pw (n : Nat) (p : List Nat) : (begins n p).Pairwise (· < ·) := List.Pairwise.filter _ List.pairwise_lt_range
theorem begins_nd (n : Nat) (p : List Nat) : (begins n p).Nodup := (begins_pw n p).imp fun h => Nat.ne_of_lt h
theorem begins_snoc (n : Nat) (p : List Nat) (s : Nat) : begins n (p ++ [s]) = (begins n p).erase s := by
  rw [(begins_nd n p).erase_eq_filter]
  unfold begins
  rw [List.filter_filter]
  apply List.filter_congr
  intro b _
  rw [Bool.eq_iff_iff]
  simp
  exact And.comm
structure Path (p : List Nat) (b : Nat) (q : List Nat) : Prop where
  head : q[0]? = some b
  step : ∀ i x y, q[i]? = some x → q[i + 1]? = some y → p[x]? = some y
  last : ∀ x, q[q.length - 1]? = some x → p.length ≤ x
structure Round (p c : List Nat) : Prop where
  pos : 0 < c.length
  step : ∀ i x, c[i]? = some x → p[x]? = c[(i + 1) % c.length]?
structure Lay (n : Nat) (p : List Nat) (P : Nat → List Nat) (C : List (List Nat)) : Prop where
  nd : p.Nodup
  lt : ∀ x ∈ p, x < n
  path : ∀ b ∈ begins n p, Path p b (P b)
  round : ∀ c ∈ C, Round p c
  all : ((begins n p).flatMap P ++ C.flatten).Perm (List.range n)
theorem Path.pos {p : List Nat} {b : Nat} {q : List Nat} (h : Path p b q) : 0 < q.length := (List.getElem?_eq_some_iff.mp h.head).1
theorem Lay.len {n : Nat} {p : List Nat} {P : Nat → List Nat} {C : List (List Nat)} (L : Lay n p P C) : p.length ≤ n := nodup_le L.nd L.lt
theorem Lay.start (n : Nat) : Lay n [] (fun b => [b]) [] where
  nd := List.nodup_nil
  lt := fun x h => by cases h
  path := fun b _ => ⟨rfl, fun i x y _ h => by simp at h, fun x _ => Nat.zero_le _⟩
  round := fun c h => by cases h
  all := by
    have e : begins n [] = List.range n := by
      unfold begins
      rw [List.filter_eq_self]
      intro a _
      simp
    have e2 : ∀ l : List Nat, l.flatMap (fun b => [b]) = l := fun l => by
      induction l with
      | nil => rfl
      | cons a l ih => rw [List.flatMap_cons, ih]; rfl
    rw [e, e2]
    simp
theorem last_of {q : List Nat} {x : Nat} (h : q[q.length - 1]? = some x) : ∃ a, q = a ++ [x] := by
  have hl := (List.getElem?_eq_some_iff.mp h).1
  have hne : q ≠ [] := fun e => by rw [e] at hl; simp at hl
  refine ⟨q.dropLast, ?_⟩
  have := List.dropLast_concat_getLast hne
  rw [List.getLast_eq_getElem] at this
  rw [List.getElem?_eq_getElem hl] at h
  rw [Option.some.inj h] at this
  exact this.symm
theorem get_snoc {p : List Nat} {x y s : Nat} (h : p[x]? = some y) : (p ++ [s])[x]? = some y := by
  rw [List.getElem?_append_left (List.getElem?_eq_some_iff.mp h).1]
  exact h
/-- where the next box stands: behind an open chain -/
theorem Lay.open_ {n : Nat} {p : List Nat} {P : Nat → List Nat} {C : List (List Nat)} (L : Lay n p P C) (hk : p.length < n) : ∃ A, A ∈ begins n p ∧ (P A)[(P A).length - 1]? = some p.length := by
  have hm : p.length ∈ (begins n p).flatMap P ++ C.flatten := L.all.mem_iff.mpr (List.mem_range.mpr hk)
  have hnone : p[p.length]? = none := List.getElem?_eq_none (Nat.le_refl _)
  rcases List.mem_append.mp hm with h | h
  · obtain ⟨A, hA, hx⟩ := List.mem_flatMap.mp h
    refine ⟨A, hA, ?_⟩
    obtain ⟨i, hi⟩ := List.mem_iff_getElem?.mp hx
    have hil := (List.getElem?_eq_some_iff.mp hi).1
    by_cases hlast : i + 1 < (P A).length
    · have := (L.path A hA).step i _ _ hi (List.getElem?_eq_getElem hlast)
      rw [hnone] at this
      cases this
    · rw [show (P A).length - 1 = i by omega]
      exact hi
  · obtain ⟨c, hc, hx⟩ := List.mem_flatten.mp h
    obtain ⟨i, hi⟩ := List.mem_iff_getElem?.mp hx
    have R := L.round c hc
    have := R.step i _ hi
    rw [hnone, List.getElem?_eq_getElem (Nat.mod_lt _ R.pos)] at this
    cases this
theorem Lay.nodup {n : Nat} {p : List Nat} {P : Nat → List Nat} {C : List (List Nat)} (L : Lay n p P C) : ((begins n p).flatMap P ++ C.flatten).Nodup := L.all.nodup_iff.mpr List.nodup_range
theorem Lay.apart {n : Nat} {p : List Nat} {P : Nat → List Nat} {C : List (List Nat)} (L : Lay n p P C) {a b x : Nat} (ha : a ∈ begins n p) (hb : b ∈ begins n p) (h1 : x ∈ P a) (h2 : x ∈ P b) : a = b := by
  by_cases e : a = b
  · exact e
  exfalso
  have nd := (List.nodup_append.mp L.nodup).1
  have p1 : (begins n p).Perm (a :: (begins n p).erase a) := List.perm_cons_erase ha
  have nd2 := (p1.flatMap_right P).nodup_iff.mp nd
  rw [List.flatMap_cons] at nd2
  refine (List.nodup_append.mp nd2).2.2 x h1 x ?_ rfl
  exact List.mem_flatMap.mpr ⟨b, (List.mem_erase_of_ne fun z => e z.symm).mpr hb, h2⟩
def Pn (P : Nat → List Nat) (A s : Nat) : Nat → List Nat := if s = A then P else fun b => if b = A then P A ++ P s else P b
def Cn (P : Nat → List Nat) (C : List (List Nat)) (A s : Nat) : List (List Nat) := if s = A then P s :: C else C
theorem Lay.next {n : Nat} {p : List Nat} {P : Nat → List Nat} {C : List (List Nat)} (L : Lay n p P C) {A : Nat} (hA : A ∈ begins n p) (he : (P A)[(P A).length - 1]? = some p.length) {s : Nat} (hs : s ∈ begins n p) :
    Lay n (p ++ [s]) (Pn P A s) (Cn P C A s) := by
  have hsn := mem_begins.mp hs
  have nd' : (p ++ [s]).Nodup := by
    rw [List.nodup_append]
    refine ⟨L.nd, by simp, fun a ha b hb => ?_⟩
    simp at hb
    subst hb
    exact fun e => hsn.2 (e ▸ ha)
  have lt' : ∀ x ∈ p ++ [s], x < n := fun x hx => by
    rcases List.mem_append.mp hx with h | h
    · exact L.lt x h
    · simp at h; subst h; exact hsn.1
  have other : ∀ b ∈ begins n p, b ≠ A → Path (p ++ [s]) b (P b) := fun b hb hbA => by
    have h := L.path b hb
    refine ⟨h.head, fun i x y hx hy => get_snoc (h.step i x y hx hy), fun x hx => ?_⟩
    have h1 := h.last x hx
    have h2 : x ≠ p.length := fun e => hbA (L.apart hb hA (List.mem_of_getElem? hx) (by rw [e]; exact List.mem_of_getElem? he))
    rw [List.length_append]
    show p.length + 1 ≤ x
    omega
  have round' : ∀ c ∈ C, Round (p ++ [s]) c := fun c hc => by
    have R := L.round c hc
    refine ⟨R.pos, fun i x hx => ?_⟩
    have h := R.step i x hx
    have hl := Nat.mod_lt (i + 1) R.pos
    rw [List.getElem?_eq_getElem hl] at h ⊢
    exact get_snoc h
  have p1 : (begins n p).Perm (s :: (begins n p).erase s) := List.perm_cons_erase hs
  have hk : (p ++ [s])[p.length]? = some s := by
    rw [List.getElem?_append_right (Nat.le_refl _), Nat.sub_self]; rfl
  by_cases e : s = A
  · unfold Pn Cn
    rw [if_pos e, if_pos e]
    subst e
    refine ⟨nd', lt', fun b hb => ?_, fun c hc => ?_, ?_⟩
    · rw [begins_snoc, (begins_nd n p).mem_erase_iff] at hb
      exact other b hb.2 hb.1
    · rcases List.mem_cons.mp hc with rfl | hc
      · have h := L.path s hs
        refine ⟨h.pos, fun i x hx => ?_⟩
        have hi := (List.getElem?_eq_some_iff.mp hx).1
        by_cases hl : i + 1 < (P s).length
        · rw [Nat.mod_eq_of_lt hl, List.getElem?_eq_getElem hl]
          exact get_snoc (h.step i x _ hx (List.getElem?_eq_getElem hl))
        · have ei : i = (P s).length - 1 := by omega
          rw [ei, he] at hx
          cases hx
          rw [show i + 1 = (P s).length by omega, Nat.mod_self, h.head]
          exact hk
      · exact round' c hc
    · rw [begins_snoc, List.flatten_cons]
      refine .trans ?_ L.all
      have h2 := (p1.flatMap_right P).append_right C.flatten
      rw [List.flatMap_cons] at h2
      refine .trans ?_ h2.symm
      rw [← List.append_assoc]
      exact List.perm_append_comm.append_right _
  · unfold Pn Cn
    rw [if_neg e, if_neg e]
    refine ⟨nd', lt', fun b hb => ?_, round', ?_⟩
    · rw [begins_snoc, (begins_nd n p).mem_erase_iff] at hb
      by_cases hbA : b = A
      · subst hbA
        show Path _ _ (if b = b then P b ++ P s else P b)
        rw [if_pos rfl]
        have h1 := L.path b hA
        have h2 := other s hs e
        have hp1 := h1.pos
        have hp2 := h2.pos
        refine ⟨?_, fun i x y hx hy => ?_, fun x hx => ?_⟩
        · rw [List.getElem?_append_left hp1]
          exact h1.head
        · by_cases hi : i + 1 < (P b).length
          · rw [List.getElem?_append_left (by omega)] at hx
            rw [List.getElem?_append_left hi] at hy
            exact get_snoc (h1.step i x y hx hy)
          · by_cases hi2 : i + 1 = (P b).length
            · rw [List.getElem?_append_left (by omega), show i = (P b).length - 1 by omega, he] at hx
              rw [List.getElem?_append_right (by omega), hi2, Nat.sub_self, h2.head] at hy
              cases hx
              cases hy
              exact hk
            · rw [List.getElem?_append_right (by omega)] at hx hy
              rw [show i + 1 - (P b).length = i - (P b).length + 1 by omega] at hy
              exact h2.step _ x y hx hy
        · rw [List.length_append, List.getElem?_append_right (by omega), show (P b).length + (P s).length - 1 - (P b).length = (P s).length - 1 by omega] at hx
          exact h2.last x hx
      · show Path _ _ (if b = A then P A ++ P s else P b)
        rw [if_neg hbA]
        exact other b hb.2 hbA
    · rw [begins_snoc]
      refine .trans ?_ L.all
      apply List.Perm.append_right
      have hA2 : A ∈ (begins n p).erase s := (List.mem_erase_of_ne fun z => e z.symm).mpr hA
      have p2 := List.perm_cons_erase hA2
      have p3 : (begins n p).Perm (s :: A :: ((begins n p).erase s).erase A) := p1.trans (p2.cons s)
      have nd3 := p3.nodup_iff.mp (begins_nd n p)
      refine (p2.flatMap_right _).trans (.trans ?_ (p3.flatMap_right P).symm)
      rw [List.flatMap_cons, List.flatMap_cons, List.flatMap_cons]
      rw [if_pos rfl]
      have e3 : (((begins n p).erase s).erase A).flatMap (fun b => if b = A then P A ++ P s else P b) = (((begins n p).erase s).erase A).flatMap P := by
        have hn : ∀ b ∈ ((begins n p).erase s).erase A, b ≠ A := fun b hb z => by
          subst z
          have := (List.nodup_cons.mp (List.nodup_cons.mp nd3).2).1
          exact this hb
        rw [List.flatMap_def, List.flatMap_def]
        congr 1
        apply List.map_congr_left
        intro b hb
        exact if_neg (hn b hb)
      rw [e3, ← List.append_assoc]
      exact List.perm_append_comm.append_right _
/-! ### how many winning settings begin with them -/
def lens (n : Nat) (p : List Nat) (P : Nat → List Nat) : List Nat := (begins n p).map fun b => (P b).length
def Small (C : List (List Nat)) (m : Nat) : Prop := ∀ c ∈ C, c.length ≤ m
instance (C : List (List Nat)) (m : Nat) : Decidable (Small C m) := inferInstanceAs (Decidable (∀ c ∈ C, c.length ≤ m))
def val (n m : Nat) (p : List Nat) (P : Nat → List Nat) (C : List (List Nat)) : Nat := if Small C m then cl m (lens n p P) else 0
theorem picks_nd : ∀ {B : List Nat}, B.Nodup → picks B = B.map fun s => (s, B.erase s)
  | [], _ => rfl
  | a :: B, h => by
    obtain ⟨h1, h2⟩ := List.nodup_cons.mp h
    unfold picks
    rw [picks_nd h2, List.map_cons, List.map_map]
    congr 1
    · simp
    · apply List.map_congr_left
      intro s hs
      have : ¬ (a == s) = true := fun z => h1 (by rw [beq_iff_eq.mp z]; exact hs)
      simp only [Function.comp_apply, List.erase_cons, if_neg this]
theorem picks_map (f : Nat → Nat) : ∀ B : List Nat, picks (B.map f) = (picks B).map fun p => (f p.1, p.2.map f)
  | [] => rfl
  | a :: B => by
    unfold picks
    rw [List.map_cons]
    simp only [picks_map f B, List.map_cons, List.map_map]
    rfl
theorem val_sum {n m : Nat} {p : List Nat} {P : Nat → List Nat} {C : List (List Nat)} {A : Nat} (hA : A ∈ begins n p) :
    ((begins n p).map fun s => val n m (p ++ [s]) (Pn P A s) (Cn P C A s)).sum = val n m p P C := by
  have nd := begins_nd n p
  have p1 : (begins n p).Perm (A :: (begins n p).erase A) := List.perm_cons_erase hA
  have ndB := nd.erase A
  have hB : ∀ s ∈ (begins n p).erase A, s ≠ A ∧ s ∈ begins n p := fun s hs => nd.mem_erase_iff.mp hs
  generalize eB : (begins n p).erase A = B at p1 ndB hB
  have e1 := (p1.map fun s => val n m (p ++ [s]) (Pn P A s) (Cn P C A s)).sum_nat
  rw [e1, List.map_cons, List.sum_cons]
  have eA : val n m (p ++ [A]) (Pn P A A) (Cn P C A A) = if Small C m then (if (P A).length ≤ m then cl m (B.map fun b => (P b).length) else 0) else 0 := by
    unfold val Cn Pn lens
    rw [if_pos rfl, if_pos rfl, begins_snoc, eB]
    by_cases h1 : Small C m
    · by_cases h2 : (P A).length ≤ m
      · rw [if_pos h1, if_pos h2, if_pos]
        intro c hc
        rcases List.mem_cons.mp hc with rfl | hc
        · exact h2
        · exact h1 c hc
      · rw [if_pos h1, if_neg h2, if_neg]
        exact fun z => h2 (z _ List.mem_cons_self)
    · rw [if_neg h1, if_neg]
      exact fun z => h1 fun c hc => z c (List.mem_cons_of_mem _ hc)
  have eS : (B.map fun s => val n m (p ++ [s]) (Pn P A s) (Cn P C A s)).sum = if Small C m then (B.map fun s => cl m (((P A).length + (P s).length) :: (B.erase s).map fun b => (P b).length)).sum else 0 := by
    rw [← map_sum_if]
    apply map_sum_congr
    intro s hs
    obtain ⟨hne, hsb⟩ := hB s hs
    unfold val Cn Pn lens
    rw [if_neg hne, if_neg hne, begins_snoc]
    by_cases h1 : Small C m
    · rw [if_pos h1, if_pos h1]
      apply cl_perm
      have hA2 : A ∈ (begins n p).erase s := (List.mem_erase_of_ne fun z => hne z.symm).mpr hA
      have p2 := List.perm_cons_erase hA2
      rw [List.erase_comm, eB] at p2
      refine (p2.map _).trans ?_
      rw [List.map_cons, if_pos rfl, List.length_append]
      refine .cons _ (.of_eq ?_)
      apply List.map_congr_left
      intro b hb
      have : b ≠ A := (hB b (List.mem_of_mem_erase hb)).1
      rw [if_neg this]
    · rw [if_neg h1, if_neg h1]
  rw [eA, eS]
  unfold val
  by_cases h1 : Small C m
  · rw [if_pos h1, if_pos h1, if_pos h1]
    have e3 : cl m (lens n p P) = cl m ((P A).length :: B.map fun b => (P b).length) := cl_perm (p1.map fun b => (P b).length)
    rw [e3, cl_cons, picks_map, picks_nd ndB, List.map_map, List.map_map]
    rfl
  · rw [if_neg h1, if_neg h1, if_neg h1]
/-- the winning settings that begin with p, in the order of lists -/
def wins (n m : Nat) : Nat → List Nat → List (List Nat)
  | 0, p => if (longOf p m).isEmpty then [p] else []
  | f + 1, p => (begins n p).flatMap fun s => wins n m f (p ++ [s])
theorem Lay.done {n : Nat} {p : List Nat} {P : Nat → List Nat} {C : List (List Nat)} (L : Lay n p P C) (h : p.length = n) : Good p ∧ begins n p = [] ∧ ∀ m, Small C m ↔ Short p m := by
  have hp : p.Perm (List.range n) := by
    refine (List.perm_ext_iff_of_nodup L.nd List.nodup_range).mpr fun x => ?_
    rw [List.mem_range]
    refine ⟨L.lt x, fun hx => ?_⟩
    by_cases hm : x ∈ p
    · exact hm
    · have nd : (p ++ [x]).Nodup := by
        rw [List.nodup_append]
        refine ⟨L.nd, by simp, fun a ha b hb e => ?_⟩
        simp at hb
        subst hb
        exact hm (e ▸ ha)
      have := nodup_le (n := n) nd fun y hy => by
        rcases List.mem_append.mp hy with h | h
        · exact L.lt y h
        · simp at h; omega
      rw [List.length_append] at this
      simp at this
      omega
  have g : Good p := ⟨by rw [h]; exact hp⟩
  have hb : begins n p = [] := by
    unfold begins
    rw [List.filter_eq_nil_iff]
    intro x hx
    rw [decide_eq_true_iff]
    exact fun z => z (hp.mem_iff.mpr hx)
  refine ⟨g, hb, fun m => ?_⟩
  have all := L.all
  rw [hb, List.flatMap_nil, List.nil_append] at all
  have ndf : C.flatten.Nodup := all.nodup_iff.mpr List.nodup_range
  have ring : ∀ c ∈ C, ∀ x ∈ c, (ringOf p x).length = c.length := fun c hc x hx => by
    have R := L.round c hc
    have ndc : c.Nodup := by
      have := List.perm_cons_erase hc
      have h2 := this.flatten.nodup_iff.mp ndf
      rw [List.flatten_cons] at h2
      exact (List.nodup_append.mp h2).1
    have lt : ∀ y ∈ c, y < p.length := fun y hy => by
      rw [h]
      exact List.mem_range.mp (all.mem_iff.mp (List.mem_flatten.mpr ⟨c, hc, hy⟩))
    obtain ⟨h0, hh0⟩ : ∃ x, c[0]? = some x := ⟨c[0]'R.pos, List.getElem?_eq_getElem R.pos⟩
    have I : IsRing p h0 c := by
      refine isRing_iff.mpr ⟨hh0, ndc, lt, fun i a b ha hb => ?_⟩
      have := R.step i a ha
      rw [hb, nxt_get? (lt a (List.mem_of_getElem? ha))] at this
      exact Option.some.inj this
    have e := I.eq g
    have hx' : x ∈ ringOf p h0 := by rw [← e]; exact hx
    rw [ringOf_len_eq g I.toChain.hlt hx', ← e]
  constructor
  · intro hS x hx
    have : x ∈ C.flatten := all.mem_iff.mpr (List.mem_range.mpr (by omega))
    obtain ⟨c, hc, hxc⟩ := List.mem_flatten.mp this
    rw [ring c hc x hxc]
    exact hS c hc
  · intro hS c hc
    have R := L.round c hc
    have hm : c[0]'R.pos ∈ c := List.getElem_mem R.pos
    rw [← ring c hc _ hm]
    refine hS _ ?_
    rw [h]
    exact List.mem_range.mp (all.mem_iff.mp (List.mem_flatten.mpr ⟨c, hc, hm⟩))
theorem wins_len {n m : Nat} : ∀ {f : Nat} {p : List Nat} {P : Nat → List Nat} {C : List (List Nat)}, Lay n p P C → p.length + f = n → (wins n m f p).length = val n m p P C := by
  intro f
  induction f with
  | zero =>
    intro p P C L h
    obtain ⟨g, hb, hs⟩ := L.done h
    unfold wins val lens
    rw [hb, List.map_nil, cl_nil]
    by_cases hS : Short p m
    · rw [if_pos ((hs m).mpr hS), if_pos (by rw [(longOf_nil g).mpr hS]; rfl)]
      rfl
    · rw [if_neg fun z => hS ((hs m).mp z), if_neg]
      · rfl
      · intro z
        exact hS ((longOf_nil g).mp (List.isEmpty_iff.mp z))
  | succ f ih =>
    intro p P C L h
    obtain ⟨A, hA, he⟩ := L.open_ (by omega)
    unfold wins
    rw [List.length_flatMap, ← val_sum hA (P := P) (C := C)]
    apply map_sum_congr
    intro s hs
    exact ih (L.next hA he hs) (by rw [List.length_append]; show p.length + 1 + f = n; omega)
end Sb

namespace Sb

/-! ### the count by the ring of the first box -/
/-- gain and ways behind s sizes -/
def gw (T : List Nat) (k : Nat) : Nat → Nat × Nat
  | 0 => (0, 1)
  | s + 1 => ((gw T k s).1 + (gw T k s).2 * T.getD (k - (s + 1)) 0, (gw T k s).2 * (k - (s + 1)))
theorem gw_succ (T : List Nat) (k s : Nat) : gw T k (s + 1) = ((gw T k s).1 + (gw T k s).2 * T.getD (k - (s + 1)) 0, (gw T k s).2 * (k - (s + 1))) := rfl
def tbl (m : Nat) : Nat → List Nat
  | 0 => [1]
  | k + 1 => tbl m k ++ [(gw (tbl m k) (k + 1) (min m (k + 1))).1]
def hm (n m : Nat) : Nat := (tbl m n).getD n 0
theorem tbl_succ (m k : Nat) : tbl m (k + 1) = tbl m k ++ [(gw (tbl m k) (k + 1) (min m (k + 1))).1] := rfl
theorem tbl_len (m : Nat) : ∀ n, (tbl m n).length = n + 1
  | 0 => rfl
  | n + 1 => by unfold tbl; rw [List.length_append, tbl_len m n]; rfl
theorem cl_far {m : Nat} : ∀ {n x : Nat} {l : List Nat}, l.length = n → m < x → cl m (x :: l) = 0 := by
  intro n
  induction n with
  | zero =>
    intro x l hl hx
    rw [List.length_eq_zero_iff.mp hl, cl_cons, if_neg (by omega)]
    rfl
  | succ n ih =>
    intro x l hl hx
    rw [cl_cons, if_neg (by omega), Nat.zero_add, map_sum_congr (g := fun _ => 0) fun p hp => ih (by have := picks_len hp; omega) (by omega)]
    generalize picks l = q
    induction q with
    | nil => rfl
    | cons a q ih => simpa using ih
theorem picks_one : ∀ j : Nat, picks (List.replicate (j + 1) 1) = List.replicate (j + 1) (1, List.replicate j 1)
  | 0 => rfl
  | j + 1 => by
    rw [List.replicate_succ (n := j + 1)]
    unfold picks
    rw [picks_one j, List.map_replicate, List.replicate_succ (n := j + 1)]
    rfl
theorem cl_ones (m c : Nat) (j : Nat) : cl m (c :: List.replicate j 1) = (if c ≤ m then cl m (List.replicate j 1) else 0) + j * cl m ((c + 1) :: List.replicate (j - 1) 1) := by
  rw [cl_cons]
  congr 1
  cases j with
  | zero => simp [picks]
  | succ j =>
    rw [picks_one, List.map_replicate, List.sum_replicate_nat]
    rfl
theorem gw_is {m k : Nat} {T : List Nat} (hT : ∀ i, i < k → T.getD i 0 = cl m (List.replicate i 1)) (hk : 1 ≤ k) : ∀ s, s ≤ k → s ≤ m → cl m (List.replicate k 1) = (gw T k s).1 + (gw T k s).2 * cl m ((s + 1) :: List.replicate (k - 1 - s) 1)
  | 0, _, _ => by
    unfold gw
    rw [Nat.zero_add, Nat.one_mul, Nat.sub_zero, Nat.zero_add, show k = (k - 1) + 1 by omega, List.replicate_succ]
    rfl
  | s + 1, h1, h2 => by
    rw [gw_is hT hk s (by omega) (by omega), gw_succ]
    rw [cl_ones, if_pos (by omega), hT _ (by omega), show k - (s + 1) = k - 1 - s by omega, show k - 1 - (s + 1) = k - 1 - s - 1 by omega, Nat.mul_add, Nat.mul_assoc]
    omega
theorem gw_end {m k : Nat} {T : List Nat} (hT : ∀ i, i < k → T.getD i 0 = cl m (List.replicate i 1)) (hk : 1 ≤ k) : (gw T k (min m k)).1 = cl m (List.replicate k 1) := by
  have h := gw_is hT hk (min m k) (Nat.min_le_right ..) (Nat.min_le_left ..)
  by_cases hm : m < k
  · rw [Nat.min_eq_left (by omega)] at h ⊢
    rw [cl_far (n := k - 1 - m) (by simp) (by omega)] at h
    omega
  · rw [Nat.min_eq_right (by omega)] at h ⊢
    have : (gw T k k).2 = 0 := by
      obtain ⟨j, rfl⟩ : ∃ j, k = j + 1 := ⟨k - 1, by omega⟩
      unfold gw
      rw [Nat.sub_self, Nat.mul_zero]
    rw [this] at h
    omega
theorem tbl_is (m : Nat) : ∀ n i, i ≤ n → (tbl m n).getD i 0 = cl m (List.replicate i 1)
  | 0, i, h => by
    have : i = 0 := by omega
    subst this
    rfl
  | n + 1, i, h => by
    unfold tbl
    rw [List.getD_eq_getElem?_getD]
    by_cases hi : i ≤ n
    · rw [List.getElem?_append_left (by rw [tbl_len]; omega), ← List.getD_eq_getElem?_getD]
      exact tbl_is m n i hi
    · have e : i = n + 1 := by omega
      subst e
      rw [List.getElem?_append_right (by rw [tbl_len]; omega), tbl_len, Nat.sub_self]
      show (gw (tbl m n) (n + 1) (min m (n + 1))).1 = _
      exact gw_end (fun i hi => tbl_is m n i (by omega)) (by omega)
theorem tbl_pre (m : Nat) : ∀ n k, k ≤ n → tbl m n = tbl m k ++ (tbl m n).drop (k + 1)
  | n, k, h => by
    induction n with
    | zero =>
      have : k = 0 := by omega
      subst this
      rfl
    | succ n ih =>
      by_cases hk : k ≤ n
      · have e := ih hk
        have hl : k + 1 ≤ (tbl m n).length := by rw [tbl_len]; omega
        rw [tbl_succ, List.drop_append_of_le_length hl, ← List.append_assoc, ← e]
      · have : k = n + 1 := by omega
        subst this
        rw [List.drop_of_length_le (by rw [tbl_len]; omega), List.append_nil]
theorem hm_is (n m : Nat) : hm n m = cl m (List.replicate n 1) := tbl_is m n n (Nat.le_refl _)
theorem hm_wins (n m : Nat) : hm n m = (wins n m n []).length := by
  rw [wins_len (Lay.start n) (by simp), hm_is]
  unfold val lens
  have hS : Small [] m := fun c hc => by cases hc
  rw [if_pos hS]
  have e : begins n [] = List.range n := by
    unfold begins
    rw [List.filter_eq_self]
    intro a _
    simp
  rw [e]
  congr 1
  show _ = (List.range n).map fun _ => 1
  rw [List.map_const', List.length_range]

/-! ### the order of lists -/
theorem app_lt {p a b : List Nat} (h : a < b) : p ++ a < p ++ b := by
  induction p with
  | nil => exact h
  | cons x p ih => exact List.cons_lt_cons_iff.mpr (.inr ⟨rfl, ih⟩)
theorem wins_pre {n m : Nat} : ∀ {f : Nat} {p x : List Nat}, x ∈ wins n m f p → ∃ r, x = p ++ r := by
  intro f
  induction f with
  | zero =>
    intro p x h
    unfold wins at h
    split at h
    · exact ⟨[], by simpa using h⟩
    · cases h
  | succ f ih =>
    intro p x h
    unfold wins at h
    obtain ⟨s, _, hs⟩ := List.mem_flatMap.mp h
    obtain ⟨r, rfl⟩ := ih hs
    exact ⟨s :: r, by simp⟩
theorem wins_pw {n m : Nat} : ∀ (f : Nat) (p : List Nat), (wins n m f p).Pairwise (· < ·) := by
  intro f
  induction f with
  | zero =>
    intro p
    unfold wins
    split <;> simp
  | succ f ih =>
    intro p
    unfold wins
    rw [List.pairwise_flatMap]
    refine ⟨fun s _ => ih _, (begins_pw n p).imp fun {s t} hst x hx y hy => ?_⟩
    obtain ⟨r, rfl⟩ := wins_pre hx
    obtain ⟨q, rfl⟩ := wins_pre hy
    rw [List.append_assoc, List.append_assoc]
    exact app_lt (List.cons_lt_cons_iff.mpr (.inl hst))
/-- each of them is a winning setting -/
theorem wins_good {n m : Nat} : ∀ {f : Nat} {p x : List Nat} {P : Nat → List Nat} {C : List (List Nat)}, Lay n p P C → p.length + f = n → x ∈ wins n m f p → x.length = n ∧ Good x ∧ Short x m := by
  intro f
  induction f with
  | zero =>
    intro p x P C L h hx
    obtain ⟨g, _, _⟩ := L.done h
    unfold wins at hx
    split at hx
    · rename_i he
      have : x = p := by simpa using hx
      subst this
      exact ⟨h, g, (longOf_nil g).mp (List.isEmpty_iff.mp he)⟩
    · cases hx
  | succ f ih =>
    intro p x P C L h hx
    unfold wins at hx
    obtain ⟨s, hs, hx⟩ := List.mem_flatMap.mp hx
    obtain ⟨A, hA, he⟩ := L.open_ (by omega)
    exact ih (L.next hA he hs) (by rw [List.length_append]; show p.length + 1 + f = n; omega) hx
theorem wins_all {n m : Nat} {x : List Nat} (h : x ∈ wins n m n []) : x.length = n ∧ Good x ∧ Short x m := wins_good (Lay.start n) (by simp) h
theorem lay_of {n : Nat} {p : List Nat} (nd : p.Nodup) (lt : ∀ x ∈ p, x < n) : ∃ P C, Lay n p P C := by
  suffices H : ∀ k, k ≤ p.length → ∃ P C, Lay n (p.take k) P C by
    have := H p.length (Nat.le_refl _)
    rwa [List.take_length] at this
  intro k
  induction k with
  | zero => exact fun _ => ⟨_, _, Lay.start n⟩
  | succ k ih =>
    intro hk
    obtain ⟨P, C, L⟩ := ih (by omega)
    have hlen : (p.take k).length = k := by rw [List.length_take]; omega
    have hpn := nodup_le nd lt
    obtain ⟨A, hA, he⟩ := L.open_ (by omega)
    have hs : p[k] ∈ begins n (p.take k) := by
      refine mem_begins.mpr ⟨lt _ (List.getElem_mem _), fun z => ?_⟩
      have e : p = p.take k ++ p.drop k := (List.take_append_drop k p).symm
      have nd2 := nd
      rw [e] at nd2
      refine (List.nodup_append.mp nd2).2.2 _ z p[k] ?_ rfl
      rw [List.drop_eq_getElem_cons (by omega)]
      exact List.mem_cons_self
    rw [List.take_add_one, List.getElem?_eq_getElem (by omega)]
    exact ⟨_, _, L.next hA he hs⟩
/-! ### the slips from j on -/
def bfrom (n : Nat) (p : List Nat) (j : Nat) : List Nat := (List.range' j (n - j)).filter fun b => decide (b ∉ p)
def rest (n m f : Nat) (p : List Nat) (j : Nat) : List (List Nat) := (bfrom n p j).flatMap fun s => wins n m f (p ++ [s])
theorem rest_zero (n m f : Nat) (p : List Nat) : rest n m f p 0 = wins n m (f + 1) p := by
  show (bfrom n p 0).flatMap _ = (begins n p).flatMap _
  unfold bfrom begins
  rw [Nat.sub_zero, ← List.range_eq_range']
theorem rest_in {n m f : Nat} {p : List Nat} {j : Nat} (hj : j < n) (hp : j ∉ p) : rest n m f p j = wins n m f (p ++ [j]) ++ rest n m f p (j + 1) := by
  unfold rest bfrom
  rw [show n - j = (n - (j + 1)) + 1 by omega, List.range'_succ, List.filter_cons_of_pos (by simpa using hp), List.flatMap_cons]
theorem rest_out {n m f : Nat} {p : List Nat} {j : Nat} (hj : j < n) (hp : j ∈ p) : rest n m f p j = rest n m f p (j + 1) := by
  unfold rest bfrom
  rw [show n - j = (n - (j + 1)) + 1 by omega, List.range'_succ, List.filter_cons_of_neg (by simpa using hp)]
theorem rest_end (n m f : Nat) (p : List Nat) : rest n m f p n = [] := by
  unfold rest bfrom
  rw [Nat.sub_self]
  rfl
/-- what stands in a list from a place on -/
def Seg (t : List (List Nat)) (o : Nat) (l : List (List Nat)) : Prop := ∀ (i : Nat) (x : List Nat), l[i]? = some x → t[o + i]? = some x
theorem Seg.left {t : List (List Nat)} {o : Nat} {a b : List (List Nat)} (h : Seg t o (a ++ b)) : Seg t o a := fun i x hx => h i x (by
  rw [List.getElem?_append_left (List.getElem?_eq_some_iff.mp hx).1]; exact hx)
theorem Seg.right {t : List (List Nat)} {o : Nat} {a b : List (List Nat)} (h : Seg t o (a ++ b)) : Seg t (o + a.length) b := fun i x hx => by
  rw [Nat.add_assoc]
  exact h _ x (by rw [List.getElem?_append_right (by omega), Nat.add_sub_cancel_left]; exact hx)
theorem wins_uniq {n m i j : Nat} {x : List Nat} (hi : (wins n m n [])[i]? = some x) (hj : (wins n m n [])[j]? = some x) : i = j := by
  have h1 := (List.getElem?_eq_some_iff.mp hi)
  have h2 := (List.getElem?_eq_some_iff.mp hj)
  obtain ⟨h1, e1⟩ := h1
  obtain ⟨h2, e2⟩ := h2
  have pw := List.pairwise_iff_getElem.mp (wins_pw (n := n) (m := m) n [])
  rcases Nat.lt_trichotomy i j with h | h | h
  · have := pw i j h1 h2 h
    rw [e1, e2] at this
    exact absurd this (List.lt_irrefl x)
  · exact h
  · have := pw j i h2 h1 h
    rw [e1, e2] at this
    exact absurd this (List.lt_irrefl x)
theorem wins_lt {n m i j : Nat} {x y : List Nat} (hi : (wins n m n [])[i]? = some x) (hj : (wins n m n [])[j]? = some y) : i < j ↔ x < y := by
  obtain ⟨h1, e1⟩ := (List.getElem?_eq_some_iff.mp hi)
  obtain ⟨h2, e2⟩ := (List.getElem?_eq_some_iff.mp hj)
  have pw := List.pairwise_iff_getElem.mp (wins_pw (n := n) (m := m) n [])
  constructor
  · intro h
    have := pw i j h1 h2 h
    rwa [e1, e2] at this
  · intro h
    rcases Nat.lt_trichotomy i j with z | z | z
    · exact z
    · subst z
      rw [hi] at hj
      cases hj
      exact absurd h (List.lt_irrefl x)
    · have := pw j i h2 h1 z
      rw [e1, e2] at this
      exact absurd (List.lt_trans h this) (List.lt_irrefl x)
/-- each winning setting is one of them -/
theorem wins_has {n m : Nat} {x : List Nat} (hl : x.length = n) (g : Good x) (hs : Short x m) : ∃ i : Nat, (wins n m n [])[i]? = some x := by
  suffices H : ∀ f k, k + f = n → x ∈ wins n m f (x.take k) by
    have := H n 0 (by omega)
    exact List.mem_iff_getElem?.mp this
  intro f
  induction f with
  | zero =>
    intro k hk
    rw [List.take_of_length_le (by omega)]
    unfold wins
    rw [if_pos (by rw [(longOf_nil g).mpr hs]; rfl)]
    exact List.mem_singleton.mpr rfl
  | succ f ih =>
    intro k hk
    unfold wins
    have hkx : k < x.length := by omega
    refine List.mem_flatMap.mpr ⟨x[k], mem_begins.mpr ⟨by have := g.lt (List.getElem_mem hkx); omega, fun z => ?_⟩, ?_⟩
    · have nd2 := g.nodup
      rw [← List.take_append_drop k x] at nd2
      refine (List.nodup_append.mp nd2).2.2 _ z x[k] ?_ rfl
      rw [List.drop_eq_getElem_cons hkx]
      exact List.mem_cons_self
    · have := ih (k + 1) (by omega)
      rw [List.take_add_one, List.getElem?_eq_getElem hkx] at this
      exact this
end Sb

namespace Sb

/-! ### counts 1, 2, and from half of the boxes on -/
theorem cl_free {m : Nat} : ∀ j c, 1 ≤ c → c + j ≤ m → cl m (c :: List.replicate j 1) = fact (j + 1)
  | 0, c, h1, h2 => by
    rw [cl_ones, if_pos (by omega), Nat.zero_mul]
    rfl
  | j + 1, c, h1, h2 => by
    rw [cl_ones, if_pos (by omega), List.replicate_succ, cl_free j 1 (by omega) (by omega), Nat.add_sub_cancel, cl_free j (c + 1) (by omega) (by omega)]
    show _ = (j + 1 + 1) * fact (j + 1)
    rw [Nat.add_mul (j + 1) 1, Nat.one_mul, Nat.add_comm]
theorem ones_free {m k : Nat} (h : k ≤ m) : cl m (List.replicate k 1) = fact k := by
  cases k with
  | zero => rfl
  | succ k =>
    rw [List.replicate_succ]
    exact cl_free k 1 (by omega) (by omega)
/-- j (j - 1) .., so many -/
def fall : Nat → Nat → Nat
  | _, 0 => 1
  | j, t + 1 => j * fall (j - 1) t
theorem fall_fact : ∀ (t j : Nat), t ≤ j → fall j t * fact (j - t) = fact j
  | 0, j, _ => by unfold fall; rw [Nat.one_mul]; rfl
  | t + 1, j, h => by
    obtain ⟨i, rfl⟩ : ∃ i, j = i + 1 := ⟨j - 1, by omega⟩
    unfold fall
    rw [Nat.add_sub_cancel, Nat.mul_assoc, show i + 1 - (t + 1) = i - t by omega, fall_fact t i (by omega)]
    rfl
theorem cl_less {m : Nat} : ∀ (d c j : Nat), c + d = m → d ≤ j → cl m (c :: List.replicate j 1) = cl m ((c + 1) :: List.replicate j 1) + fall j d * cl m (List.replicate (j - d) 1)
  | 0, c, j, h, _ => by
    rw [cl_ones, if_pos (by omega), cl_far (n := j - 1) (by simp) (by omega), cl_far (n := j) (by simp) (by omega)]
    unfold fall
    rw [Nat.mul_zero, Nat.zero_add, Nat.one_mul]
    rfl
  | d + 1, c, j, h, hj => by
    rw [cl_ones, if_pos (by omega), cl_ones m (c + 1) j, if_pos (by omega), cl_less d (c + 1) (j - 1) (by omega) (by omega)]
    rw [show fall j (d + 1) = j * fall (j - 1) d from rfl, Nat.mul_add, show j - 1 - d = j - (d + 1) by omega, Nat.mul_assoc]
    omega
theorem hm_free {n m : Nat} (h : n ≤ m) : hm n m = fact n := by rw [hm_is, ones_free h]
theorem hm_next {m k : Nat} (h1 : 1 ≤ m) (h2 : m ≤ k) (h3 : k ≤ 2 * m) : hm (k + 1) m + fact k = (k + 1) * hm k m := by
  rw [hm_is, hm_is, List.replicate_succ, cl_ones, if_pos h1]
  have hk : cl m (List.replicate k 1) = cl m (1 :: List.replicate (k - 1) 1) := by
    rw [← List.replicate_succ, show k - 1 + 1 = k by omega]
  have h := cl_less (m := m) (m - 1) 1 (k - 1) (by omega) (by omega)
  rw [← hk, show k - 1 - (m - 1) = k - m by omega, ones_free (show k - m ≤ m by omega)] at h
  have hf : k * (fall (k - 1) (m - 1) * fact (k - m)) = fact k := by
    rw [show k - m = k - 1 - (m - 1) by omega, fall_fact (m - 1) (k - 1) (by omega)]
    obtain ⟨i, rfl⟩ : ∃ i, k = i + 1 := ⟨k - 1, by omega⟩
    rfl
  rw [← hf]
  generalize fall (k - 1) (m - 1) * fact (k - m) = z at h
  generalize cl m ((1 + 1) :: List.replicate (k - 1) 1) = y at h ⊢
  rw [h, Nat.add_mul, Nat.one_mul, Nat.mul_add]
  omega
/-- those with a longer ring -/
def over (n m : Nat) : Nat → Nat
  | 0 => 0
  | j + 1 => over n m j + fact n / (m + j + 1)
theorem over_step (n m j : Nat) : over n m (j + 1) = over n m j + fact n / (m + j + 1) := rfl
theorem dvd_fact : ∀ {n s : Nat}, 1 ≤ s → s ≤ n → s ∣ fact n
  | 0, s, h1, h2 => by omega
  | n + 1, s, h1, h2 => by
    unfold fact
    by_cases h : s = n + 1
    · subst h
      exact Nat.dvd_mul_right ..
    · exact Nat.dvd_trans (dvd_fact h1 (show s ≤ n by omega)) (Nat.dvd_mul_left ..)
theorem over_succ {n m : Nat} : ∀ j, m + j ≤ n → over (n + 1) m j = (n + 1) * over n m j
  | 0, _ => rfl
  | j + 1, h => by
    unfold over
    rw [over_succ j (by omega), Nat.mul_add]
    congr 1
    show (n + 1) * fact n / _ = _
    exact Nat.mul_div_assoc _ (dvd_fact (by omega) (by omega))
theorem fact_pos : ∀ n, 0 < fact n
  | 0 => by decide
  | n + 1 => Nat.mul_pos (by omega) (fact_pos n)
theorem hm_over {m : Nat} (h1 : 1 ≤ m) : ∀ j, m + j ≤ 2 * m + 1 → hm (m + j) m + over (m + j) m j = fact (m + j)
  | 0, _ => by
    rw [Nat.add_zero, hm_free (Nat.le_refl _)]
    rfl
  | j + 1, h => by
    have ih := hm_over h1 j (by omega)
    have e := hm_next h1 (show m ≤ m + j by omega) (show m + j ≤ 2 * m by omega)
    have e2 : over (m + j + 1) m (j + 1) = (m + j + 1) * over (m + j) m j + fact (m + j) := by
      rw [over_step, over_succ j (Nat.le_refl _)]
      congr 1
      show (m + j + 1) * fact (m + j) / _ = _
      exact Nat.mul_div_cancel_left _ (by omega)
    show hm (m + j + 1) m + over (m + j + 1) m (j + 1) = (m + j + 1) * fact (m + j)
    rw [e2, ← ih, Nat.mul_add, ← e, ih]
    omega
theorem hm_zero (m : Nat) : hm 0 m = 1 := rfl
theorem hm_succ {n m : Nat} : hm (n + 1) m = (gw (tbl m n) (n + 1) (min m (n + 1))).1 := by
  unfold hm
  rw [tbl_succ, List.getD_eq_getElem?_getD, List.getElem?_append_right (by rw [tbl_len]; omega), tbl_len, Nat.sub_self]
  rfl
theorem tbl_get {n m i : Nat} (h : i ≤ n) : (tbl m n).getD i 0 = hm i m := by rw [tbl_is m n i h, hm_is]
theorem hm_one : ∀ n, hm n 1 = 1
  | 0 => rfl
  | n + 1 => by
    rw [hm_succ, Nat.min_eq_left (by omega), gw_succ]
    show 0 + 1 * (tbl 1 n).getD (n + 1 - 1) 0 = 1
    rw [Nat.add_sub_cancel, tbl_get (Nat.le_refl _), hm_one n]
theorem hm_two (n : Nat) : hm (n + 2) 2 = hm (n + 1) 2 + (n + 1) * hm n 2 := by
  rw [hm_succ, Nat.min_eq_left (by omega), gw_succ, gw_succ]
  show 0 + 1 * (tbl 2 (n + 1)).getD (n + 1 + 1 - 1) 0 + 1 * (n + 1 + 1 - 1) * (tbl 2 (n + 1)).getD (n + 1 + 1 - 2) 0 = _
  rw [Nat.add_sub_cancel, show n + 1 + 1 - 2 = n by omega, tbl_get (Nat.le_refl _), tbl_get (by omega), Nat.one_mul, Nat.one_mul, Nat.zero_add]
theorem fact_le : ∀ n k, n ≤ k → fact n ≤ fact k
  | n, 0, h => by
    have : n = 0 := by omega
    subst this
    exact Nat.le_refl _
  | n, k + 1, h => by
    by_cases e : n = k + 1
    · subst e; exact Nat.le_refl _
    · refine Nat.le_trans (fact_le n k (by omega)) ?_
      show fact k ≤ (k + 1) * fact k
      exact Nat.le_mul_of_pos_left _ (by omega)
/-- no more than all lists -/
theorem cl_le (m : Nat) : ∀ (n : Nat) (x : Nat) (l : List Nat), l.length = n → cl m (x :: l) ≤ fact (n + 1)
  | 0, x, l, h => by
    rw [List.length_eq_zero_iff.mp h, cl_cons]
    split
    · exact Nat.le_refl 1
    · exact Nat.zero_le _
  | n + 1, x, l, h => by
    rw [cl_cons]
    have h1 : (if x ≤ m then cl m l else 0) ≤ fact (n + 1) := by
      split
      · cases l with
        | nil => simp at h
        | cons y l => exact cl_le m n y l (by simpa using h)
      · exact Nat.zero_le _
    have h2 : ((picks l).map fun p => cl m ((x + p.1) :: p.2)).sum ≤ (picks l).length * fact (n + 1) := by
      have : ∀ q ∈ picks l, cl m ((x + q.1) :: q.2) ≤ fact (n + 1) := fun q hq => cl_le m n _ _ (by have := picks_len hq; omega)
      generalize picks l = ps at this
      induction ps with
      | nil => simp
      | cons a ps ih =>
        simp only [List.map_cons, List.sum_cons, List.length_cons, Nat.add_mul, Nat.one_mul]
        have a1 := this a List.mem_cons_self
        have a2 := ih fun q hq => this q (List.mem_cons_of_mem _ hq)
        omega
    have h3 : ∀ l : List Nat, (picks l).length = l.length := fun l => by
      induction l with
      | nil => rfl
      | cons y l ih => simp [picks, ih]
    rw [h3, h] at h2
    show _ ≤ (n + 1 + 1) * fact (n + 1)
    rw [Nat.add_mul (n + 1) 1, Nat.one_mul]
    omega
theorem cl_le' (m : Nat) (l : List Nat) : cl m l ≤ fact l.length := by
  cases l with
  | nil => exact Nat.le_refl _
  | cons x l => exact cl_le m _ x l rfl
theorem hm_le (n m : Nat) : hm n m ≤ fact n := by
  rw [hm_is]
  have := cl_le' m (List.replicate n 1)
  rwa [List.length_replicate] at this
/-! ### some of a list, by the figures of a number -/
def tk : List Nat → Nat → List Nat
  | [], _ => []
  | y :: l, q => (if q % 2 = 1 then [y] else []) ++ tk l (q / 2)
def lf : List Nat → Nat → List Nat
  | [], _ => []
  | y :: l, q => (if q % 2 = 0 then [y] else []) ++ lf l (q / 2)
theorem tk_snoc (y : Nat) : ∀ (l : List Nat) (q : Nat), tk (l ++ [y]) q = tk l q ++ (if q / 2 ^ l.length % 2 = 1 then [y] else [])
  | [], q => by simp [tk]
  | a :: l, q => by
    show (if q % 2 = 1 then [a] else []) ++ tk (l ++ [y]) (q / 2) = ((if q % 2 = 1 then [a] else []) ++ tk l (q / 2)) ++ _
    rw [tk_snoc y l, List.append_assoc, Nat.div_div_eq_div_mul, List.length_cons, Nat.pow_succ, Nat.mul_comm 2]
theorem lf_snoc (y : Nat) : ∀ (l : List Nat) (q : Nat), lf (l ++ [y]) q = lf l q ++ (if q / 2 ^ l.length % 2 = 0 then [y] else [])
  | [], q => by simp [lf]
  | a :: l, q => by
    show (if q % 2 = 0 then [a] else []) ++ lf (l ++ [y]) (q / 2) = ((if q % 2 = 0 then [a] else []) ++ lf l (q / 2)) ++ _
    rw [lf_snoc y l, List.append_assoc, Nat.div_div_eq_div_mul, List.length_cons, Nat.pow_succ, Nat.mul_comm 2]
theorem tk_lf : ∀ (l : List Nat) (q : Nat), (tk l q).length + (lf l q).length = l.length
  | [], _ => rfl
  | a :: l, q => by
    have := tk_lf l (q / 2)
    unfold tk lf
    rw [List.length_append, List.length_append, List.length_cons]
    rcases Nat.mod_two_eq_zero_or_one q with h | h <;> simp [h] <;> omega
theorem tk_mem : ∀ {l : List Nat} {q x : Nat}, x ∈ tk l q → x ∈ l
  | [], q, x, h => by cases h
  | a :: l, q, x, h => by
    unfold tk at h
    rcases List.mem_append.mp h with h | h
    · split at h
      · simp at h; subst h; exact List.mem_cons_self
      · cases h
    · exact List.mem_cons_of_mem _ (tk_mem h)
theorem lf_mem : ∀ {l : List Nat} {q x : Nat}, x ∈ lf l q → x ∈ l
  | [], q, x, h => by cases h
  | a :: l, q, x, h => by
    unfold lf at h
    rcases List.mem_append.mp h with h | h
    · split at h
      · simp at h; subst h; exact List.mem_cons_self
      · cases h
    · exact List.mem_cons_of_mem _ (lf_mem h)
theorem range_two (h : Nat → Nat) : ∀ N, ((List.range (2 * N)).map h).sum = ((List.range N).map fun q => h (2 * q) + h (2 * q + 1)).sum
  | 0 => rfl
  | N + 1 => by
    rw [show 2 * (N + 1) = 2 * N + 1 + 1 by omega, List.range_succ, List.range_succ, List.range_succ]
    simp only [List.map_append, List.sum_append, range_two h N, List.map_cons, List.map_nil, List.sum_cons, List.sum_nil]
    omega
theorem spl_bits : ∀ (l : List Nat) (f : List Nat → List Nat → Nat), spl l f = ((List.range (2 ^ l.length)).map fun q => f (tk l q) (lf l q)).sum
  | [], f => by simp [spl, tk, lf]
  | y :: l, f => by
    show spl l _ + spl l _ = _
    rw [← spl_add, spl_bits l, List.length_cons, Nat.pow_succ, Nat.mul_comm _ 2, range_two]
    apply map_sum_congr
    intro q _
    have e1 : 2 * q / 2 = q := by omega
    have e2 : (2 * q + 1) / 2 = q := by omega
    have e3 : 2 * q % 2 = 0 := by omega
    have e4 : (2 * q + 1) % 2 = 1 := by omega
    simp [tk, lf, e1, e2, e3, e4]
end Sb

namespace Sb

/-! ### all lists of so many boxes -/
def insAt (l : List Nat) (n i : Nat) : List Nat := l.take i ++ [n] ++ l.drop i
def ordersOf : Nat → List (List Nat)
  | 0 => [[]]
  | n + 1 => (ordersOf n).flatMap fun l => (List.range (n + 1)).map fun i => insAt l n i
theorem orders_perm : ∀ {n : Nat} {l : List Nat}, l ∈ ordersOf n → l.Perm (List.range n)
  | 0, l, h => by
    have : l = [] := by simpa [ordersOf] using h
    subst this
    exact .refl _
  | n + 1, l, h => by
    unfold ordersOf at h
    obtain ⟨q, hq, h⟩ := List.mem_flatMap.mp h
    obtain ⟨i, _, rfl⟩ := List.mem_map.mp h
    exact insert_perm (orders_perm hq)
theorem orders_good {n : Nat} {l : List Nat} (h : l ∈ ordersOf n) : Good l ∧ l.length = n := by
  have p := orders_perm h
  exact ⟨good_of_perm p, by rw [p.length_eq, List.length_range]⟩
theorem ordersOf_len : ∀ n, (ordersOf n).length = fact n
  | 0 => rfl
  | n + 1 => by
    unfold ordersOf
    rw [List.length_flatMap]
    have : ((ordersOf n).map fun l => ((List.range (n + 1)).map fun i => insAt l n i).length) = List.replicate (fact n) (n + 1) := by
      rw [← ordersOf_len n, ← List.map_const']
      apply List.map_congr_left
      intro l _
      rw [List.length_map, List.length_range]
    rw [this, List.sum_replicate_nat, Nat.mul_comm]
    rfl
/-- the winning ones -/
def due (n m : Nat) : List (List Nat) := (ordersOf n).filter fun b => (longOf b m).isEmpty
theorem due_len : ∀ n, n < 6 → ∀ m, m < 6 → 1 ≤ m → m ≤ n → (due n m).length = hm n m := by decide +kernel
theorem hm63 : hm 6 3 = 276 := by decide +kernel
end Sb

namespace Sb

/-! ### lists of numbers from 1 on with a small sum: not many -/
def cps : Nat → Nat → List (List Nat)
  | 0, _ => [[]]
  | f + 1, s => [] :: (List.range s).flatMap fun x => (cps f (s - (x + 1))).map fun l => (x + 1) :: l
theorem mem_cps : ∀ {f s : Nat} {l : List Nat}, l.length ≤ f → (∀ x ∈ l, 1 ≤ x) → l.sum ≤ s → l ∈ cps f s
  | 0, s, l, h, _, _ => by
    have : l = [] := List.length_eq_zero_iff.mp (by omega)
    subst this
    exact List.mem_singleton.mpr rfl
  | f + 1, s, [], _, _, _ => List.mem_cons_self
  | f + 1, s, x :: l, h, h1, hs => by
    have hx := h1 x List.mem_cons_self
    rw [List.sum_cons] at hs
    rw [List.length_cons] at h
    refine List.mem_cons_of_mem _ (List.mem_flatMap.mpr ⟨x - 1, List.mem_range.mpr (by omega), List.mem_map.mpr ⟨l, ?_, ?_⟩⟩)
    · rw [show x - 1 + 1 = x by omega]
      exact mem_cps (by omega) (fun y hy => h1 y (List.mem_cons_of_mem _ hy)) (by omega)
    · rw [show x - 1 + 1 = x by omega]
theorem nodup_sub : ∀ {l m : List (List Nat)}, l.Nodup → (∀ x ∈ l, x ∈ m) → l.length ≤ m.length
  | [], _, _, _ => Nat.zero_le _
  | x :: l, m, h, hm => by
    obtain ⟨h1, h2⟩ := List.nodup_cons.mp h
    have hx := hm x List.mem_cons_self
    have := nodup_sub (m := m.erase x) h2 fun y hy => (List.mem_erase_of_ne fun e => h1 (by rw [← e]; exact hy)).mpr (hm y (List.mem_cons_of_mem _ hy))
    rw [List.length_erase_of_mem hx] at this
    have hp := List.length_pos_of_mem hx
    rw [List.length_cons]
    omega
theorem cps_len : (cps 8 8).length ≤ 1000 := by decide +kernel
theorem tk_sum : ∀ (l : List Nat) (q : Nat), (tk l q).sum + (lf l q).sum = l.sum
  | [], _ => rfl
  | a :: l, q => by
    have := tk_sum l (q / 2)
    unfold tk lf
    rw [List.sum_append, List.sum_append, List.sum_cons]
    rcases Nat.mod_two_eq_zero_or_one q with h | h <;> simp [h] <;> omega
/-- what is gained behind so many choices -/
def gainTo (m x : Nat) (l : List Nat) (q : Nat) : Nat := ((List.range q).map fun q => if x + (tk l q).sum ≤ m then fact (tk l q).length * cl m (lf l q) else 0).sum
theorem gainTo_succ (m x : Nat) (l : List Nat) (q : Nat) : gainTo m x l (q + 1) = gainTo m x l q + if x + (tk l q).sum ≤ m then fact (tk l q).length * cl m (lf l q) else 0 := by
  unfold gainTo
  rw [List.range_succ, List.map_append, List.sum_append]
  simp
theorem gainTo_all (m x : Nat) (l : List Nat) : gainTo m x l (2 ^ l.length) = cl m (x :: l) := by
  rw [cl_spl m l.length x l rfl, spl_bits]
  rfl
end Sb

namespace Sb
/-! ### each slip in its own box -/
theorem range_good (n : Nat) : Good (List.range n) := ⟨by rw [List.length_range]⟩
theorem range_short {n m : Nat} (hm : 1 ≤ m) : Short (List.range n) m := fun h hh => by
  rw [List.length_range] at hh
  have hx : nxt (List.range n) h = h := by
    rw [nxt_get (by rw [List.length_range]; exact hh), List.getElem_range]
  have R : IsRing (List.range n) h [h] := ⟨Chain.one (by rw [List.length_range]; exact hh), fun x hx' => by
    have : x = h := by simpa using hx'.symm
    subst this
    exact hx⟩
  rw [← R.eq (range_good n)]
  exact hm
theorem hm_pos {n m : Nat} (hm' : 1 ≤ m) : 1 ≤ hm n m := by
  rw [hm_wins]
  obtain ⟨i, hi⟩ := wins_has (n := n) (m := m) (x := List.range n) List.length_range (range_good n) (range_short hm')
  have := (List.getElem?_eq_some_iff.mp hi).1
  omega
theorem wins_at {n m i : Nat} (h : i < hm n m) : ∃ x, (wins n m n [])[i]? = some x := by
  rw [hm_wins] at h
  exact ⟨_, List.getElem?_eq_getElem h⟩
theorem w323 : (wins 3 2 3 [])[3]? = some [2, 1, 0] := by decide +kernel
theorem w321 : (wins 3 2 3 [])[1]? = some [0, 2, 1] := by decide +kernel
theorem w110 : (wins 1 1 1 [])[0]? = some [0] := by decide +kernel
end Sb

namespace Sb
/-! ### all winning lists, in the order of lists -/
theorem wins_due : ∀ n, n < 6 → ∀ m, m < 6 → 1 ≤ m → m ≤ n → (wins n m n []).isPerm (due n m) = true := by decide +kernel
theorem due_wins {n m : Nat} (hn : n ≤ 5) (h1 : 1 ≤ m) (h2 : m ≤ n) {l : List (List Nat)} (p : l.Perm (due n m)) (s : l.Pairwise (· ≤ ·)) : l = wins n m n [] := by
  have pw : (wins n m n []).Perm (due n m) := List.isPerm_iff.mp (wins_due n (by omega) m (by omega) h1 h2)
  refine (p.trans pw.symm).eq_of_pairwise (fun x y _ _ a b => List.le_antisymm a b) s ((wins_pw n []).imp fun h => List.le_of_lt h)
theorem w32 : wins 3 2 3 [] = [[0, 1, 2], [0, 2, 1], [1, 0, 2], [2, 1, 0]] := by decide +kernel
end Sb

/-! ### the layer's words turned to lists of whole numbers -/
namespace Sb
open PySem PySem.Spec PyProof.Rows L2

/-- numbers from 0 on as values -/
abbrev iv (ns : List Nat) : List V := ns.map fun (n : Nat) => V.int (n : Int)
theorem iv_eq (ns : List Nat) : iv ns = (ns.map fun (n : Nat) => (n : Int)).map V.int := by
  rw [List.map_map]; rfl
theorem iv_len (ns : List Nat) : (iv ns).length = ns.length := List.length_map ..
theorem iv_get? (ns : List Nat) (i : Nat) : (iv ns)[i]? = (ns[i]?).map fun (n : Nat) => V.int (n : Int) := List.getElem?_map ..
theorem iv_at {ns : List Nat} {i x : Nat} (h : ns[i]? = some x) : atI (iv ns) (i : Int) = some (.int (x : Int)) := atI_nat (by rw [iv_get?, h]; rfl)
theorem iv_snoc (ns : List Nat) (x : Nat) : iv ns ++ [.int (x : Int)] = iv (ns ++ [x]) := by
  show _ = List.map _ _
  rw [List.map_append]; rfl
theorem iv_last {ns : List Nat} {x : Nat} (h : ns[ns.length - 1]? = some x) : atI (iv ns) (-1) = some (.int (x : Int)) := by
  have hne : ns ≠ [] := fun e => by subst e; simp at h
  have e : ns = ns.dropLast ++ [x] := by
    have := List.dropLast_concat_getLast hne
    rw [List.getLast_eq_getElem] at this
    have hl : ns.length - 1 < ns.length := by have := List.length_pos_iff.mpr hne; omega
    rw [List.getElem?_eq_getElem hl] at h
    rw [Option.some.inj h] at this
    exact this.symm
  rw [e, ← iv_snoc]
  exact atI_last _ _
theorem iv_inj {a b : List Nat} (h : iv a = iv b) : a = b := by
  induction a generalizing b with
  | nil => cases b with
    | nil => rfl
    | cons y b => cases h
  | cons x a ih => cases b with
    | nil => cases h
    | cons y b =>
      have h' : V.int (x : Int) :: iv a = V.int (y : Int) :: iv b := h
      injection h' with h1 h2
      injection h1 with h3
      rw [ih h2]
      have : x = y := by omega
      rw [this]
theorem flat_iv (ns : List Nat) : (iv ns).all flatV = true := by
  rw [List.all_eq_true]
  intro v hv
  obtain ⟨n, _, rfl⟩ := List.mem_map.mp hv
  rfl
theorem inV_iv (ns : List Nat) (x : Nat) : inV (.int (x : Int)) (iv ns) = decide (x ∈ ns) := by
  unfold inV
  rw [Bool.eq_iff_iff, List.any_eq_true, decide_eq_true_iff]
  constructor
  · rintro ⟨v, hv, e⟩
    obtain ⟨n, hn, rfl⟩ := List.mem_map.mp hv
    have : (n : Int) = (x : Int) := by
      have e' : eqV (V.int (n : Int)) (V.int (x : Int)) = true := e
      simpa [eqV] using e'
    have : n = x := by omega
    subst this; exact hn
  · intro h
    refine ⟨_, List.mem_map.mpr ⟨x, h, rfl⟩, ?_⟩
    simp [eqV]

/-! ### heaps -/
theorem same_upd {H : Hp} {p : Addr} {o : HO} (h : H p = none) : Same H (upd H p o) := fun b x e => by
  rw [upd_ne (ne_of_none e h)]
  exact e
/-- an object that H does not know is changed behind H -/
theorem same_mut {H H' : Hp} {p : Addr} {o : HO} (e : Same H H') (h : H p = none) : Same H (upd H' p o) := fun a u ha => by
  rw [upd_ne (ne_of_none ha h)]
  exact e a u ha
theorem same_t {K : PySem.W.Frag} {H H' : Hp} {a : Addr} {xs : List V} (e : Same H H') (h : SqT K H a xs) : SqT K H' a xs := by
  rcases h with (h | ⟨o, h⟩) | h
  · exact .inl (.inl (e _ _ h))
  · exact .inl (.inr ⟨o, e _ _ h⟩)
  · exact .inr h
theorem sz {n : Nat} (h : n ≤ 100000) : n ≤ sizeLine := Nat.le_trans h (by decide)
theorem szl {n : Nat} (h : n < 100000) : n < sizeLine := Nat.lt_of_lt_of_le h (by decide)

/-! ### lists of whole numbers compared -/
abbrev dI (ns : List Int) : PyData := .list (ns.map PyData.int)
abbrev dN (ns : List Nat) : PyData := .list (ns.map fun (n : Nat) => PyData.int (n : Int))
theorem canI : ∀ ns : List Int, PyData.canLayAll0 (ns.map PyData.int) = true
  | [] => by unfold PyData.canLayAll0; rfl
  | n :: r => by
    rw [List.map_cons]
    unfold PyData.canLayAll0
    rw [canI r]; unfold PyData.canLay0; rfl
theorem depI : ∀ ns : List Int, PyData.depthAll (ns.map PyData.int) ≤ 1
  | [] => by unfold PyData.depthAll; exact Nat.zero_le _
  | n :: r => by
    rw [List.map_cons]
    unfold PyData.depthAll
    have h := depI r
    have e : PyData.depth (.int n) ≤ 1 := by
      unfold PyData.depth
      omega
    exact Nat.max_le.mpr ⟨e, h⟩
theorem shapedI (ns : List Int) : SeqAt.shaped (dI ns) = true := by
  unfold SeqAt.shaped
  rw [Bool.and_eq_true_iff]
  refine ⟨by unfold PyData.canLay0; exact canI ns, decide_eq_true ?_⟩
  have h := depI ns
  unfold PyData.depth
  omega
theorem eqvI : ∀ a b : List Int, PyData.eqvAll (a.map PyData.int) (b.map PyData.int) = decide (a = b)
  | [], [] => by unfold PyData.eqvAll; rfl
  | [], y :: b => by rw [List.map_cons]; unfold PyData.eqvAll; rfl
  | x :: a, [] => by rw [List.map_cons]; unfold PyData.eqvAll; rfl
  | x :: a, y :: b => by
    rw [List.map_cons, List.map_cons]
    unfold PyData.eqvAll
    rw [eqvI a b]
    unfold PyData.eqv
    rw [Bool.eq_iff_iff]
    simp
theorem dpI {K : PySem.W.Frag} {H : Hp} : ∀ ns : List Int, DpAll K H (ns.map V.int) (ns.map PyData.int)
  | [] => .nil
  | n :: r => .cons (.int n) (dpI r)
theorem dp_ints {K : PySem.W.Frag} {H : Hp} {a : Addr} {ns : List Int} (h : SqL K H a (ns.map V.int)) : Dp K H (.ref a) (dI ns) := .lst h (dpI ns)
theorem dp_iv {K : PySem.W.Frag} {H : Hp} {a : Addr} {ns : List Nat} (h : SqL K H a (iv ns)) : Dp K H (.ref a) (dN ns) := by
  have h' : SqL K H a ((ns.map fun (n : Nat) => (n : Int)).map V.int) := by rw [← iv_eq]; exact h
  have r := dp_ints h'
  unfold dI at r
  rw [List.map_map] at r
  exact r
theorem dN_eq (ns : List Nat) : dN ns = dI (ns.map fun (n : Nat) => (n : Int)) := by
  unfold dN dI; rw [List.map_map]; rfl
theorem shapedN (ns : List Nat) : SeqAt.shaped (dN ns) = true := by rw [dN_eq]; exact shapedI _
theorem cast_inj {a b : List Nat} : a.map (fun (n : Nat) => (n : Int)) = b.map (fun (n : Nat) => (n : Int)) ↔ a = b := by
  constructor
  · intro h
    refine iv_inj ?_
    rw [iv_eq, iv_eq, h]
  · intro h; rw [h]
theorem eqvN (a b : List Nat) : PyData.eqv (dN a) (dN b) = decide (a = b) := by
  rw [dN_eq, dN_eq]
  show PyData.eqv (PyData.list _) (PyData.list _) = _
  unfold PyData.eqv
  rw [eqvI, Bool.eq_iff_iff, decide_eq_true_iff, decide_eq_true_iff]
  exact cast_inj
/-- two lists of numbers, unlike each other or not -/
theorem ne_iv {K : PySem.W.Frag} {H : Hp} {a b : Addr} {x y : List Nat} {Q : VK} (ha : SqL K H a (iv x)) (hb : SqL K H b (iv y)) (q : Q (.bl (!decide (x = y))) H) : rNeD K (.ref a) (.ref b) H Q :=
  ⟨dN x, dN y, dp_iv ha, dp_iv hb, shapedN x, shapedN y, by rw [eqvN]; exact q⟩
theorem eq_iv {K : PySem.W.Frag} {H : Hp} {a b : Addr} {x y : List Nat} {Q : VK} (ha : SqL K H a (iv x)) (hb : SqL K H b (iv y)) (q : Q (.bl (decide (x = y))) H) : rEqD K (.ref a) (.ref b) H Q :=
  ⟨dN x, dN y, dp_iv ha, dp_iv hb, shapedN x, shapedN y, by rw [eqvN]; exact q⟩

/-! ### a def of the text, and its call -/
structure Df (K : PySem.W.Frag) (mg : Str → Option Value) (x : Str) (st : Stmt) (ps : List Str) where
  f : Addr
  fd : FuncData
  F : Fun K x x st f fd
  g : mg x = some (.ref f)
  b : Binds K fd ps []
section
variable {X : Cx} {x : Str} {st : Stmt} {ps : List Str} {k : Nat} {sp : Sp} {e : Expr} {es : List Expr} {t : TA} {p pos : Pos}
theorem pe_df (D : Df X.K X.mg x st ps) (G : FnOk X.prog X.w X.K X.mg X.base CX0 k D.f D.fd ps sp) (hr : Room k X.A) (ha : PA X (e :: es) t) (hg : Gl X x := by rfl) (hdb : (x == ("__debug__" : Str)) = false := by decide)
    (he : starEach (e :: es) X.env = (false, eval e X.env) :: starEach es X.env := by rfl) (hpl : (backTo pos (starEach es X.env)).any (·.1) = false := by rfl) :
    PE X (.Call (.Name x p) (e :: es) [] pos) (tCall sp [] E0 t) := pe_call G hr hg D.g D.F.kp D.b .nil pass0 ha hdb he hpl
/-- len and an item, in a comprehension's block: the written part told -/
def rLenK (K : PySem.W.Frag) : List V → Hp → VK → Prop := fun xs H Q => ∃ p ys, xs = [.ref p] ∧ (SqL K H p ys ∨ SqT K H p ys) ∧ Q (.int ys.length) H
theorem call_lenK {K : PySem.W.Frag} (h : X.K = K) : CallR X (.builtin "len") (rLenK K) := by subst h; exact call_len_seq
theorem ix_listK {K : PySem.W.Frag} (h : X.K = K) : IxR X (rIxL K) := by subst h; exact ix_list
/-- a product of whole numbers, told by the model's own line -/
theorem op_mulX : OpR X (binaryOp .Mult) (rI (fun i j => IntMulOk i j) fun i j => .int (i * j)) := opI fun _ _ _ _ _ _ _ hc q => mul_int q hc
end
end Sb
/-! ### the text -/
namespace Sb
open PySem PySem.Spec PyProof.Rows L2
def topS (i : Nat) : Stmt := PySem.Challenge.pw_slipboxes_k06_listed.main.body.getD i (.Pass ⟨0, 0, 0, 0⟩)
abbrev s_is_whole : Stmt := topS 7
abbrev s_check_boxes : Stmt := topS 8
abbrev s_ring_from : Stmt := topS 9
abbrev s_rings_of : Stmt := topS 10
abbrev s_long_rings : Stmt := topS 11
abbrev s_check_count : Stmt := topS 13
abbrev s_check_counts : Stmt := topS 17
abbrev s_how_many : Stmt := topS 18
abbrev s_closed_ways : Stmt := topS 19
abbrev s_ways_behind : Stmt := topS 20
abbrev s_setting_by : Stmt := topS 21
abbrev s_number_of : Stmt := topS 22
abbrev s_law_cell_at : Stmt := topS 24
abbrev s_law_draw : Stmt := topS 25
abbrev s_law_value : Stmt := topS 26
abbrev s_law_ring : Stmt := topS 27
abbrev s_law_longest : Stmt := topS 28
abbrev s_law_orders : Stmt := topS 29
abbrev s_law : Stmt := topS 30
structure Tx (K : PySem.W.Frag) (mg : Str → Option Value) where
  is_whole : Df K mg "is_whole" s_is_whole ["thing"]
  check_boxes : Df K mg "check_boxes" s_check_boxes ["boxes", "most"]
  ring_from : Df K mg "ring_from" s_ring_from ["boxes", "hand"]
  rings_of : Df K mg "rings_of" s_rings_of ["boxes"]
  long_rings : Df K mg "long_rings" s_long_rings ["boxes", "most"]
  check_count : Df K mg "check_count" s_check_count ["boxes", "most"]
  check_counts : Df K mg "check_counts" s_check_counts ["boxes", "most", "greatest"]
  how_many : Df K mg "how_many" s_how_many ["boxes", "most"]
  closed_ways : Df K mg "closed_ways" s_closed_ways ["chains", "most", "known"]
  ways_behind : Df K mg "ways_behind" s_ways_behind ["slips", "boxes", "most", "known"]
  setting_by : Df K mg "setting_by" s_setting_by ["boxes", "most", "number"]
  number_of : Df K mg "number_of" s_number_of ["setting", "most"]
  law_cell_at : Df K mg "_law_cell_at" s_law_cell_at ["_law_script", "_law_k"]
  law_draw : Df K mg "_law_draw" s_law_draw ["_law_cell", "_law_k", "_law_many"]
  law_value : Df K mg "_law_value" s_law_value ["_law_cell", "_law_turn"]
  law_ring : Df K mg "_law_ring" s_law_ring ["_law_boxes", "_law_hand"]
  law_longest : Df K mg "_law_longest" s_law_longest ["_law_boxes"]
  law_orders : Df K mg "_law_orders" s_law_orders ["_law_many"]
  t_GREATEST : Tok
  c_GREATEST : mg "GREATEST" = some (.int 100 t_GREATEST)
  t_NUMBERED : Tok
  c_NUMBERED : mg "NUMBERED" = some (.int 8 t_NUMBERED)
  m_len : mg "len" = none
  m_range : mg "range" = none
  m_list : mg "list" = none
  m_isinstance : mg "isinstance" = none
  m_all : mg "all" = none
  m_sorted : mg "sorted" = none
  m_int : mg "int" = none
  m_bool : mg "bool" = none
  m_tuple : mg "tuple" = none
  m_max : mg "max" = none
  m_min : mg "min" = none
  m_enumerate : mg "enumerate" = none
  m_sum : mg "sum" = none
end Sb

namespace Sb
open PySem PySem.Spec PyProof.Rows L2
section
variable {P : Program} {w : World} {K : PySem.W.Frag} {mg : Str → Option Value} {base : Heap}
/-! ### is_whole -/
/-- a thing of the type ty (no list of one's own): a number, or not -/
def spWhole (K : PySem.W.Frag) : Sp := fun vs H Q _ => ∃ (v : V) (ty : String) (b1 b2 : Bool), vs = [v] ∧ TyX K H v (.type ty) ∧ kitB ty "int" = some b1 ∧ kitB ty "bool" = some b2 ∧ Q (.bl (b1 && !b2)) H
abbrev n_is_whole : List Str := ["thing"]
theorem sc_is_whole : FnScope n_is_whole ["thing"] (defScope s_is_whole) := ⟨rfl, rfl, rfl, by decide +kernel, rfl, by decide +kernel, by decide +kernel⟩
theorem ok_is_whole (T : Tx K mg) : FnOk P w K mg base CX0 1 T.is_whole.f T.is_whole.fd ["thing"] (spWhole K) := by
  refine T.is_whole.F.ok sc_is_whole (fun vs H Q E h => ?_) (fun cdv A outer s H vs Q E hr h => ?_)
  · obtain ⟨v, ty, b1, b2, rfl, _⟩ := h
    rfl
  · obtain ⟨v, ty, b1, b2, rfl, hty, h1, h2, q⟩ := h
    refine ⟨_, (pss_one (ps_ret (pe_and (pe_callB call_isi (by rfl) T.m_isinstance (by decide +kernel) (pa_cons (pv 0) (pa_cons (pe_bltn (v := .ty "int") (by rfl) T.m_int (by decide +kernel) rfl) pa_nil))) (pe_one (pe_not (pe_callB call_isi (by rfl) T.m_isinstance (by decide +kernel) (pa_cons (pv 0) (pa_cons (pe_bltn (v := .ty "bool") (by rfl) T.m_bool (by decide +kernel) rfl) pa_nil)))))))), ?_⟩
    refine ⟨v, rfl, v, .ty "int", .type ty, .type "int", b1, rfl, .ty "int", hty, kit_ty h1, b1, rfl, ite2 (fun e => ?_) (fun e => ?_)⟩
    · refine ⟨v, rfl, v, .ty "bool", .type ty, .type "bool", b2, rfl, .ty "bool", hty, kit_ty h2, b2, rfl, ?_⟩
      rw [e] at q
      exact q
    · have e' : b1 = false := by cases b1 with
        | true => exact absurd rfl e
        | false => rfl
      rw [e'] at q
      exact q
theorem whole_int {H : Hp} {Q : VK} {E : XK} {i : Int} (q : Q (.bl true) H) : spWhole K [.int i] H Q E :=
  ⟨.int i, "int", true, false, rfl, .base (.int i), by decide +kernel, by decide +kernel, q⟩
end
end Sb
namespace Sb
open PySem PySem.Spec PyProof.Rows L2
section
variable {P : Program} {w : World} {K : PySem.W.Frag} {mg : Str → Option Value} {base : Heap}
/-! ### a new list of numbers; the boxes that a hand opens -/
/-- a new list at p: the numbers r -/
def NewL (H : Hp) (Q : VK) (r : List Nat) : Prop := ∀ (H' : Hp) (p : Addr), Same H H' → H p = none → H' p = some (.lst (iv r)) → Q (.ref p) H'
def spRing (K : PySem.W.Frag) : Sp := fun vs H Q _ => ∃ (a : Addr) (ns : List Nat) (h : Nat), vs = [.ref a, .int (h : Int)] ∧ SqL K H a (iv ns) ∧ Good ns ∧ h < ns.length ∧ ns.length ≤ 1000 ∧ NewL H Q (ringOf ns h)
end
end Sb
namespace Sb
open PySem PySem.Spec PyProof.Rows L2
section
variable {P : Program} {w : World} {K : PySem.W.Frag} {mg : Str → Option Value} {base : Heap}
/-! ### ring_from -/
abbrev n_ring_from : List Str := ["boxes", "hand", "found"]
theorem sc_ring_from : FnScope n_ring_from ["boxes", "hand"] (defScope s_ring_from) := ⟨rfl, rfl, rfl, by decide +kernel, rfl, by decide +kernel, by decide +kernel⟩
theorem ok_ring_from (T : Tx K mg) : FnOk P w K mg base CX0 1 T.ring_from.f T.ring_from.fd ["boxes", "hand"] (spRing K) := by
  refine T.ring_from.F.ok sc_ring_from (fun vs H Q E h => ?_) (fun cdv A outer s H vs Q E hr h => ?_)
  · obtain ⟨a, ns, h, rfl, _⟩ := h
    rfl
  · obtain ⟨a, ns, h, rfl, hS, g, hh, hlen, q⟩ := h
    refine ⟨_, (pss_cons (ps_set (i := 2) sc_ring_from.nd rfl (.inl rfl) (pe_lst (pa_cons (pv 1) pa_nil)))
    (pss_cons (ps_while PassesOwn.never (pt_cmpR op_ne (pe_ix ix_list (pv 0) (pe_ix ix_list (pv 2) (pe_un un_neg pe_int) (fun _ _ => rfl)) (fun _ _ => rfl)) (pv 1) (nomark _))
      (pss_one (ps_expr (pe_bm PySem.F.plainAttrs_list PySem.F.slot_list_append PySem.F.type_list_append mt_append (pv 2) (pa_cons (pe_ix ix_list (pv 0) (pe_ix ix_list (pv 2) (pe_un un_neg pe_int) (fun _ _ => rfl)) (fun _ _ => rfl)) pa_nil)))))
    (pss_one (ps_ret (pv 2))))), ?_⟩
    refine ⟨.int h, rfl, sz (by simp), fun o no => ?_⟩
    refine ⟨fun m σ H3 => ∃ r, σ = [some (.ref a), some (.int (h : Int)), some (.ref o)] ∧ Same H H3 ∧ H3 o = some (.lst (iv r)) ∧ Chain ns h r ∧ m = ns.length - r.length,
      ⟨_, [h], rfl, same_upd no, upd_same, Chain.one hh, rfl⟩, fun m σ H3 hW => ?_⟩
    obtain ⟨r, rfl, sm, eo, c, rfl⟩ := hW
    obtain ⟨x, hx, hm, hl⟩ := c.last
    have hA : SqL K H3 a (iv ns) := sm.seq hS
    have hO : SqL K H3 o (iv r) := .of eo
    have ax : atI (iv ns) ((x : Nat) : Int) = some (.int ((nxt ns x : Nat) : Int)) := iv_at (nxt_get? hl)
    refine ⟨.ref a, rfl, .ref o, rfl, 1, rfl, o, _, -1, _, rfl, rfl, hO, iv_last hx, a, _, _, _, rfl, rfl, hA, ax, .int h, rfl, rfl, _, rfl, ite2 (fun e => ?_) (fun e => ?_)⟩
    · have ne : nxt ns x ≠ h := fun z => by
        rw [z] at e
        simp at e
      have hn : nxt ns x ∉ r := fun z => ne (c.slip g hx z)
      have c' := c.more hx hn (g.nxt_lt hl)
      refine ⟨fun σ' H' => ∃ r', σ' = [some (.ref a), some (.int (h : Int)), some (.ref o)] ∧ Same H H' ∧ H' o = some (.lst (iv r')) ∧ Chain ns h r' ∧ r'.length = r.length + 1, fun σ' H' hN => ?_, ?_⟩
      · obtain ⟨r', e1, e2, e3, e4, e5⟩ := hN
        have := e4.len_le
        exact ⟨_, by omega, r', e1, e2, e3, e4, rfl⟩
      · refine ⟨.ref o, rfl, .inl ⟨rfl, _, hO⟩, .ref a, rfl, .ref o, rfl, 1, rfl, o, _, -1, _, rfl, rfl, hO, iv_last hx, a, _, _, _, rfl, rfl, hA, ax, o, _, _, rfl, rfl, eo, ?_, ?_⟩
        · rw [iv_len]
          have := c.len_le
          exact szl (by omega)
        · rw [iv_snoc]
          exact ⟨_, rfl, same_mut sm no, upd_same, c', by rw [List.length_append]; rfl⟩
    · have e2 : nxt ns x = h := by
        have : V.int ((nxt ns x : Nat) : Int) = V.int (h : Int) := by
          cases hd : decide (V.int ((nxt ns x : Nat) : Int) = V.int (h : Int)) with
          | true => exact of_decide_eq_true hd
          | false => rw [hd] at e; exact absurd rfl e
        injection this with this
        omega
      have R : IsRing ns h r := ⟨c, fun y hy => by rw [hx] at hy; cases hy; exact e2⟩
      rw [R.eq g] at eo
      exact ⟨.ref o, rfl, q H3 o sm no eo⟩
end
end Sb
namespace Sb
open PySem PySem.Spec PyProof.Rows L2
theorem ty_list {K : PySem.W.Frag} {H : Hp} {a : Addr} {xs : List V} (h : SqL K H a xs) : TyX K H (.ref a) (.type "list") := by
  rcases h with (h | ⟨o, h⟩) | ⟨o, its, n, h1, h2, _⟩
  · exact .base (.lst h)
  · exact .base (.frz h)
  · exact .kList h1 h2
/-- numbers in rising order, each below their count once: the numbers from 0 on -/
theorem sorted_range : ∀ (l m : List Nat), l.Perm m → l.Pairwise (· ≤ ·) → m.Pairwise (· ≤ ·) → l = m := fun l m p a b =>
  p.eq_of_pairwise (fun x y _ _ h1 h2 => Nat.le_antisymm h1 h2) a b
theorem range_pw (n : Nat) : (List.range n).Pairwise (· ≤ ·) := by
  refine List.Pairwise.imp ?_ (List.pairwise_lt_range (n := n))
  intro a b h
  exact Nat.le_of_lt h
theorem rgV_iv (n : Nat) : rgV 0 (n : Int) = iv (List.range n) := by
  unfold rgV
  rw [show ((n : Int) - 0).toNat = n by omega]
  apply List.map_congr_left
  intro i _
  rw [Int.zero_add]
theorem perm_int {ns' : List Int} {ns : List Nat} (p : ns'.Perm (ns.map fun (n : Nat) => (n : Int))) : ∃ ms : List Nat, ns' = ms.map (fun (n : Nat) => (n : Int)) ∧ ms.Perm ns := by
  have all : ∀ x ∈ ns', ∃ n : Nat, x = (n : Int) := fun x hx => by
    obtain ⟨n, _, e⟩ := List.mem_map.mp (p.mem_iff.mp hx)
    exact ⟨n, e.symm⟩
  have e : ns' = (ns'.map Int.toNat).map (fun (n : Nat) => (n : Int)) := by
    rw [List.map_map]
    conv => lhs; rw [← List.map_id ns']
    apply List.map_congr_left
    intro x hx
    obtain ⟨n, rfl⟩ := all x hx
    rfl
  refine ⟨ns'.map Int.toNat, e, ?_⟩
  have h := p.map Int.toNat
  rw [List.map_map] at h
  have e2 : ns.map (Int.toNat ∘ fun (n : Nat) => (n : Int)) = ns := by
    conv => rhs; rw [← List.map_id ns]
    apply List.map_congr_left
    intro x _
    rfl
  rw [e2] at h
  exact h
theorem pw_int {ms : List Nat} (h : (ms.map fun (n : Nat) => (n : Int)).Pairwise (· ≤ ·)) : ms.Pairwise (· ≤ ·) := by
  rw [List.pairwise_map] at h
  exact h.imp fun h => by omega
section
variable {P : Program} {w : World} {K : PySem.W.Frag} {mg : Str → Option Value} {base : Heap}
/-! ### check_boxes: boxes are let through -/
def spCheck (K : PySem.W.Frag) : Sp := fun vs H Q _ => ∃ (a : Addr) (ns : List Nat) (m : Int), vs = [.ref a, .int m] ∧ SqL K H a (iv ns) ∧ Good ns ∧ 1 ≤ ns.length ∧ (ns.length : Int) ≤ m ∧ ns.length < 64 ∧ ∀ H', Same H H' → Q .non H'
abbrev n_check_boxes : List Str := ["boxes", "most", "slip"]
theorem sc_check_boxes : FnScope n_check_boxes ["boxes", "most"] (defScope s_check_boxes) := ⟨rfl, rfl, rfl, by decide +kernel, rfl, by decide +kernel, by decide +kernel⟩
theorem ok_check_boxes (T : Tx K mg) : FnOk P w K mg base CX0 2 T.check_boxes.f T.check_boxes.fd ["boxes", "most"] (spCheck K) := by
  refine T.check_boxes.F.ok sc_check_boxes (fun vs H Q E h => ?_) (fun cdv A outer s H vs Q E hr h => ?_)
  · obtain ⟨a, ns, h, rfl, _⟩ := h
    rfl
  · obtain ⟨a, ns, m, rfl, hS, g, h1, hm, hlen, q⟩ := h
    refine ⟨_, (pss_cons (ps_if (PW.pt (pw_or (pt_not (pt_val (pe_callB call_isi (by rfl) T.m_isinstance (by decide +kernel) (pa_cons (pv 0) (pa_cons (pe_bltn (v := .ty "list") (by rfl) T.m_list (by decide +kernel) rfl) pa_nil))))) (pw_or (pt_not (pt_chain op_le op_le pe_int (pe_callB call_len_seq (by rfl) T.m_len (by decide +kernel) (pa_cons (pv 0) pa_nil)) (pv 1))) (pw_or1 (pt_not (pt_val (pe_callB (cr_all rfl) (by rfl) T.m_all (by decide +kernel) (pa_cons (pe_lc (own := [("slip", 2)]) (g := gName 2) rfl sc_check_boxes.nd (pi_list (pv 0)) (blkOk_by (own := [("slip", 2)]) (N := n_check_boxes) (sc := defScope s_check_boxes) (by decide +kernel)) (fun _ _ _ _ _ => (pg_name (i := 2) sc_check_boxes.nd rfl (.inl rfl))) (fun _ _ _ _ _ => pts_nil) (fun _ _ _ _ _ => (pe_df T.is_whole (ok_is_whole T) (hr.mono (by decide)) (pa_cons (pv 2) pa_nil)))) pa_nil))))))))
      (pss_one ps_never)
      pss_nil)
    (pss_one (ps_if (pt_cmpR (op_neD hr.units) (pe_callB cr_sorted (by rfl) T.m_sorted (by decide +kernel) (pa_cons (pv 0) pa_nil)) (pe_listRg rfl (by rfl) T.m_list (prg_1 (by rfl) T.m_range (pe_callB call_len_seq (by rfl) T.m_len (by decide +kernel) (pa_cons (pv 0) pa_nil)))) (nomark _))
      (pss_one ps_never)
      pss_nil))), ?_⟩
    -- isinstance(boxes, list)
    refine ⟨.ref a, rfl, _, _, _, .type "list", true, rfl, .ty "list", ty_list hS, kit_ty (by decide +kernel), true, rfl, iteF ?_⟩
    -- 1 <= len(boxes) <= most
    refine ⟨.ref a, rfl, a, _, rfl, .inl hS, 1, _, rfl, rfl, _, rfl, ?_⟩
    rw [iv_len, show decide ((1 : Int) ≤ (ns.length : Int)) = true from decide_eq_true (by omega)]
    refine iteT ⟨.int m, rfl, _, m, rfl, rfl, _, rfl, ?_⟩
    rw [show decide ((ns.length : Int) ≤ m) = true from decide_eq_true hm]
    refine iteF ?_
    -- all(..)
    refine ⟨.ref a, rfl, a, rfl, ⟨_, hS⟩, fun D nD => ?_⟩
    refine lc_list (K := K) (a := a) (xs := iv ns) (fun i H3 => Same H H3 ∧ H3 D = some (.lst ((List.replicate i true).map V.bl))) ⟨same_upd nD, upd_same⟩ (fun i H3 _ h => h.1.seq hS) (fun i x H3 hx h => ?_) (fun H3 h => ?_)
    · obtain ⟨sm, eD⟩ := h
      rw [iv_get?] at hx
      obtain ⟨n, _, rfl⟩ := Option.map_eq_some_iff.mp hx
      have hi : i < ns.length := by
        obtain ⟨h, _⟩ := List.getElem?_eq_some_iff.mp (by assumption : ns[i]? = some n); exact h
      refine ⟨rfl, .int n, rfl, .int n, "int", true, false, rfl, .base (.int _), by decide +kernel, by decide +kernel, _, eD, ?_, ?_⟩
      · rw [List.length_map, List.length_replicate]
        exact szl (by omega)
      · refine ⟨same_mut sm nD, ?_⟩
        rw [upd_same, List.replicate_succ', List.map_append]
        rfl
    · obtain ⟨sm, eD⟩ := h
      refine ⟨D, _, rfl, .of eD, _, rfl, ?_⟩
      have ea : (List.replicate (iv ns).length true).all id = true := by
        rw [List.all_eq_true]
        intro b hb
        rw [(List.mem_replicate.mp hb).2]
        rfl
      rw [ea]
      refine iteF ?_
      -- sorted(boxes) != list(range(len(boxes)))
      have hS3 : SqL K H3 a ((ns.map fun (n : Nat) => (n : Int)).map V.int) := by rw [← iv_eq]; exact sm.seq hS
      refine ⟨.ref a, rfl, a, _, rfl, hS3, by rw [List.length_map]; omega, fun ns' p pm rise np => ?_⟩
      obtain ⟨ms, rfl, pm'⟩ := perm_int pm
      have em : ms = List.range ns.length := sorted_range _ _ (pm'.trans g.perm) (pw_int rise) (range_pw _)
      have s4 : Same H3 (upd H3 p (.lst ((ms.map fun (n : Nat) => (n : Int)).map V.int))) := same_upd np
      refine ⟨.ref a, rfl, a, _, rfl, .inl (s4.seq (sm.seq hS)), (ns.length : Int), by rw [iv_len], RgOk.of_le (by omega) (by omega) (by omega) (by omega), fun p2 np2 => ?_⟩
      have s5 := same_upd (o := .lst (rgV 0 (ns.length : Int))) np2
      refine ne_iv (x := ms) (y := List.range ns.length) (s5.seq (.of (by rw [upd_same, iv_eq]))) (.of (by rw [upd_same, rgV_iv])) ⟨_, rfl, iteNS em ?_⟩
      exact q _ ((sm.trans s4).trans s5)
end
end Sb
namespace Sb
open PySem PySem.Spec PyProof.Rows L2
/-- the rows of a list of lists, at ps: new ones -/
structure Rows (H H' : Hp) (ps : List Addr) (rs : List (List Nat)) : Prop where
  len : ps.length = rs.length
  row : ∀ (i : Nat) (q : Addr) (r : List Nat), ps[i]? = some q → rs[i]? = some r → H' q = some (.lst (iv r))
  new : ∀ q ∈ ps, H q = none
  nd : ps.Nodup
theorem Rows.nil {H H' : Hp} : Rows H H' [] [] := ⟨rfl, fun i q r h _ => by simp at h, fun q h => by simp at h, List.nodup_nil⟩
theorem Rows.at {H H' : Hp} {ps : List Addr} {rs : List (List Nat)} (R : Rows H H' ps rs) {q : Addr} (h : q ∈ ps) : ∃ r, r ∈ rs ∧ H' q = some (.lst (iv r)) := by
  obtain ⟨i, hi, e⟩ := List.mem_iff_getElem.mp h
  have hr : i < rs.length := by rw [← R.len]; exact hi
  exact ⟨rs[i], List.getElem_mem hr, R.row i q _ (by rw [List.getElem?_eq_getElem hi, e]) (List.getElem?_eq_getElem hr)⟩
theorem Rows.moved {H H' H'' : Hp} {ps : List Addr} {rs : List (List Nat)} (R : Rows H H' ps rs) (k : ∀ q ∈ ps, H'' q = H' q) : Rows H H'' ps rs :=
  ⟨R.len, fun i q r h1 h2 => by rw [k q (List.mem_of_getElem? h1)]; exact R.row i q r h1 h2, R.new, R.nd⟩
theorem Rows.same {H H' H'' : Hp} {ps : List Addr} {rs : List (List Nat)} (R : Rows H H' ps rs) (s : Same H' H'') : Rows H H'' ps rs :=
  ⟨R.len, fun i q r h1 h2 => s _ _ (R.row i q r h1 h2), R.new, R.nd⟩
theorem Rows.upd {H H' : Hp} {ps : List Addr} {rs : List (List Nat)} {o : Addr} {x : HO} (R : Rows H H' ps rs) (h : o ∉ ps) : Rows H (upd H' o x) ps rs :=
  R.moved fun q hq => upd_ne fun e => h (e ▸ hq)
theorem Rows.snoc {H H' : Hp} {ps : List Addr} {rs : List (List Nat)} {p : Addr} {r : List Nat} (R : Rows H H' ps rs) (hp : H' p = some (.lst (iv r))) (hn : H p = none) (hd : p ∉ ps) : Rows H H' (ps ++ [p]) (rs ++ [r]) where
  len := by rw [List.length_append, List.length_append, R.len]; rfl
  row := fun i q r' h1 h2 => by
    by_cases hi : i < ps.length
    · rw [List.getElem?_append_left hi] at h1
      rw [List.getElem?_append_left (by rw [← R.len]; exact hi)] at h2
      exact R.row i q r' h1 h2
    · rw [List.getElem?_append_right (by omega)] at h1
      rw [List.getElem?_append_right (by rw [← R.len]; omega)] at h2
      have e : i - ps.length = 0 := by
        obtain ⟨h, _⟩ := List.getElem?_eq_some_iff.mp h1
        simpa using h
      rw [← R.len, e] at h2
      rw [e] at h1
      cases h1
      cases h2
      exact hp
  new := fun q hq => by
    rcases List.mem_append.mp hq with z | z
    · exact R.new q z
    · simp at z; subst z; exact hn
  nd := by
    rw [List.nodup_append]
    refine ⟨R.nd, by simp, fun a ha b hb => ?_⟩
    simp at hb
    subst hb
    intro e; subst e; exact hd ha
/-- a new list of new lists: the rows rs -/
def NewLL (H : Hp) (Q : VK) (rs : List (List Nat)) : Prop := ∀ (H' : Hp) (p : Addr) (ps : List Addr), Same H H' → H p = none → H' p = some (.lst (ps.map V.ref)) → Rows H H' ps rs → p ∉ ps → Q (.ref p) H'
theorem refs_last {ps : List Addr} {p : Addr} : atI ((ps ++ [p]).map V.ref) (-1) = some (.ref p) := by
  rw [List.map_append]; exact atI_last _ _
end Sb
namespace Sb
open PySem PySem.Spec PyProof.Rows L2
section
variable {P : Program} {w : World} {K : PySem.W.Frag} {mg : Str → Option Value} {base : Heap}
/-! ### rings_of -/
def spRings (K : PySem.W.Frag) : Sp := fun vs H Q _ => ∃ (a : Addr) (ns : List Nat), vs = [.ref a] ∧ SqL K H a (iv ns) ∧ Good ns ∧ ns.length ≤ 100 ∧ NewLL H Q (ringsOf ns)
abbrev n_rings_of : List Str := ["boxes", "found", "gone", "box"]
theorem sc_rings_of : FnScope n_rings_of ["boxes"] (defScope s_rings_of) := ⟨rfl, rfl, rfl, by decide +kernel, rfl, by decide +kernel, by decide +kernel⟩
theorem ok_rings_of (T : Tx K mg) : FnOk P w K mg base CX0 2 T.rings_of.f T.rings_of.fd ["boxes"] (spRings K) := by
  refine T.rings_of.F.ok sc_rings_of (fun vs H Q E h => ?_) (fun cdv A outer s H vs Q E hr h => ?_)
  · obtain ⟨a, ns, rfl, _⟩ := h
    rfl
  · obtain ⟨a, ns, rfl, hS, g, hlen, q⟩ := h
    refine ⟨_, (pss_cons (ps_par (i := 1) (j := 2) (by rfl) sc_rings_of.nd rfl rfl (by decide) rfl rfl (pa_cons (pe_lst pa_nil) (pa_cons (pe_lst pa_nil) pa_nil)) (by rfl))
    (pss_cons (ps_for PassesOwn.never rfl (pi_range1 (by rfl) T.m_range (pa_cons (pe_callB call_len_seq (by rfl) T.m_len (by decide +kernel) (pa_cons (pv 0) pa_nil)) pa_nil)) (pg_name (i := 3) sc_rings_of.nd rfl (.inl rfl))
      (pss_one (ps_if (pt_cmpR op_notIn_seq (pv 3) (pv 2) (by rfl))
        (pss_cons (ps_expr (pe_bm PySem.F.plainAttrs_list PySem.F.slot_list_append PySem.F.type_list_append mt_append (pv 1) (pa_cons (pe_df T.ring_from (ok_ring_from T) (hr.mono (by decide)) (pa_cons (pv 0) (pa_cons (pv 3) pa_nil))) pa_nil)))
        (pss_one (ps_expr (pe_bm PySem.F.plainAttrs_list PySem.F.slot_list_extend PySem.F.type_list_extend mt_extend (pv 2) (pa_cons (pe_ix ix_list (pv 1) (pe_un un_neg pe_int) (fun _ _ => rfl)) pa_nil)))))
        pss_nil)))
    (pss_one (ps_ret (pv 1))))), ?_⟩
    refine ⟨Nat.zero_le _, fun o no => ⟨Nat.zero_le _, fun z nz => ⟨_, _, rfl, ?_⟩⟩⟩
    have s1 : Same H (upd H o (.lst [])) := same_upd no
    have s2 := same_upd (o := .lst []) nz
    have nzo : z ≠ o := fun e => by
      rw [e, upd_same] at nz
      cases nz
    have nzH : H z = none := s1.free nz
    refine ⟨.ref a, rfl, a, _, rfl, .inl (s2.seq (s1.seq hS)), _, rfl, by omega, by rw [iv_len]; omega, ?_⟩
    rw [iv_len, show ((ns.length : Int)).toNat = ns.length by omega]
    refine for_range (lo := 0) (n := ns.length) (fun i σ H3 => ∃ ps v, σ = [some (.ref a), some (.ref o), some (.ref z), v] ∧ Same H H3 ∧ H3 o = some (.lst (ps.map V.ref)) ∧ H3 z = some (.lst (iv (ringsTo ns i).flatten)) ∧ Rows H H3 ps (ringsTo ns i) ∧ o ∉ ps ∧ z ∉ ps) ?_ (fun i σ H3 hi hP => ?_) (fun σ H3 hP => ?_)
    · refine ⟨[], none, rfl, s1.trans s2, ?_, upd_same, Rows.nil, by simp, by simp⟩
      rw [upd_ne nzo.symm, upd_same]
      rfl
    · obtain ⟨ps, v, rfl, sm, eo, ez, R, ho, hz⟩ := hP
      have hA : SqL K H3 a (iv ns) := sm.seq hS
      refine ⟨_, rfl, .ref z, rfl, z, _, rfl, .inl (.of ez), rfl, flat_iv _, _, rfl, ?_⟩
      rw [if_pos rfl, show (0 : Int) + ((i : Nat) : Int) = ((i : Nat) : Int) by omega, inV_iv]
      have hg := gone_iff g hi
      by_cases hmin : isMin ns i = true
      · have hd : decide (i ∈ (ringsTo ns i).flatten) = false := decide_eq_false fun z => hg.mp z hmin
        rw [hd]
        refine iteT ?_
        refine ⟨.ref o, rfl, .inl ⟨rfl, _, .of eo⟩, .ref a, rfl, _, rfl, a, ns, i, rfl, hA, g, hi, by omega, fun H4 p sm4 np ep => ?_⟩
        have eo4 := sm4 _ _ eo
        have ez4 := sm4 _ _ ez
        have nop : o ≠ p := ne_of_none eo np
        have nzp : z ≠ p := ne_of_none ez np
        have npp : p ∉ ps := fun hp => by
          obtain ⟨r, _, e⟩ := R.at hp
          rw [np] at e
          cases e
        refine ⟨o, _, _, rfl, rfl, eo4, ?_, ?_⟩
        · rw [List.length_map, R.len]
          have := ringsTo_len ns i
          exact szl (by omega)
        · have ep5 : (upd H4 o (.lst (ps.map V.ref ++ [.ref p]))) p = some (.lst (iv (ringOf ns i))) := by
            rw [upd_ne nop.symm]; exact ep
          have ez5 : (upd H4 o (.lst (ps.map V.ref ++ [.ref p]))) z = some (.lst (iv (ringsTo ns i).flatten)) := by
            rw [upd_ne nzo]; exact ez4
          have eo5 : (upd H4 o (.lst (ps.map V.ref ++ [.ref p]))) o = some (.lst ((ps ++ [p]).map V.ref)) := by
            rw [upd_same, List.map_append]; rfl
          refine ⟨.ref z, rfl, .inl ⟨rfl, _, .of ez5⟩, .ref o, rfl, 1, rfl, o, _, -1, _, rfl, rfl, .of eo5, refs_last, z, p, _, _, rfl, rfl, ez5, ep5, ?_, ?_⟩
          · rw [iv_len, iv_len]
            have h1 := ringsTo_flat g (k := i) (by omega)
            have h2 := ringOf_len g hi
            have h3 : i * ns.length ≤ 100 * 100 := Nat.mul_le_mul (by omega) hlen
            exact sz (by omega)
          · refine ⟨ps ++ [p], _, rfl, same_mut (same_mut (sm.trans sm4) no) nzH, ?_, ?_, ?_, ?_, ?_⟩
            · rw [upd_ne nzo.symm]; exact eo5
            · rw [upd_same, ringsTo_succ, if_pos hmin, List.flatten_append, ← List.map_append]
              simp
            · rw [ringsTo_succ, if_pos hmin]
              have R5 := ((R.same sm4).upd (x := .lst (ps.map V.ref ++ [.ref p])) ho).snoc ep5 (sm.free np) npp
              exact R5.upd (by
                intro h
                rcases List.mem_append.mp h with y | y
                · exact hz y
                · simp at y; exact nzp y)
            · intro h
              rcases List.mem_append.mp h with y | y
              · exact ho y
              · simp at y; exact nop y
            · intro h
              rcases List.mem_append.mp h with y | y
              · exact hz y
              · simp at y; exact nzp y
      · have hd : decide (i ∈ (ringsTo ns i).flatten) = true := decide_eq_true (hg.mpr hmin)
        rw [hd]
        refine iteF ?_
        refine ⟨ps, _, rfl, sm, eo, ?_, ?_, ho, hz⟩
        · rw [ringsTo_succ, if_neg hmin]; exact ez
        · rw [ringsTo_succ, if_neg hmin]; exact R
    · obtain ⟨ps, v, rfl, sm, eo, ez, R, ho, hz⟩ := hP
      exact ⟨.ref o, rfl, q H3 o ps sm no eo R ho⟩
end
end Sb
namespace Sb
open PySem PySem.Spec PyProof.Rows L2
/-! ### lists of lists compared -/
abbrev dNN (rs : List (List Nat)) : PyData := .list (rs.map dN)
theorem canN (ns : List Nat) : PyData.canLay0 (dN ns) = true := by
  rw [dN_eq]; unfold PyData.canLay0; exact canI _
theorem canNN : ∀ rs : List (List Nat), PyData.canLayAll0 (rs.map dN) = true
  | [] => by unfold PyData.canLayAll0; rfl
  | n :: r => by
    rw [List.map_cons]
    unfold PyData.canLayAll0
    rw [canNN r, canN n]; rfl
theorem depN (ns : List Nat) : PyData.depth (dN ns) ≤ 3 := by
  rw [dN_eq]
  have h := depI (ns.map fun (n : Nat) => (n : Int))
  unfold PyData.depth
  omega
theorem depNN : ∀ rs : List (List Nat), PyData.depthAll (rs.map dN) ≤ 3
  | [] => by unfold PyData.depthAll; exact Nat.zero_le _
  | n :: r => by
    rw [List.map_cons]
    unfold PyData.depthAll
    exact Nat.max_le.mpr ⟨depN n, depNN r⟩
theorem shapedNN (rs : List (List Nat)) : SeqAt.shaped (dNN rs) = true := by
  unfold SeqAt.shaped
  rw [Bool.and_eq_true_iff]
  refine ⟨by unfold PyData.canLay0; exact canNN rs, decide_eq_true ?_⟩
  have h := depNN rs
  unfold PyData.depth
  omega
theorem eqvNN : ∀ a b : List (List Nat), PyData.eqvAll (a.map dN) (b.map dN) = decide (a = b)
  | [], [] => by unfold PyData.eqvAll; rfl
  | [], y :: b => by rw [List.map_cons]; unfold PyData.eqvAll; rfl
  | x :: a, [] => by rw [List.map_cons]; unfold PyData.eqvAll; rfl
  | x :: a, y :: b => by
    rw [List.map_cons, List.map_cons]
    unfold PyData.eqvAll
    rw [eqvNN a b, eqvN, Bool.eq_iff_iff]
    simp
/-- a list of lists of numbers that is read -/
structure Sees (K : PySem.W.Frag) (H : Hp) (p : Addr) (rs : List (List Nat)) : Prop where
  ex : ∃ ps : List Addr, SqL K H p (ps.map V.ref) ∧ ps.length = rs.length ∧ ∀ (i : Nat) (q : Addr) (r : List Nat), ps[i]? = some q → rs[i]? = some r → SqL K H q (iv r)
theorem dpAll_rows {K : PySem.W.Frag} {H : Hp} : ∀ (ps : List Addr) (rs : List (List Nat)), ps.length = rs.length → (∀ (i : Nat) (q : Addr) (r : List Nat), ps[i]? = some q → rs[i]? = some r → SqL K H q (iv r)) → DpAll K H (ps.map V.ref) (rs.map dN)
  | [], [], _, _ => .nil
  | [], _ :: _, h, _ => by simp at h
  | _ :: _, [], h, _ => by simp at h
  | p :: ps, r :: rs, h, f => .cons (dp_iv (f 0 p r rfl rfl)) (dpAll_rows ps rs (by simpa using h) fun i q r' h1 h2 => f (i + 1) q r' (by simpa using h1) (by simpa using h2))
theorem Sees.dp {K : PySem.W.Frag} {H : Hp} {p : Addr} {rs : List (List Nat)} (S : Sees K H p rs) : Dp K H (.ref p) (dNN rs) := by
  obtain ⟨ps, h1, h2, h3⟩ := S.ex
  exact .lst h1 (dpAll_rows ps rs h2 h3)
theorem Rows.sees {K : PySem.W.Frag} {H H' : Hp} {p : Addr} {ps : List Addr} {rs : List (List Nat)} (R : Rows H H' ps rs) (hp : H' p = some (.lst (ps.map V.ref))) : Sees K H' p rs :=
  ⟨ps, .of hp, R.len, fun i q r h1 h2 => .of (R.row i q r h1 h2)⟩
theorem Sees.same {K : PySem.W.Frag} {H H' : Hp} {p : Addr} {rs : List (List Nat)} (S : Sees K H p rs) (s : Same H H') : Sees K H' p rs := by
  obtain ⟨ps, h1, h2, h3⟩ := S.ex
  exact ⟨ps, s.seq h1, h2, fun i q r a b => s.seq (h3 i q r a b)⟩
theorem ne_rows {K : PySem.W.Frag} {H : Hp} {a b : Addr} {x y : List (List Nat)} {Q : VK} (ha : Sees K H a x) (hb : Sees K H b y) (q : Q (.bl (!decide (x = y))) H) : rNeD K (.ref a) (.ref b) H Q :=
  ⟨dNN x, dNN y, ha.dp, hb.dp, shapedNN x, shapedNN y, by unfold PyData.eqv; rw [eqvNN]; exact q⟩
theorem eq_rows {K : PySem.W.Frag} {H : Hp} {a b : Addr} {x y : List (List Nat)} {Q : VK} (ha : Sees K H a x) (hb : Sees K H b y) (q : Q (.bl (decide (x = y))) H) : rEqD K (.ref a) (.ref b) H Q :=
  ⟨dNN x, dNN y, ha.dp, hb.dp, shapedNN x, shapedNN y, by unfold PyData.eqv; rw [eqvNN]; exact q⟩
/-! ### slices of any list -/
theorem cut_to (xs : List V) (k : Nat) : cutV xs none (some (k : Int)) = xs.take k := by
  unfold cutV
  rw [HT.sIx_nat, HT.sIx_none, List.drop_zero, Nat.sub_zero]
  by_cases h : k ≤ xs.length
  · rw [Nat.min_eq_left h]
  · rw [Nat.min_eq_right (by omega), List.take_of_length_le (Nat.le_refl _), List.take_of_length_le (by omega)]
theorem cut_m1 (xs : List V) (x : V) : cutV (xs ++ [x]) none (some (-1)) = xs := by
  unfold cutV
  rw [HT.sIx_none, List.drop_zero, Nat.sub_zero]
  have e : HT.sIx (xs ++ [x]).length (xs ++ [x]).length (some (-1)) = xs.length := by
    unfold HT.sIx
    dsimp only
    rw [if_pos (by decide), List.length_append]
    show ((-1 : Int) + ((xs.length + 1 : Nat) : Int)).toNat = xs.length
    omega
  rw [e, List.take_left' rfl]
theorem Good.rev {ns : List Nat} (g : Good ns) : Good ns.reverse := ⟨by
  rw [List.length_reverse]
  exact (List.reverse_perm ns).trans g.perm⟩
theorem rev_iv (ns : List Nat) : (iv ns).reverse = iv ns.reverse := (List.map_reverse ..).symm
end Sb
namespace Sb
open PySem PySem.Spec PyProof.Rows L2
theorem Rows.subset {H H' : Hp} {ps : List Addr} {rs : List (List Nat)} (R : Rows H H' ps rs) {i : Nat} {p : Addr} {r : List Nat} (h1 : ps[i]? = some p) (h2 : rs[i]? = some r) : H' p = some (.lst (iv r)) := R.row i p r h1 h2
section
variable {P : Program} {w : World} {K : PySem.W.Frag} {mg : Str → Option Value} {base : Heap}
/-! ### long_rings -/
def spLong (K : PySem.W.Frag) : Sp := fun vs H Q _ => ∃ (a : Addr) (ns : List Nat) (m : Nat), vs = [.ref a, .int (m : Int)] ∧ SqL K H a (iv ns) ∧ Good ns ∧ ns.length ≤ 100 ∧ NewLL H Q (longOf ns m)
abbrev n_long_rings : List Str := ["boxes", "most", "ring"]
theorem sc_long_rings : FnScope n_long_rings ["boxes", "most"] (defScope s_long_rings) := ⟨rfl, rfl, rfl, by decide +kernel, rfl, by decide +kernel, by decide +kernel⟩
theorem ok_long_rings (T : Tx K mg) : FnOk P w K mg base CX0 3 T.long_rings.f T.long_rings.fd ["boxes", "most"] (spLong K) := by
  refine T.long_rings.F.ok sc_long_rings (fun vs H Q E h => ?_) (fun cdv A outer s H vs Q E hr h => ?_)
  · obtain ⟨a, ns, m, rfl, _⟩ := h
    rfl
  · obtain ⟨a, ns, m, rfl, hS, g, hlen, q⟩ := h
    refine ⟨_, (pss_one (ps_ret (pe_lc (own := [("ring", 2)]) (g := gName 2) rfl sc_long_rings.nd (pi_list (pe_df T.rings_of (ok_rings_of T) (hr.mono (by decide)) (pa_cons (pv 0) pa_nil))) (blkOk_by (own := [("ring", 2)]) (N := n_long_rings) (sc := defScope s_long_rings) (by decide +kernel)) (fun _ _ _ _ _ => (pg_name (i := 2) sc_long_rings.nd rfl (.inl rfl))) (fun _ _ _ _ _ => (pts_one (pt_cmpR op_gt (pe_callB (call_lenK (K := K) rfl) (by rfl) T.m_len PySem.boot_len (pa_cons (pv 2) pa_nil)) (pv 1) (nomark _)))) (fun _ _ _ _ _ => (pv 2))))), ?_⟩
    refine ⟨_, rfl, a, ns, rfl, hS, g, hlen, fun H1 pr ps s1 npr epr R hpr => ⟨pr, rfl, ⟨_, .of epr⟩, fun D nD => ?_⟩⟩
    have nDp : D ∉ ps := fun h => by
      obtain ⟨r, _, e⟩ := R.at h
      rw [nD] at e
      cases e
    have nDH : H D = none := s1.free nD
    have nDr : D ≠ pr := fun e => by rw [e, epr] at nD; cases nD
    refine lc_list (K := K) (a := pr) (xs := ps.map V.ref) (fun i H3 => ∃ qs, H3 D = some (.lst (qs.map V.ref)) ∧ Same H1 H3 ∧ Rows H H3 qs (((ringsOf ns).take i).filter fun r => decide (m < r.length)) ∧ ∀ q ∈ qs, q ∈ ps.take i) ⟨[], upd_same, same_upd nD, Rows.nil, fun q h => by simp at h⟩ (fun i H3 _ h => ?_) (fun i x H3 hx h => ?_) (fun H3 h => ?_)
    · obtain ⟨qs, _, sm, _⟩ := h
      exact .of (sm _ _ epr)
    · obtain ⟨qs, eD, sm, R3, hq⟩ := h
      rw [List.getElem?_map] at hx
      obtain ⟨p, hp, rfl⟩ := Option.map_eq_some_iff.mp hx
      have hi : i < ps.length := (List.getElem?_eq_some_iff.mp hp).1
      have hi2 : i < (ringsOf ns).length := by rw [← R.len]; exact hi
      have er1 := R.row i p _ hp (List.getElem?_eq_getElem hi2)
      have er3 := sm _ _ er1
      have et : (ringsOf ns).take (i + 1) = (ringsOf ns).take i ++ [(ringsOf ns)[i]] := by
        rw [List.take_add_one, List.getElem?_eq_getElem hi2]; rfl
      have ep : ps.take (i + 1) = ps.take i ++ [p] := by
        rw [List.take_add_one, hp]; rfl
      refine ⟨rfl, _, rfl, p, _, rfl, .inl (.of er3), _, rfl, _, _, rfl, rfl, _, rfl, ite2 (fun e => ?_) (fun e => ?_)⟩
      · have hl : m < ((ringsOf ns)[i]).length := by
          have := of_decide_eq_true e
          rw [iv_len] at this
          omega
        refine ⟨_, rfl, _, eD, ?_, ?_⟩
        · rw [List.length_map, R3.len]
          have h1 : ((ringsOf ns).take i |>.filter fun r => decide (m < r.length)).length ≤ ((ringsOf ns).take i).length := List.length_filter_le _ _
          rw [List.length_take] at h1
          have h2 : (ringsOf ns).length ≤ ns.length := ringsTo_len ns ns.length
          exact szl (by omega)
        · have npq : p ∉ qs := fun h => by
            obtain ⟨j, hj⟩ := List.mem_iff_getElem?.mp (hq p h)
            rw [List.getElem?_take] at hj
            by_cases hji : j < i
            · rw [if_pos hji] at hj
              have := nd_ix R.nd hj hp
              omega
            · rw [if_neg hji] at hj
              cases hj
          have npD : D ≠ p := fun z => nDp (by rw [z]; exact List.mem_of_getElem? hp)
          have nDq : D ∉ qs := fun h => nDp (List.mem_of_mem_take (hq D h))
          refine ⟨qs ++ [p], ?_, same_mut sm nD, ?_, fun z hz => ?_⟩
          · rw [upd_same, List.map_append]; rfl
          · rw [et, List.filter_append, List.filter_cons_of_pos (by simpa using hl)]
            refine (R3.snoc er3 (R.new p (List.mem_of_getElem? hp)) npq).upd ?_
            intro h
            rcases List.mem_append.mp h with y | y
            · exact nDq y
            · simp at y; exact npD y
          · rw [ep]
            rcases List.mem_append.mp hz with y | y
            · exact List.mem_append_left _ (hq z y)
            · exact List.mem_append_right _ y
      · have hl : ¬ m < ((ringsOf ns)[i]).length := fun z => e (decide_eq_true (by rw [iv_len]; omega))
        refine ⟨qs, eD, sm, ?_, fun z hz => ?_⟩
        · rw [et, List.filter_append, List.filter_cons_of_neg (by simpa using hl), List.filter_nil, List.append_nil]
          exact R3
        · rw [ep]; exact List.mem_append_left _ (hq z hz)
    · obtain ⟨qs, eD, sm, R3, hq⟩ := h
      rw [List.length_map, R.len, List.take_length] at R3
      refine q H3 D qs (s1.trans sm) nDH eD R3 fun h => nDp ?_
      have := hq D h
      exact List.mem_of_mem_take this
end
end Sb
namespace Sb
open PySem PySem.Spec PyProof.Rows L2
section
variable {P : Program} {w : World} {K : PySem.W.Frag} {mg : Str → Option Value} {base : Heap}
/-! ### check_count: a count is let through -/
def spCount : Sp := fun vs H Q _ => ∃ (n m : Int), vs = [.int n, .int m] ∧ 1 ≤ m ∧ m ≤ n ∧ Q .non H
abbrev n_check_count : List Str := ["boxes", "most"]
theorem sc_check_count : FnScope n_check_count ["boxes", "most"] (defScope s_check_count) := ⟨rfl, rfl, rfl, by decide +kernel, rfl, by decide +kernel, by decide +kernel⟩
theorem ok_check_count (T : Tx K mg) : FnOk P w K mg base CX0 2 T.check_count.f T.check_count.fd ["boxes", "most"] spCount := by
  refine T.check_count.F.ok sc_check_count (fun vs H Q E h => ?_) (fun cdv A outer s H vs Q E hr h => ?_)
  · obtain ⟨n, m, rfl, _⟩ := h
    rfl
  · obtain ⟨n, m, rfl, h1, h2, q⟩ := h
    refine ⟨_, (pss_one (ps_if (PW.pt (pw_or (pt_not (pt_val (pe_df T.is_whole (ok_is_whole T) (hr.mono (by decide)) (pa_cons (pv 1) pa_nil)))) (pw_or1 (pt_not (pt_chain op_le op_le pe_int (pv 1) (pv 0))))))
      (pss_one ps_never)
      pss_nil)), ?_⟩
    refine ⟨_, rfl, .int m, "int", true, false, rfl, .base (.int _), by decide +kernel, by decide +kernel, _, rfl, iteF ?_⟩
    refine ⟨_, rfl, 1, m, rfl, rfl, _, rfl, ?_⟩
    rw [decide_eq_true h1]
    refine iteT ⟨_, rfl, m, n, rfl, rfl, _, rfl, ?_⟩
    rw [decide_eq_true h2]
    exact iteF q
end
end Sb
namespace Sb
open PySem PySem.Spec PyProof.Rows L2
theorem min_of_if (m n : Nat) : (if ((n : Nat) : Int) < (m : Int) then ((n : Nat) : Int) else (m : Int)) = ((min m n : Nat) : Int) := by
  by_cases h : ((n : Nat) : Int) < (m : Int)
  · rw [if_pos h, Nat.min_eq_right (by omega)]
  · rw [if_neg h, Nat.min_eq_left (by omega)]
theorem bits_of {n b : Nat} (h : n < 2 ^ b) : Builtin.Int.intBits ((n : Nat) : Int) ≤ b := PySem.intBits_le_iff.mpr (by rw [Int.natAbs_natCast]; exact h)
theorem bits_small {n : Nat} (h : n ≤ 100000) : Builtin.Int.intBits ((n : Nat) : Int) ≤ 64 := bits_of (Nat.lt_of_le_of_lt h (by decide))
theorem fact_bits {n : Nat} (h : n ≤ 100) : fact n < 2 ^ 600 := Nat.lt_of_le_of_lt (fact_le n 100 h) (by decide +kernel)
theorem gw_bits (T : List Nat) {k : Nat} (hk : k ≤ 100) : ∀ s, s ≤ 100 → (gw T k s).2 < 2 ^ 700 := by
  have h : ∀ s, (gw T k s).2 ≤ 100 ^ s := fun s => by
    induction s with
    | zero => exact Nat.le_refl _
    | succ s ih =>
      rw [gw_succ, Nat.pow_succ]
      exact Nat.mul_le_mul ih (by omega)
  intro s hs
  refine Nat.lt_of_le_of_lt (h s) (Nat.lt_of_le_of_lt (Nat.pow_le_pow_right (by decide) hs) ?_)
  decide +kernel
theorem hm_bits {n m : Nat} (h : n ≤ 100) : hm n m < 2 ^ 600 := Nat.lt_of_le_of_lt (hm_le n m) (fact_bits h)
theorem tbl_get? {n m i : Nat} (h : i ≤ n) : (tbl m n)[i]? = some (hm i m) := by
  have hl : i < (tbl m n).length := by rw [tbl_len]; omega
  rw [← tbl_get h, List.getD_eq_getElem?_getD, List.getElem?_eq_getElem hl]
  rfl
section
variable {P : Program} {w : World} {K : PySem.W.Frag} {mg : Str → Option Value} {base : Heap}
/-! ### check_counts: counts are let through -/
def spCounts : Sp := fun vs H Q _ => ∃ (n m g : Int), vs = [.int n, .int m, .int g] ∧ 1 ≤ n ∧ n ≤ g ∧ 1 ≤ m ∧ m ≤ n ∧ Q .non H
abbrev n_check_counts : List Str := ["boxes", "most", "greatest"]
theorem sc_check_counts : FnScope n_check_counts ["boxes", "most", "greatest"] (defScope s_check_counts) := ⟨rfl, rfl, rfl, by decide +kernel, rfl, by decide +kernel, by decide +kernel⟩
theorem ok_check_counts (T : Tx K mg) : FnOk P w K mg base CX0 3 T.check_counts.f T.check_counts.fd ["boxes", "most", "greatest"] spCounts := by
  refine T.check_counts.F.ok sc_check_counts (fun vs H Q E h => ?_) (fun cdv A outer s H vs Q E hr h => ?_)
  · obtain ⟨n, m, g, rfl, _⟩ := h
    rfl
  · obtain ⟨n, m, g, rfl, h1, h2, h3, h4, q⟩ := h
    refine ⟨_, (pss_cons (ps_if (PW.pt (pw_or (pt_not (pt_val (pe_df T.is_whole (ok_is_whole T) (hr.mono (by decide)) (pa_cons (pv 0) pa_nil)))) (pw_or1 (pt_not (pt_chain op_le op_le pe_int (pv 0) (pv 2))))))
      (pss_one ps_never)
      pss_nil)
    (pss_one (ps_expr (pe_df T.check_count (ok_check_count T) (hr.mono (by decide)) (pa_cons (pv 0) (pa_cons (pv 1) pa_nil)))))), ?_⟩
    refine ⟨_, rfl, .int n, "int", true, false, rfl, .base (.int _), by decide +kernel, by decide +kernel, _, rfl, iteF ?_⟩
    refine ⟨_, rfl, 1, n, rfl, rfl, _, rfl, ?_⟩
    rw [decide_eq_true h1]
    refine iteT ⟨_, rfl, n, g, rfl, rfl, _, rfl, ?_⟩
    rw [decide_eq_true h2]
    exact iteF ⟨_, rfl, _, rfl, n, m, rfl, h3, h4, q⟩
/-! ### how_many -/
def spMany : Sp := fun vs H Q _ => ∃ (n m : Nat), vs = [.int (n : Int), .int (m : Int)] ∧ 1 ≤ n ∧ n ≤ 100 ∧ 1 ≤ m ∧ m ≤ n ∧ ∀ H', Same H H' → Q (.int ((hm n m : Nat) : Int)) H'
abbrev n_how_many : List Str := ["boxes", "most", "found", "many", "gain", "ways", "size"]
theorem sc_how_many : FnScope n_how_many ["boxes", "most"] (defScope s_how_many) := ⟨rfl, rfl, rfl, by decide +kernel, rfl, by decide +kernel, by decide +kernel⟩
theorem ok_how_many (T : Tx K mg) : FnOk P w K mg base CX0 4 T.how_many.f T.how_many.fd ["boxes", "most"] spMany := by
  refine T.how_many.F.ok sc_how_many (fun vs H Q E h => ?_) (fun cdv A outer s H vs Q E hr h => ?_)
  · obtain ⟨n, m, rfl, _⟩ := h
    rfl
  · obtain ⟨n, m, rfl, h1, h2, h3, h4, q⟩ := h
    refine ⟨_, (pss_cons (ps_expr (pe_df T.check_counts (ok_check_counts T) (hr.mono (by decide)) (pa_cons (pv 0) (pa_cons (pv 1) (pa_cons (pe_glob (v := .int 100) rfl T.c_GREATEST ⟨_, rfl⟩) pa_nil)))))
    (pss_cons (ps_set (i := 2) sc_how_many.nd rfl (.inl rfl) (pe_lst (pa_cons pe_int pa_nil)))
    (pss_cons (ps_for PassesOwn.never rfl (pi_range2 (by rfl) T.m_range (pa_cons pe_int (pa_cons (pe_op op_add (pv 0) pe_int) pa_nil))) (pg_name (i := 3) sc_how_many.nd rfl (.inl rfl))
      (pss_cons (ps_asg (pe_tup (pa_cons pe_int (pa_cons pe_int pa_nil))) (pg_tup rfl (pgs_cons (pg_name (i := 4) sc_how_many.nd rfl (.inl rfl)) (pgs_cons (pg_name (i := 5) sc_how_many.nd rfl (.inl rfl)) pgs_nil))))
      (pss_cons (ps_for PassesOwn.never rfl (pi_range2 (by rfl) T.m_range (pa_cons pe_int (pa_cons (pe_op op_add (pe_callB (call_min2 rfl) (by rfl) T.m_min (by decide +kernel) (pa_cons (pv 1) (pa_cons (pv 3) pa_nil))) pe_int) pa_nil))) (pg_name (i := 6) sc_how_many.nd rfl (.inl rfl))
        (pss_cons (ps_set (i := 4) sc_how_many.nd rfl (.inl rfl) (pe_op op_add (pv 4) (pe_op op_mulX (pv 5) (pe_ix ix_list (pv 2) (pe_op op_sub (pv 3) (pv 6)) (fun _ _ => rfl)))))
        (pss_one (ps_set (i := 5) sc_how_many.nd rfl (.inl rfl) (pe_op op_mulX (pv 5) (pe_op op_sub (pv 3) (pv 6)))))))
      (pss_one (ps_expr (pe_bm PySem.F.plainAttrs_list PySem.F.slot_list_append PySem.F.type_list_append mt_append (pv 2) (pa_cons (pv 4) pa_nil)))))))
    (pss_one (ps_ret (pe_ix ix_list (pv 2) (pv 0) (fun _ _ => rfl))))))), ?_⟩
    refine ⟨_, rfl, _, rfl, n, m, 100, rfl, by omega, by omega, by omega, by omega, ?_⟩
    refine ⟨sz (by simp), fun o no => ?_⟩
    refine ⟨_, rfl, n, 1, rfl, rfl, 1, _, rfl, ⟨by omega, by omega, by omega, by omega⟩, ?_⟩
    rw [show ((n : Int) + 1 - 1).toNat = n by omega]
    refine for_range (lo := 1) (n := n) (fun i σ H3 => ∃ w3 w4 w5 w6, σ = [some (.int (n : Int)), some (.int (m : Int)), some (.ref o), w3, w4, w5, w6] ∧ Same H H3 ∧ H3 o = some (.lst (iv (tbl m i)))) ⟨_, _, _, _, rfl, same_upd no, upd_same⟩ (fun i σ H3 hi hP => ?_) (fun σ H3 hP => ?_)
    · obtain ⟨w3, w4, w5, w6, rfl, sm, eo⟩ := hP
      refine ⟨sz (by simp), fun t nt => ⟨t, _, rfl, .of upd_same, rfl, _, _, rfl, _, _, rfl, rfl, ?_⟩⟩
      have st := same_upd (o := .tup [V.int 0, V.int 1]) nt
      refine ⟨_, rfl, _, rfl, _, _, rfl, _, 1, rfl, rfl, 1, _, rfl, ?_⟩
      rw [show (1 : Int) + ((i : Nat) : Int) = ((i + 1 : Nat) : Int) by omega, min_of_if]
      refine ⟨⟨by omega, by omega, by omega, by omega⟩, ?_⟩
      rw [show (((min m (i + 1) : Nat) : Int) + 1 - 1).toNat = min m (i + 1) by omega]
      refine for_range (lo := 1) (n := min m (i + 1)) (fun s σ H4 => ∃ w6, σ = [some (.int (n : Int)), some (.int (m : Int)), some (.ref o), some (.int ((i + 1 : Nat) : Int)), some (.int (((gw (tbl m i) (i + 1) s).1 : Nat) : Int)), some (.int (((gw (tbl m i) (i + 1) s).2 : Nat) : Int)), w6] ∧ Same H H4 ∧ H4 o = some (.lst (iv (tbl m i)))) ⟨_, rfl, sm.trans st, st _ _ eo⟩ (fun s σ H4 hs hP => ?_) (fun σ H4 hP => ?_)
      · obtain ⟨w6, rfl, s4, eo4⟩ := hP
        have ea : atI (iv (tbl m i)) (((i + 1 : Nat) : Int) - (1 + ((s : Nat) : Int))) = some (.int ((hm (i - s) m : Nat) : Int)) := by
          rw [show ((i + 1 : Nat) : Int) - (1 + ((s : Nat) : Int)) = ((i - s : Nat) : Int) by omega]
          exact iv_at (tbl_get? (by omega))
        have b1 : Builtin.Int.intBits (((gw (tbl m i) (i + 1) s).2 : Nat) : Int) ≤ 700 := bits_of (gw_bits _ (by omega) s (by omega))
        have b2 : Builtin.Int.intBits ((hm (i - s) m : Nat) : Int) ≤ 600 := bits_of (hm_bits (by omega))
        have b3 : Builtin.Int.intBits (((i + 1 : Nat) : Int) - (1 + ((s : Nat) : Int))) ≤ 64 := by
          rw [show ((i + 1 : Nat) : Int) - (1 + ((s : Nat) : Int)) = ((i - s : Nat) : Int) by omega]
          exact bits_small (by omega)
        refine ⟨_, rfl, _, rfl, _, rfl, _, rfl, _, rfl, _, _, rfl, rfl, o, _, _, _, rfl, rfl, .of eo4, ea, _, _, rfl, rfl, PySem.IntMulOk.of_le b1 b2 (by decide), _, _, rfl, rfl, ?_⟩
        refine ⟨_, rfl, _, rfl, _, rfl, _, _, rfl, rfl, _, _, rfl, rfl, .of_right b3, ?_⟩
        refine ⟨some (.int (1 + ((s : Nat) : Int))), ?_, s4, eo4⟩
        have e1 : (((gw (tbl m i) (i + 1) (s + 1)).1 : Nat) : Int) = (((gw (tbl m i) (i + 1) s).1 : Nat) : Int) + (((gw (tbl m i) (i + 1) s).2 : Nat) : Int) * ((hm (i - s) m : Nat) : Int) := by
          rw [gw_succ, tbl_get (show i + 1 - (s + 1) ≤ i by omega), show i + 1 - (s + 1) = i - s by omega]
          push_cast
          rfl
        have e2 : (((gw (tbl m i) (i + 1) (s + 1)).2 : Nat) : Int) = (((gw (tbl m i) (i + 1) s).2 : Nat) : Int) * (((i + 1 : Nat) : Int) - (1 + ((s : Nat) : Int))) := by
          rw [gw_succ, show ((i + 1 : Nat) : Int) - (1 + ((s : Nat) : Int)) = ((i + 1 - (s + 1) : Nat) : Int) by omega, ← Int.natCast_mul]
        rw [e1, e2]
        rfl
      · obtain ⟨w6, rfl, s4, eo4⟩ := hP
        refine ⟨_, rfl, .inl ⟨rfl, _, .of eo4⟩, _, rfl, o, _, _, rfl, rfl, eo4, ?_, ?_⟩
        · rw [iv_len, tbl_len]
          exact szl (by omega)
        · refine ⟨_, _, _, _, rfl, same_mut s4 no, ?_⟩
          rw [upd_same, iv_snoc, tbl_succ]
    · obtain ⟨w3, w4, w5, w6, rfl, sm, eo⟩ := hP
      exact ⟨_, rfl, _, rfl, o, _, _, _, rfl, rfl, .of eo, iv_at (tbl_get? (Nat.le_refl _)), q _ sm⟩
end
end Sb
namespace Sb
open PySem PySem.Spec PyProof.Rows L2
/-! ### rules in a comprehension's block: the written part told -/
section
variable {X : Cx} {K : PySem.W.Frag} {e : Expr} {ta : TE} {f : Str} {pos : Pos}
theorem pe_fldK (h : X.K = K) (he : PE X e ta) (hb : attributeBase e f X.env (eval e X.env) = eval e X.env) : PE X (.Attribute e f pos) (tFld K ta f) := by subst h; exact pe_fld he hb
theorem op_in_seqK (h : X.K = K) : OpR X (compareOp .In) (rIn K false) := by subst h; exact op_in_seq
theorem op_notIn_seqK (h : X.K = K) : OpR X (compareOp .NotIn) (rIn K true) := by subst h; exact op_notIn_seq
theorem sl_listK (h : X.K = K) : SlR X (rSlL K) := by subst h; exact sl_list
end
end Sb
namespace Sb
open PySem PySem.Spec PyProof.Rows L2
/-- a new thing at p, its heap named -/
theorem gen_upd {H H' : Hp} {p : Addr} {o : HO} (np : H p = none) (h : upd H p o = H') : Same H H' ∧ H' p = some o := by
  subst h
  exact ⟨same_upd np, upd_same⟩
/-- what stands outside some places stays -/
def Keeps (A : List Addr) (H H' : Hp) : Prop := ∀ b u, b ∉ A → H b = some u → H' b = some u
theorem Keeps.of {A : List Addr} {H H' : Hp} (s : Same H H') : Keeps A H H' := fun b u _ h => s b u h
theorem Keeps.trans {A : List Addr} {H H' H'' : Hp} (s : Keeps A H H') (t : Keeps A H' H'') : Keeps A H H'' := fun b u hb h => t b u hb (s b u hb h)
theorem Keeps.upd {A : List Addr} {H H' : Hp} {p : Addr} {o : HO} (s : Keeps A H H') (h : p ∈ A) : Keeps A H (upd H' p o) := fun b u hb e => by
  rw [upd_ne fun (z : b = p) => hb (by rw [z]; exact h)]
  exact s b u hb e
theorem Keeps.same {A : List Addr} {H0 H H' : Hp} (s : Same H0 H) (k : Keeps A H H') (h : ∀ a ∈ A, H0 a = none) : Same H0 H' := fun b u e => k b u (fun z => by rw [h b z] at e; cases e) (s b u e)
theorem Keeps.seq {K : PySem.W.Frag} {d a : Addr} {H H' : Hp} {kvs : List (List Key × V)} {xs : List V} (s : Keeps [d] H H') (hd : H d = some (.dT kvs)) (h : SqL K H a xs) : SqL K H' a xs := by
  have ne : ∀ {u : HO}, H a = some u → (∀ k, u ≠ .dT k) → H' a = some u := fun {u} e hu => s a u (fun z => by
    have z : a = d := by simpa using z
    rw [z, hd] at e
    exact hu _ (Option.some.inj e).symm) e
  rcases h with (h | ⟨o, h⟩) | h
  · exact .inl (.inl (ne h fun k z => by cases z))
  · exact .inl (.inr ⟨o, ne h fun k z => by cases z⟩)
  · exact .inr h
theorem Keeps.put {d : Addr} {H H' : Hp} {o : HO} (s : Keeps [d] H H') : Keeps [d] H (L2.upd H' d o) := Keeps.upd s List.mem_cons_self
theorem Keeps.at {d a : Addr} {H H' : Hp} {u : HO} (s : Keeps [d] H H') (h : H a = some u) (hn : a ≠ d) : H' a = some u := s a u (by simpa using hn) h
end Sb
namespace Sb
open PySem PySem.Spec PyProof.Rows L2
/-! ### the dict of what is known -/
def ky (l : List Nat) : List Key := l.map fun (n : Nat) => (Sum.inl (n : Int) : Key)
theorem ky_inj {a b : List Nat} (h : ky a = ky b) : a = b := by
  induction a generalizing b with
  | nil => cases b with
    | nil => rfl
    | cons y b => cases h
  | cons x a ih => cases b with
    | nil => cases h
    | cons y b =>
      have h' : (Sum.inl (x : Int) : Key) :: ky a = Sum.inl (y : Int) :: ky b := h
      injection h' with h1 h2
      injection h1 with h3
      rw [ih h2]
      have : x = y := by omega
      rw [this]
theorem ky_kV (l : List Nat) : (ky l).map kV = iv l := by
  unfold ky
  rw [List.map_map]
  rfl
abbrev kn (m : Nat) (ls : List (List Nat)) : List (List Key × V) := ls.map fun l => (ky l, V.int ((cl m l : Nat) : Int))
theorem kn_in {m : Nat} {l : List Nat} : ∀ {ls : List (List Nat)}, l ∈ ls → valV (kn m ls) (ky l) = some (.int ((cl m l : Nat) : Int))
  | [], h => by cases h
  | x :: ls, h => by
    by_cases e : x = l
    · subst e
      exact valV_pos (p := (ky x, V.int ((cl m x : Nat) : Int))) rfl
    · have : valV (kn m (x :: ls)) (ky l) = valV (kn m ls) (ky l) := valV_neg (p := (ky x, V.int ((cl m x : Nat) : Int))) fun z => e (ky_inj z)
      rw [this]
      exact kn_in ((List.mem_cons.mp h).resolve_left fun z => e z.symm)
theorem kn_out {m : Nat} {l : List Nat} : ∀ {ls : List (List Nat)}, l ∉ ls → valV (kn m ls) (ky l) = none
  | [], _ => rfl
  | x :: ls, h => by
    have e : x ≠ l := fun z => h (by rw [z]; exact List.mem_cons_self)
    have : valV (kn m (x :: ls)) (ky l) = valV (kn m ls) (ky l) := valV_neg (p := (ky x, V.int ((cl m x : Nat) : Int))) fun z => e (ky_inj z)
    rw [this]
    exact kn_out fun z => h (List.mem_cons_of_mem _ z)
/-- at d the ways of some lengths, by these -/
structure KL (m : Nat) (H : Hp) (d : Addr) (ls : List (List Nat)) : Prop where
  at_ : H d = some (.dT (kn m ls))
  nd : ls.Nodup
  few : ∀ l ∈ ls, l ∈ cps 8 8
def KN (m : Nat) (H : Hp) (d : Addr) : Prop := ∃ ls, KL m H d ls
theorem KL.same {m : Nat} {H H' : Hp} {d : Addr} {ls : List (List Nat)} (k : KL m H d ls) (s : Same H H') : KL m H' d ls := ⟨s _ _ k.at_, k.nd, k.few⟩
theorem KN.same {m : Nat} {H H' : Hp} {d : Addr} (k : KN m H d) (s : Same H H') : KN m H' d := by
  obtain ⟨ls, k⟩ := k
  exact ⟨ls, k.same s⟩
theorem KN.seq {K : PySem.W.Frag} {m : Nat} {H H' : Hp} {d a : Addr} {xs : List V} (k : KN m H d) (s : Keeps [d] H H') (h : SqL K H a xs) : SqL K H' a xs := by
  obtain ⟨ls, k⟩ := k
  exact s.seq k.at_ h
theorem KN.ne {m : Nat} {H : Hp} {d a : Addr} {u : HO} (k : KN m H d) (h : H a = some u) (hu : ∀ z, u ≠ .dT z) : a ≠ d := fun e => by
  obtain ⟨ls, k⟩ := k
  rw [e, k.at_] at h
  exact hu _ (Option.some.inj h).symm
theorem sum_cast : ∀ l : List Nat, (l.map fun (n : Nat) => (n : Int)).sum = ((l.sum : Nat) : Int)
  | [] => rfl
  | x :: l => by
    rw [List.map_cons, List.sum_cons, List.sum_cons, sum_cast l]
    push_cast
    rfl
theorem bit_of (q i : Nat) : Builtin.bitAnd (((q : Nat) : Int) / 2 ^ ((i : Nat) : Int).toNat) 1 = ((q / 2 ^ i % 2 : Nat) : Int) := by
  rw [PyProof.Rows.bitAnd_m1, Int.toNat_natCast]
  push_cast
  rfl
theorem dec_nat (a b : Nat) : decide (V.int (a : Int) = V.int (b : Int)) = decide (a = b) := by
  rw [Bool.eq_iff_iff, decide_eq_true_iff, decide_eq_true_iff]
  constructor
  · intro h
    injection h with h
    omega
  · intro h; rw [h]
theorem dec_false {p : Prop} [Decidable p] (h : ¬ decide p = true) : ¬ p := fun z => h (decide_eq_true z)
theorem cut_iv_from1 (x : Nat) (l : List Nat) : cutV (iv (x :: l)) (some 1) none = iv l := by
  unfold cutV
  rw [show HT.sIx (iv (x :: l)).length 0 (some 1) = min 1 (iv (x :: l)).length from HT.sIx_nat _ 0 1, HT.sIx_none]
  rw [show min 1 (iv (x :: l)).length = 1 by rw [iv_len, List.length_cons]; omega]
  show List.take _ (iv l) = _
  rw [List.take_of_length_le]
  rw [iv_len, iv_len, List.length_cons]
  omega
section
variable {P : Program} {w : World} {K : PySem.W.Frag} {mg : Str → Option Value} {base : Heap}
/-! ### closed_ways -/
def spClosed (K : PySem.W.Frag) (d : Nat) : Sp := fun vs H Q _ => ∃ (a kd : Addr) (ch : List Nat) (m : Nat), vs = [.ref a, .int (m : Int), .ref kd] ∧ SqL K H a (iv ch) ∧ ch.length < d ∧ ch.length ≤ 8 ∧ (∀ x ∈ ch, 1 ≤ x) ∧ ch.sum ≤ 8 ∧ KN m H kd ∧ ∀ H', Keeps [kd] H H' → KN m H' kd → Q (.int ((cl m ch : Nat) : Int)) H'
abbrev n_closed_ways : List Str := ["chains", "most", "known", "spot", "first", "others", "found", "number", "taken", "turns", "step", "left", "at", "length"]
theorem sc_closed_ways : FnScope n_closed_ways ["chains", "most", "known"] (defScope s_closed_ways) := ⟨rfl, rfl, rfl, by decide +kernel, rfl, by decide +kernel, by decide +kernel⟩
theorem ok_closed_ways (T : Tx K mg) : ∀ d, FnOk P w K mg base CX0 (d + 1) T.closed_ways.f T.closed_ways.fd ["chains", "most", "known"] (spClosed K d) := by
  intro d
  induction d with
  | zero =>
    refine T.closed_ways.F.ok sc_closed_ways (fun vs H Q E h => ?_) (fun cdv A outer s H vs Q E hr h => ?_)
    · obtain ⟨a, kd, ch, m, rfl, _⟩ := h
      rfl
    · obtain ⟨a, kd, ch, m, rfl, _, h, _⟩ := h
      omega
  | succ d ih =>
  refine T.closed_ways.F.ok sc_closed_ways (fun vs H Q E h => ?_) (fun cdv A outer s H vs Q E hr h => ?_)
  · obtain ⟨a, kd, ch, m, rfl, _⟩ := h
    rfl
  · obtain ⟨a, kd, ch, m, rfl, hA, hd, h8, hpos, hsum, hK, q⟩ := h
    refine ⟨_, (pss_cons (ps_if (pt_cmpR (op_eqD hr.units) (pv 0) (pe_lst pa_nil) (nomark _))
      (pss_one (ps_ret pe_int))
      pss_nil)
    (pss_cons (ps_set (i := 3) sc_closed_ways.nd rfl (.inl rfl) (pe_callTy call_tuple_of (by rfl) T.m_tuple (by decide +kernel) (pa_cons (pe_callB cr_sorted (by rfl) T.m_sorted (by decide +kernel) (pa_cons (pv 0) pa_nil)) pa_nil)))
    (C8.pss_cut (ps_if (pt_cmp (pc_dnotin (hu_of hr) (pv 3) (pv 2)))
      (pss_cons (ps_par3 (i := 4) (j := 5) (l := 6) (by rfl) sc_closed_ways.nd rfl rfl rfl (by decide) (by decide) (by decide) rfl rfl rfl (pa_cons (pe_ix ix_tup (pv 3) pe_int (fun _ _ => rfl)) (pa_cons (pe_callTy call_list_of (by rfl) T.m_list (by decide +kernel) (pa_cons (pe_slice sl_tup (pv 3) (po_some pe_int) po_none) pa_nil)) (pa_cons pe_int pa_nil))) (by rfl))
      (pss_cons (ps_for PassesOwn.never rfl (pi_range1 (by rfl) T.m_range (pa_cons (pe_op op_shl pe_int (pe_callB call_len_seq (by rfl) T.m_len (by decide +kernel) (pa_cons (pv 5) pa_nil))) pa_nil)) (pg_name (i := 7) sc_closed_ways.nd rfl (.inr rfl))
        (pss_cons (ps_setLc (i := 8) (own := [("at", 12), ("length", 13)]) (g := gTup K 2 (gCons (gName 12) (gCons (gName 13) gNil))) rfl sc_closed_ways.nd rfl rfl (sw_true rfl rfl rfl (by decide +kernel)) (pi_enum (by rfl) T.m_enumerate (pa_cons (pv 5) pa_nil)) (blkOk_by (own := [("at", 12), ("length", 13)]) (N := n_closed_ways) (sc := defScope s_closed_ways) (by decide +kernel)) (fun _ _ _ _ _ => (pg_tup rfl (pgs_cons (pg_name (i := 12) sc_closed_ways.nd rfl (.inl rfl)) (pgs_cons (pg_name (i := 13) sc_closed_ways.nd rfl (.inl rfl)) pgs_nil)))) (fun _ _ _ _ _ => (pts_one (pt_cmpR op_eq (pe_op op_and (pe_op op_shr (pv 7) (pv 12)) pe_int) pe_int (nomark _)))) (fun _ _ _ _ _ => (pv 13)))
        (pss_one (ps_if (pt_cmpR op_le (pe_op op_add (pv 4) (pe_callB (cr_sum rfl) (by rfl) T.m_sum (by decide +kernel) (pa_cons (pv 8) pa_nil))) (pv 1) (nomark _))
          (pss_cons (ps_set (i := 9) sc_closed_ways.nd rfl (.inl rfl) pe_int)
          (pss_cons (ps_for PassesOwn.never rfl (pi_range2 (by rfl) T.m_range (pa_cons pe_int (pa_cons (pe_op op_add (pe_callB call_len_seq (by rfl) T.m_len (by decide +kernel) (pa_cons (pv 8) pa_nil)) pe_int) pa_nil))) (pg_name (i := 10) sc_closed_ways.nd rfl (.inl rfl))
            (pss_one (ps_set (i := 9) sc_closed_ways.nd rfl (.inl rfl) (pe_op op_mulX (pv 9) (pv 10)))))
          (pss_cons (ps_setLc (i := 11) (own := [("at", 12), ("length", 13)]) (g := gTup K 2 (gCons (gName 12) (gCons (gName 13) gNil))) rfl sc_closed_ways.nd rfl rfl (sw_true rfl rfl rfl (by decide +kernel)) (pi_enum (by rfl) T.m_enumerate (pa_cons (pv 5) pa_nil)) (blkOk_by (own := [("at", 12), ("length", 13)]) (N := n_closed_ways) (sc := defScope s_closed_ways) (by decide +kernel)) (fun _ _ _ _ _ => (pg_tup rfl (pgs_cons (pg_name (i := 12) sc_closed_ways.nd rfl (.inl rfl)) (pgs_cons (pg_name (i := 13) sc_closed_ways.nd rfl (.inl rfl)) pgs_nil)))) (fun _ _ _ _ _ => (pts_one (pt_cmpR op_eq (pe_op op_and (pe_op op_shr (pv 7) (pv 12)) pe_int) pe_int (nomark _)))) (fun _ _ _ _ _ => (pv 13)))
          (pss_one (ps_set (i := 6) sc_closed_ways.nd rfl (.inl rfl) (pe_op op_add (pv 6) (pe_op op_mulX (pv 9) (pe_df T.closed_ways ih hr (pa_cons (pv 11) (pa_cons (pv 1) (pa_cons (pv 2) pa_nil)))))))))))
          pss_nil))))
      (pss_one (ps_dput (hu_of hr) (pv 2) (pv 3) (pv 6) rfl))))
      pss_nil)
    (pss_one (ps_ret (pe_dget (hu_of hr) (pv 2) (pv 3) (fun _ _ => rfl))))))), ?_⟩
    refine ⟨_, rfl, Nat.zero_le _, fun z nz => ?_⟩
    have s1 := same_upd (o := .lst []) nz
    refine eq_iv (x := ch) (y := []) (s1.seq hA) (.of upd_same) ⟨_, rfl, ite2 (fun e => ?_) (fun e => ?_)⟩
    · have e0 : ch = [] := of_decide_eq_true e
      subst e0
      exact q _ (.of s1) (hK.same s1)
    have hne : ch ≠ [] := dec_false e
    have hA1 : SqL K (upd H z (.lst [])) a ((ch.map fun (n : Nat) => (n : Int)).map V.int) := by rw [← iv_eq]; exact s1.seq hA
    refine ⟨_, rfl, a, _, rfl, hA1, by rw [List.length_map]; omega, fun ns' ps pm rise nps => ?_⟩
    obtain ⟨ms, rfl, pm'⟩ := perm_int pm
    rw [← iv_eq]
    have s2 := same_upd (o := .lst (iv ms)) nps
    refine ⟨ps, _, rfl, .inl ⟨.of upd_same, fun t nt => ?_⟩⟩
    have s3 := same_upd (o := .tup (iv ms)) nt
    have et : (upd (upd (upd H z (.lst [])) ps (.lst (iv ms))) t (.tup (iv ms))) t = some (.tup (iv ms)) := upd_same
    have sA : Same H (upd (upd (upd H z (.lst [])) ps (.lst (iv ms))) t (.tup (iv ms))) := (s1.trans s2).trans s3
    generalize upd (upd (upd H z (.lst [])) ps (.lst (iv ms))) t (.tup (iv ms)) = H1 at *
    clear s1 s2 s3 nz nps nt hA1 pm rise
    obtain ⟨ls, kl⟩ := hK.same sA
    have hcl : cl m ms = cl m ch := cl_perm pm'
    have et' : ∀ {H5 : Hp}, H5 t = some (.tup (iv ms)) → H5 t = some (.tup ((ky ms).map kV)) := fun h => by rw [ky_kV]; exact h
    have hmsl : ms.length = ch.length := pm'.length_eq
    have hmss : ms.sum = ch.sum := pm'.sum_nat
    have hmsp : ∀ x ∈ ms, 1 ≤ x := fun x hx => hpos x (pm'.mem_iff.mp hx)
    refine ⟨fun σ' H5 => ∃ w4 w5 w6 w7 w8 w9 w10 w11, σ' = [some (.ref a), some (.int (m : Int)), some (.ref kd), some (.ref t), w4, w5, w6, w7, w8, w9, w10, w11, none, none] ∧ Keeps [kd] H H5 ∧ H5 t = some (.tup (iv ms)) ∧ ∃ ls, KL m H5 kd ls ∧ ms ∈ ls, ?_, ?_⟩
    · by_cases hin : ms ∈ ls
      · refine ⟨_, rfl, _, rfl, kd, _, rfl, DGet.t (k := ky ms) kl.at_ (et' et), _, rfl, ?_⟩
        rw [kn_in hin]
        exact iteF ⟨_, _, _, _, _, _, _, _, rfl, .of sA, et, ls, kl, hin⟩
      refine ⟨_, rfl, _, rfl, kd, _, rfl, DGet.t (k := ky ms) kl.at_ (et' et), _, rfl, ?_⟩
      rw [kn_out hin]
      refine iteT ?_
      obtain ⟨x, l, el⟩ := List.exists_cons_of_ne_nil (show ms ≠ [] from fun e => hne (List.length_eq_zero_iff.mp (by rw [← hmsl, e]; rfl)))
      subst el
      rw [List.length_cons] at hmsl
      rw [List.sum_cons] at hmss
      -- first, others, found
      refine ⟨_, rfl, t, _, 0, _, rfl, rfl, .of et, iv_at (ns := x :: l) (i := 0) rfl, ?_⟩
      refine ⟨_, rfl, 1, rfl, t, _, rfl, .of et, ?_, fun c nc => ?_⟩
      · rintro ⟨h1, _⟩
        rw [show HT.sIx (iv (x :: l)).length 0 (some 1) = min 1 (iv (x :: l)).length from HT.sIx_nat _ 0 1, iv_len, List.length_cons] at h1
        omega
      rw [cut_iv_from1]
      have s4 := same_upd (o := .tup (iv l)) nc
      refine ⟨c, _, rfl, .inr (.of upd_same), fun o no => ⟨_, _, _, rfl, ?_⟩⟩
      have s5 := same_upd (o := .lst (iv l)) no
      have eo : (upd (upd H1 c (.tup (iv l))) o (.lst (iv l))) o = some (.lst (iv l)) := upd_same
      have s15 := s4.trans s5
      generalize upd (upd H1 c (.tup (iv l))) o (.lst (iv l)) = H2 at *
      clear s4 s5 nc no
      -- for number
      have hl7 : l.length ≤ 7 := by omega
      have hN : 2 ^ l.length ≤ 128 := Nat.le_trans (Nat.pow_le_pow_right (by decide) hl7) (by decide)
      refine ⟨_, rfl, o, _, rfl, .inl (.of eo), 1, _, rfl, rfl, ⟨by omega, by rw [iv_len]; omega, by decide⟩, _, rfl, ?_⟩
      rw [iv_len, Int.one_mul, Int.toNat_natCast, show (2 : Int) ^ l.length = ((2 ^ l.length : Nat) : Int) by push_cast; rfl]
      have hN1 : (0 : Int) ≤ ((2 ^ l.length : Nat) : Int) := Int.natCast_nonneg _
      have hN2 : ((2 ^ l.length : Nat) : Int) ≤ 128 := Int.ofNat_le.mpr hN
      refine ⟨Int.le_trans (by decide) hN1, Int.lt_of_le_of_lt hN2 (by decide), ?_⟩
      rw [Int.toNat_natCast]
      refine for_range (lo := 0) (n := 2 ^ l.length) (fun q σ H3 => ∃ w7 w8 w9 w10 w11, σ = [some (.ref a), some (.int (m : Int)), some (.ref kd), some (.ref t), some (.int (x : Int)), some (.ref o), some (.int ((gainTo m x l q : Nat) : Int)), w7, w8, w9, w10, w11, none, none] ∧ Keeps [kd] H H3 ∧ H3 t = some (.tup (iv (x :: l))) ∧ H3 o = some (.lst (iv l)) ∧ KN m H3 kd) ⟨_, _, _, _, _, rfl, .of (sA.trans s15), s15 _ _ et, eo, ls, kl.same s15⟩ (fun q σ H3 hq hP => ?_) (fun σ H3 hP => ?_)
      · obtain ⟨w7, w8, w9, w10, w11, rfl, k3, et3, eo3, hK3⟩ := hP
        rw [Int.zero_add]
        -- taken
        refine ⟨_, rfl, o, _, rfl, .of eo3, fun D nD => ?_⟩
        refine lc_it (walk_enum (K := K) (a := o) (xs := iv l)) (fun j H4 => Same H3 H4 ∧ H4 D = some (.lst (iv (tk (l.take j) q)))) ⟨same_upd nD, upd_same⟩ (fun j H4 _ h => .of (h.1 _ _ eo3)) (fun j v H4 H5 hj h hy => ?_) (fun H4 h => ?_)
        · obtain ⟨s4, eD⟩ := h
          obtain ⟨tt, x1, y1, rfl, ntt, rfl, hx1, hy1⟩ := hy
          dsimp only at hx1 hy1
          cases hx1
          rw [iv_get?] at hy1
          obtain ⟨y, hyy, rfl⟩ := Option.map_eq_some_iff.mp hy1
          have hjl : j < l.length := (List.getElem?_eq_some_iff.mp hyy).1
          have st := same_upd (o := .tup [V.int (j : Nat), V.int (y : Int)]) ntt
          refine ⟨tt, _, rfl, .of upd_same, rfl, _, _, rfl, _, _, rfl, rfl, rfl, ?_⟩
          refine ⟨_, rfl, _, rfl, _, _, rfl, rfl, (by show (0 : Int) ≤ ((j : Nat) : Int); omega), _, 1, rfl, rfl, rfl, _, rfl, ?_⟩
          have eb : decide (V.int (Builtin.bitAnd (((q : Nat) : Int) / 2 ^ ((j : Nat) : Int).toNat) 1) = V.int 1) = decide (q / 2 ^ j % 2 = 1) := by
            rw [bit_of]
            exact dec_nat _ 1
          rw [eb]
          have e1 : l.take (j + 1) = l.take j ++ [y] := by rw [List.take_add_one, hyy]; rfl
          have e2 : tk (l.take (j + 1)) q = tk (l.take j) q ++ (if q / 2 ^ j % 2 = 1 then [y] else []) := by
            rw [e1, tk_snoc, List.length_take, Nat.min_eq_left (by omega)]
          by_cases hb : q / 2 ^ j % 2 = 1
          · rw [decide_eq_true hb]
            refine iteT ⟨_, rfl, _, st _ _ eD, ?_, same_mut (s4.trans st) nD, ?_⟩
            · rw [iv_len]
              have := tk_lf (l.take j) q
              rw [List.length_take] at this
              exact szl (by omega)
            · rw [upd_same, e2, if_pos hb, iv_snoc]
          · rw [decide_eq_false hb]
            refine iteF ⟨s4.trans st, ?_⟩
            rw [e2, if_neg hb, List.append_nil]
            exact st _ _ eD
        obtain ⟨s4, eD⟩ := h
        rw [iv_len, List.take_length] at eD
        have hl := tk_lf l q
        have hs := tk_sum l q
        have k4 : Keeps [kd] H H4 := k3.trans (.of s4)
        have eD' : SqL K H4 D (((tk l q).map fun (n : Nat) => (n : Int)).map V.int) := by rw [← iv_eq]; exact .of eD
        refine ⟨_, rfl, _, rfl, D, _, rfl, eD', _, _, rfl, rfl, _, rfl, _, _, rfl, rfl, _, rfl, ?_⟩
        rw [sum_cast]
        by_cases hle : x + (tk l q).sum ≤ m
        case neg =>
          rw [show decide ((x : Int) + (((tk l q).sum : Nat) : Int) ≤ (m : Int)) = false from decide_eq_false (by omega)]
          refine iteF ⟨some (.int ((q : Nat) : Int)), some (.ref D), w9, w10, w11, ?_, k4, s4 _ _ et3, s4 _ _ eo3, hK3.same s4⟩
          rw [gainTo_succ, if_neg hle, Nat.add_zero]
          rfl
        rw [show decide ((x : Int) + (((tk l q).sum : Nat) : Int) ≤ (m : Int)) = true from decide_eq_true (by omega)]
        refine iteT ?_
        -- turns
        refine ⟨_, rfl, D, _, rfl, .inl (.of eD), _, 1, rfl, rfl, 2, _, rfl, ?_⟩
        rw [iv_len]
        refine ⟨⟨by omega, by omega, by omega, by omega⟩, ?_⟩
        rw [show (((tk l q).length : Int) + 1 - 2).toNat = (tk l q).length - 1 by omega]
        refine for_range (lo := 2) (n := (tk l q).length - 1) (fun i σ H5 => ∃ w10, σ = [some (.ref a), some (.int (m : Int)), some (.ref kd), some (.ref t), some (.int (x : Int)), some (.ref o), some (.int ((gainTo m x l q : Nat) : Int)), some (.int ((q : Nat) : Int)), some (.ref D), some (.int ((fact (i + 1) : Nat) : Int)), w10, w11, none, none] ∧ H5 = H4) ⟨_, rfl, rfl⟩ (fun i σ H5 hi hP => ?_) (fun σ H5 hP => ?_)
        · obtain ⟨w10, rfl, rfl⟩ := hP
          refine ⟨_, rfl, _, rfl, _, _, rfl, rfl, .of_right ?_, some (.int (2 + ((i : Nat) : Int))), ?_, rfl⟩
          · rw [show (2 : Int) + ((i : Nat) : Int) = ((i + 2 : Nat) : Int) by omega]
            exact bits_small (by omega)
          · have e : ((fact (i + 1 + 1) : Nat) : Int) = ((fact (i + 1) : Nat) : Int) * (2 + ((i : Nat) : Int)) := by
              rw [show (2 : Int) + ((i : Nat) : Int) = ((i + 1 + 1 : Nat) : Int) by omega, ← Int.natCast_mul, Nat.mul_comm]
              rfl
            rw [e]
            rfl
        obtain ⟨w10, rfl, rfl⟩ := hP
        have ef : fact ((tk l q).length - 1 + 1) = fact (tk l q).length := by
          by_cases h0 : (tk l q).length = 0
          · rw [h0]; rfl
          · rw [show (tk l q).length - 1 + 1 = (tk l q).length by omega]
        rw [ef]
        -- left
        have eo4 := s4 _ _ eo3
        refine ⟨_, rfl, o, _, rfl, .of eo4, fun D2 nD2 => ?_⟩
        refine lc_it (walk_enum (K := K) (a := o) (xs := iv l)) (fun j H6 => Same H5 H6 ∧ H6 D2 = some (.lst (iv (lf (l.take j) q)))) ⟨same_upd nD2, upd_same⟩ (fun j H6 _ h => .of (h.1 _ _ eo4)) (fun j v H6 H7 hj h hy => ?_) (fun H6 h => ?_)
        · obtain ⟨s6, eD2⟩ := h
          obtain ⟨tt, x1, y1, rfl, ntt, rfl, hx1, hy1⟩ := hy
          dsimp only at hx1 hy1
          cases hx1
          rw [iv_get?] at hy1
          obtain ⟨y, hyy, rfl⟩ := Option.map_eq_some_iff.mp hy1
          have hjl : j < l.length := (List.getElem?_eq_some_iff.mp hyy).1
          have st := same_upd (o := .tup [V.int (j : Nat), V.int (y : Int)]) ntt
          refine ⟨tt, _, rfl, .of upd_same, rfl, _, _, rfl, _, _, rfl, rfl, rfl, ?_⟩
          refine ⟨_, rfl, _, rfl, _, _, rfl, rfl, (by show (0 : Int) ≤ ((j : Nat) : Int); omega), _, 1, rfl, rfl, rfl, _, rfl, ?_⟩
          have eb : decide (V.int (Builtin.bitAnd (((q : Nat) : Int) / 2 ^ ((j : Nat) : Int).toNat) 1) = V.int 0) = decide (q / 2 ^ j % 2 = 0) := by
            rw [bit_of]
            exact dec_nat _ 0
          rw [eb]
          have e1 : l.take (j + 1) = l.take j ++ [y] := by rw [List.take_add_one, hyy]; rfl
          have e2 : lf (l.take (j + 1)) q = lf (l.take j) q ++ (if q / 2 ^ j % 2 = 0 then [y] else []) := by
            rw [e1, lf_snoc, List.length_take, Nat.min_eq_left (by omega)]
          by_cases hb : q / 2 ^ j % 2 = 0
          · rw [decide_eq_true hb]
            refine iteT ⟨_, rfl, _, st _ _ eD2, ?_, same_mut (s6.trans st) nD2, ?_⟩
            · rw [iv_len]
              have := tk_lf (l.take j) q
              rw [List.length_take] at this
              exact szl (by omega)
            · rw [upd_same, e2, if_pos hb, iv_snoc]
          · rw [decide_eq_false hb]
            refine iteF ⟨s6.trans st, ?_⟩
            rw [e2, if_neg hb, List.append_nil]
            exact st _ _ eD2
        obtain ⟨s6, eD2⟩ := h
        rw [iv_len, List.take_length] at eD2
        have s36 := s4.trans s6
        refine ⟨_, rfl, _, rfl, _, rfl, _, rfl, _, rfl, D2, kd, lf l q, m, rfl, .of eD2, by omega, by omega, fun y hy => hmsp y (List.mem_cons_of_mem _ (lf_mem hy)), by omega, hK3.same s36, fun H7 k7 hK7 => ?_⟩
        have b1 : Builtin.Int.intBits ((fact (tk l q).length : Nat) : Int) ≤ 64 := bits_of (Nat.lt_of_le_of_lt (fact_le _ 8 (by omega)) (by decide))
        refine ⟨_, _, rfl, rfl, .of_left b1, _, _, rfl, rfl, ?_⟩
        have hK6 := hK3.same s36
        refine ⟨some (.int ((q : Nat) : Int)), some (.ref D), some (.int ((fact (tk l q).length : Nat) : Int)), w10, some (.ref D2), ?_, (k4.trans (.of s6)).trans k7, k7.at (s36 _ _ et3) (hK6.ne (s36 _ _ et3) fun z e => by cases e), k7.at (s36 _ _ eo3) (hK6.ne (s36 _ _ eo3) fun z e => by cases e), hK7⟩
        have e : ((gainTo m x l (q + 1) : Nat) : Int) = ((gainTo m x l q : Nat) : Int) + ((fact (tk l q).length : Nat) : Int) * ((cl m (lf l q) : Nat) : Int) := by
          rw [gainTo_succ, if_pos hle]
          push_cast
          rfl
        rw [e]
        rfl
      · obtain ⟨w7, w8, w9, w10, w11, rfl, k3, et3, eo3, ls3, kl3⟩ := hP
        rw [gainTo_all]
        have hfew : (x :: l) ∈ cps 8 8 := mem_cps (by rw [List.length_cons]; omega) hmsp (by rw [List.sum_cons]; omega)
        have hlen : (kn m ls3).length < sizeLine := by
          rw [List.length_map]
          have h1 := nodup_sub kl3.nd kl3.few
          have h2 := cps_len
          exact szl (by omega)
        refine ⟨_, rfl, _, rfl, _, rfl, kd, _, rfl, DPut.t (k := ky (x :: l)) kl3.at_ (et' et3) hlen, ?_⟩
        have ntk : t ≠ kd := (show KN m H3 kd from ⟨ls3, kl3⟩).ne et3 fun z e => by cases e
        by_cases hin3 : (x :: l) ∈ ls3
        · have ep : putK (kn m ls3) (ky (x :: l)) (.int ((cl m (x :: l) : Nat) : Int)) = kn m ls3 := by
            unfold putK
            rw [valV_any, kn_in hin3, Option.isSome_some, if_pos rfl]
            conv => rhs; rw [← List.map_id (kn m ls3)]
            apply List.map_congr_left
            intro p hp
            obtain ⟨l', hl', rfl⟩ := List.mem_map.mp hp
            by_cases e : ky l' = ky (x :: l)
            · rw [if_pos e, ← ky_inj e]
              rfl
            · rw [if_neg e]
              rfl
          rw [ep]
          refine ⟨_, _, _, _, _, _, _, _, rfl, k3.put, by rw [upd_ne ntk]; exact et3, ls3, ⟨upd_same, kl3.nd, kl3.few⟩, hin3⟩
        · rw [putK_new _ (kn_out hin3)]
          refine ⟨_, _, _, _, _, _, _, _, rfl, k3.put, by rw [upd_ne ntk]; exact et3, ls3 ++ [x :: l], ⟨?_, ?_, ?_⟩, by simp⟩
          · rw [upd_same]
            show _ = some (HO.dT (List.map _ (ls3 ++ [x :: l])))
            rw [List.map_append]
            rfl
          · rw [List.nodup_append]
            refine ⟨kl3.nd, by simp, fun a ha b hb e => ?_⟩
            simp at hb
            subst hb
            subst e
            exact hin3 ha
          · intro l' hl'
            rcases List.mem_append.mp hl' with h | h
            · exact kl3.few l' h
            · simp at h
              subst h
              exact hfew
    · rintro σ' H5 ⟨w4, w5, w6, w7, w8, w9, w10, w11, rfl, k5, et5, ls5, kl5, hin5⟩
      refine ⟨_, rfl, _, rfl, kd, _, rfl, by rw [← kn_in hin5]; exact DGet.t (k := ky ms) kl5.at_ (et' et5), ?_⟩
      rw [hcl]
      exact q _ k5 ⟨ls5, kl5⟩
end
end Sb
namespace Sb
open PySem PySem.Spec PyProof.Rows L2
theorem take_snoc {l : List Nat} {j x : Nat} (h : l[j]? = some x) : l.take (j + 1) = l.take j ++ [x] := by
  rw [List.take_add_one, h]; rfl
theorem flat_app (ns ms : List Nat) : iv ns ++ iv ms = iv (ns ++ ms) := (List.map_append ..).symm
/-- a box that lies behind no chain lies in a ring -/
theorem Lay.inRing {n : Nat} {p : List Nat} {P : Nat → List Nat} {C : List (List Nat)} (L : Lay n p P C) {b : Nat} (hb : b < n) (h : b ∉ (begins n p).flatMap P) : ∃ c ∈ C, b ∈ c := by
  have := L.all.mem_iff.mpr (List.mem_range.mpr hb)
  rcases List.mem_append.mp this with z | z
  · exact absurd z h
  · obtain ⟨c, hc, hbc⟩ := List.mem_flatten.mp z
    exact ⟨c, hc, hbc⟩
theorem Lay.ringNd {n : Nat} {p : List Nat} {P : Nat → List Nat} {C : List (List Nat)} (L : Lay n p P C) {c : List Nat} (hc : c ∈ C) : c.Nodup ∧ c.length ≤ n ∧ ∀ x ∈ c, x < p.length := by
  have nd := (List.nodup_append.mp L.nodup).2.1
  have h1 := (List.perm_cons_erase hc).flatten.nodup_iff.mp nd
  rw [List.flatten_cons] at h1
  have ndc := (List.nodup_append.mp h1).1
  have lt : ∀ x ∈ c, x < n := fun x hx => List.mem_range.mp (L.all.mem_iff.mp (List.mem_append_right _ (List.mem_flatten.mpr ⟨c, hc, hx⟩)))
  refine ⟨ndc, nodup_le ndc lt, fun x hx => ?_⟩
  obtain ⟨i, hi⟩ := List.mem_iff_getElem?.mp hx
  have R := L.round c hc
  have := R.step i x hi
  rw [List.getElem?_eq_getElem (Nat.mod_lt _ R.pos)] at this
  exact (List.getElem?_eq_some_iff.mp this).1
theorem Lay.flatLen {n : Nat} {p : List Nat} {P : Nat → List Nat} {C : List (List Nat)} (L : Lay n p P C) : ((begins n p).flatMap P).length ≤ n := by
  have := L.all.length_eq
  rw [List.length_append, List.length_range] at this
  omega
theorem flatMap_take_len {P : Nat → List Nat} (bs : List Nat) (j : Nat) : ((bs.take j).flatMap P).length ≤ (bs.flatMap P).length := by
  conv => rhs; rw [← List.take_append_drop j bs, List.flatMap_append, List.length_append]
  omega
theorem flatMap_take_succ {P : Nat → List Nat} {bs : List Nat} {j b : Nat} (h : bs[j]? = some b) : (bs.take (j + 1)).flatMap P = (bs.take j).flatMap P ++ P b := by
  rw [take_snoc h, List.flatMap_append]
  simp
theorem lens_sum (n : Nat) (p : List Nat) (P : Nat → List Nat) : (lens n p P).sum = ((begins n p).flatMap P).length := by
  unfold lens
  rw [List.length_flatMap]
section
variable {P : Program} {w : World} {K : PySem.W.Frag} {mg : Str → Option Value} {base : Heap}
/-! ### ways_behind -/
def spWays (K : PySem.W.Frag) : Sp := fun vs H Q _ => ∃ (a kd : Addr) (p : List Nat) (Pt : Nat → List Nat) (C : List (List Nat)) (n m : Nat), vs = [.ref a, .int (n : Int), .int (m : Int), .ref kd] ∧ SqL K H a (iv p) ∧ Lay n p Pt C ∧ n ≤ 8 ∧ KN m H kd ∧ ∀ H', Keeps [kd] H H' → KN m H' kd → Q (.int ((val n m p Pt C : Nat) : Int)) H'
abbrev n_ways_behind : List Str := ["slips", "boxes", "most", "known", "begins", "lengths", "done", "box", "here", "length"]
theorem sc_ways_behind : FnScope n_ways_behind ["slips", "boxes", "most", "known"] (defScope s_ways_behind) := ⟨rfl, rfl, rfl, by decide +kernel, rfl, by decide +kernel, by decide +kernel⟩
theorem ok_ways_behind (T : Tx K mg) : FnOk P w K mg base CX0 11 T.ways_behind.f T.ways_behind.fd ["slips", "boxes", "most", "known"] (spWays K) := by
  refine T.ways_behind.F.ok sc_ways_behind (fun vs H Q E h => ?_) (fun cdv A outer s H vs Q E hr h => ?_)
  · obtain ⟨a, kd, p, Pt, C, n, m, rfl, _⟩ := h
    rfl
  · obtain ⟨a, kd, p, Pt, C, n, m, rfl, hA, L, hn, hK, q⟩ := h
    refine ⟨_, (pss_cons (ps_setLc (i := 4) (own := [("box", 7)]) (g := gName 7) rfl sc_ways_behind.nd rfl rfl (sw_true rfl rfl rfl (by decide +kernel)) (pi_range1 (by rfl) T.m_range (pa_cons (pv 1) pa_nil)) (blkOk_by (own := [("box", 7)]) (N := n_ways_behind) (sc := defScope s_ways_behind) (by decide +kernel)) (fun _ _ _ _ _ => (pg_name (i := 7) sc_ways_behind.nd rfl (.inl rfl))) (fun _ _ _ _ _ => (pts_one (pt_cmpR (op_notIn_seqK (K := K) rfl) (pv 7) (pv 0) (by rfl)))) (fun _ _ _ _ _ => (pv 7)))
    (pss_cons (ps_set (i := 5) sc_ways_behind.nd rfl (.inl rfl) (pe_lst pa_nil))
    (pss_cons (ps_set (i := 6) sc_ways_behind.nd rfl (.inl rfl) (pe_lst pa_nil))
    (pss_cons (ps_for PassesOwn.never rfl (pi_list (pv 4)) (pg_name (i := 7) sc_ways_behind.nd rfl (.inl rfl))
      (pss_cons (ps_par (i := 8) (j := 9) (by rfl) sc_ways_behind.nd rfl rfl (by decide) rfl rfl (pa_cons (pv 7) (pa_cons pe_int pa_nil)) (by rfl))
      (pss_cons (ps_expr (pe_bm PySem.F.plainAttrs_list PySem.F.slot_list_append PySem.F.type_list_append mt_append (pv 6) (pa_cons (pv 8) pa_nil)))
      (pss_cons (ps_while PassesOwn.never (pt_cmpR op_lt (pv 8) (pe_callB call_len_seq (by rfl) T.m_len (by decide +kernel) (pa_cons (pv 0) pa_nil)) (nomark _))
        (pss_cons (ps_par (i := 8) (j := 9) (by rfl) sc_ways_behind.nd rfl rfl (by decide) rfl rfl (pa_cons (pe_ix ix_list (pv 0) (pv 8) (fun _ _ => rfl)) (pa_cons (pe_op op_add (pv 9) pe_int) pa_nil)) (by rfl))
        (pss_one (ps_expr (pe_bm PySem.F.plainAttrs_list PySem.F.slot_list_append PySem.F.type_list_append mt_append (pv 6) (pa_cons (pv 8) pa_nil))))))
      (pss_one (ps_expr (pe_bm PySem.F.plainAttrs_list PySem.F.slot_list_append PySem.F.type_list_append mt_append (pv 5) (pa_cons (pv 9) pa_nil))))))))
    (pss_cons (ps_for PassesOwn.never rfl (pi_range1 (by rfl) T.m_range (pa_cons (pv 1) pa_nil)) (pg_name (i := 7) sc_ways_behind.nd rfl (.inl rfl))
      (pss_one (ps_if (pt_cmpR op_notIn_seq (pv 7) (pv 6) (by rfl))
        (pss_cons (ps_par (i := 8) (j := 9) (by rfl) sc_ways_behind.nd rfl rfl (by decide) rfl rfl (pa_cons (pe_ix ix_list (pv 0) (pv 7) (fun _ _ => rfl)) (pa_cons pe_int pa_nil)) (by rfl))
        (pss_cons (ps_while PassesOwn.never (pt_cmpR op_ne (pv 8) (pv 7) (nomark _))
          (pss_one (ps_par (i := 8) (j := 9) (by rfl) sc_ways_behind.nd rfl rfl (by decide) rfl rfl (pa_cons (pe_ix ix_list (pv 0) (pv 8) (fun _ _ => rfl)) (pa_cons (pe_op op_add (pv 9) pe_int) pa_nil)) (by rfl))))
        (pss_one (ps_if (pt_cmpR op_gt (pv 9) (pv 2) (nomark _))
          (pss_one (ps_ret pe_int))
          pss_nil))))
        pss_nil)))
    (pss_one (ps_ret (pe_df T.closed_ways (ok_closed_ways T 9) (hr.mono (by decide)) (pa_cons (pv 5) (pa_cons (pv 2) (pa_cons (pv 3) pa_nil))))))))))), ?_⟩
    have hfl := L.flatLen
    -- begins
    refine ⟨_, rfl, n, rfl, by omega, by omega, fun D nD => ?_⟩
    rw [Int.toNat_natCast]
    refine lc_range (lo := 0) (n := n) (fun i H3 => Same H H3 ∧ H3 D = some (.lst (iv ((List.range i).filter fun b => decide (b ∉ p))))) ⟨same_upd nD, upd_same⟩ (fun i H3 hi h => ?_) (fun H3 h => ?_)
    · obtain ⟨sm, eD⟩ := h
      rw [Int.zero_add]
      refine ⟨rfl, _, rfl, _, rfl, a, _, rfl, .inl (sm.seq hA), rfl, flat_iv _, _, rfl, ?_⟩
      rw [if_pos rfl, inV_iv]
      have hlen : ((List.range i).filter fun b => decide (b ∉ p)).length ≤ i := Nat.le_trans (List.length_filter_le _ _) (by rw [List.length_range]; exact Nat.le_refl _)
      by_cases hip : i ∈ p
      · rw [decide_eq_true hip]
        refine iteF ⟨sm, ?_⟩
        rw [List.range_succ, List.filter_append, List.filter_cons_of_neg (by simpa using hip), List.filter_nil, List.append_nil]
        exact eD
      · rw [decide_eq_false hip]
        refine iteT ⟨_, rfl, _, eD, by rw [iv_len]; exact szl (by omega), same_mut sm nD, ?_⟩
        rw [upd_same, List.range_succ, List.filter_append, List.filter_cons_of_pos (by simpa using hip), List.filter_nil, iv_snoc]
    obtain ⟨s3, eD⟩ := h
    have eD : H3 D = some (.lst (iv (begins n p))) := eD
    -- lengths, done
    refine ⟨Nat.zero_le _, fun le nle => ⟨Nat.zero_le _, fun dn ndn => ?_⟩⟩
    have s4 := same_upd (o := .lst []) nle
    have s5 := same_upd (o := .lst []) ndn
    have nld : le ≠ dn := fun e => by rw [← e, upd_same] at ndn; cases ndn
    have nDl : D ≠ le := ne_of_none eD nle
    have nDd : D ≠ dn := ne_of_none (s4 _ _ eD) ndn
    have hle0 := s3.free nle
    have hdn0 := (s3.trans s4).free ndn
    have eD5 := s5 _ _ (s4 _ _ eD)
    refine ⟨_, rfl, D, rfl, ⟨_, .of eD5⟩, ?_⟩
    refine for_list (K := K) (a := D) (xs := iv (begins n p)) (fun j σ H6 => ∃ w7 w8 w9, σ = [some (.ref a), some (.int (n : Int)), some (.int (m : Int)), some (.ref kd), some (.ref D), some (.ref le), some (.ref dn), w7, w8, w9] ∧ Same H H6 ∧ H6 D = some (.lst (iv (begins n p))) ∧ H6 le = some (.lst (iv (((begins n p).take j).map fun b => (Pt b).length))) ∧ H6 dn = some (.lst (iv (((begins n p).take j).flatMap Pt)))) ⟨_, _, _, rfl, (s3.trans s4).trans s5, eD5, s5 _ _ upd_same, upd_same⟩ (fun j σ H6 _ h => ?_) (fun j v σ H6 hv hP => ?_) (fun σ H6 hP => ?_)
    · obtain ⟨_, _, _, _, _, e, _⟩ := h
      exact .of e
    · obtain ⟨w7, w8, w9, rfl, s6, eD6, el6, ed6⟩ := hP
      rw [iv_get?] at hv
      obtain ⟨b, hb, rfl⟩ := Option.map_eq_some_iff.mp hv
      have hbm := List.mem_of_getElem? hb
      have pa := L.path b hbm
      have hpos := pa.pos
      have hj : j < (begins n p).length := (List.getElem?_eq_some_iff.mp hb).1
      have hfs := flatMap_take_succ (P := Pt) hb
      have hfl2 := flatMap_take_len (P := Pt) (begins n p) (j + 1)
      rw [hfs, List.length_append] at hfl2
      refine ⟨_, rfl, _, _, rfl, ?_⟩
      refine ⟨_, rfl, .inl ⟨rfl, _, .of ed6⟩, _, rfl, dn, _, _, rfl, rfl, ed6, by rw [iv_len]; exact szl (by omega), ?_⟩
      rw [iv_snoc]
      -- while here < len(slips)
      refine ⟨fun mm σ H7 => ∃ (t x : Nat), σ = [some (.ref a), some (.int (n : Int)), some (.int (m : Int)), some (.ref kd), some (.ref D), some (.ref le), some (.ref dn), some (.int (b : Int)), some (.int (x : Int)), some (.int ((t + 1 : Nat) : Int))] ∧ Same H H7 ∧ H7 D = some (.lst (iv (begins n p))) ∧ H7 le = some (.lst (iv (((begins n p).take j).map fun b => (Pt b).length))) ∧ (Pt b)[t]? = some x ∧ H7 dn = some (.lst (iv (((begins n p).take j).flatMap Pt ++ (Pt b).take (t + 1)))) ∧ mm = (Pt b).length - t, ⟨_, 0, b, rfl, same_mut s6 hdn0, by rw [upd_ne nDd]; exact eD6, by rw [upd_ne nld]; exact el6, pa.head, ?_, rfl⟩, fun mm σ H7 hW => ?_⟩
      · rw [upd_same, take_snoc pa.head]
        rfl
      obtain ⟨t, x, rfl, s7, eD7, el7, htx, ed7, rfl⟩ := hW
      have ht : t < (Pt b).length := (List.getElem?_eq_some_iff.mp htx).1
      refine ⟨_, rfl, _, rfl, a, _, rfl, .inl (s7.seq hA), _, _, rfl, rfl, _, rfl, ?_⟩
      rw [iv_len]
      by_cases hlast : t + 1 < (Pt b).length
      · have hy := List.getElem?_eq_getElem hlast
        have hpx := pa.step t x _ htx hy
        have hxp := (List.getElem?_eq_some_iff.mp hpx).1
        rw [show decide ((x : Int) < (p.length : Int)) = true from decide_eq_true (by omega)]
        refine iteT ⟨fun σ' H' => ∃ (y : Nat), σ' = [some (.ref a), some (.int (n : Int)), some (.int (m : Int)), some (.ref kd), some (.ref D), some (.ref le), some (.ref dn), some (.int (b : Int)), some (.int (y : Int)), some (.int ((t + 1 + 1 : Nat) : Int))] ∧ Same H H' ∧ H' D = some (.lst (iv (begins n p))) ∧ H' le = some (.lst (iv (((begins n p).take j).map fun b => (Pt b).length))) ∧ (Pt b)[t + 1]? = some y ∧ H' dn = some (.lst (iv (((begins n p).take j).flatMap Pt ++ (Pt b).take (t + 1 + 1)))), fun σ' H' hN => ?_, ?_⟩
        · obtain ⟨y, e1, e2, e3, e4, e5, e6⟩ := hN
          exact ⟨_, by omega, t + 1, y, e1, e2, e3, e4, e5, e6, rfl⟩
        · refine ⟨_, rfl, _, rfl, a, _, _, _, rfl, rfl, s7.seq hA, iv_at hpx, _, rfl, _, 1, rfl, rfl, _, _, rfl, ?_⟩
          refine ⟨_, rfl, .inl ⟨rfl, _, .of ed7⟩, _, rfl, dn, _, _, rfl, rfl, ed7, ?_, ?_⟩
          · rw [iv_len, List.length_append, List.length_take]
            exact szl (by omega)
          · refine ⟨_, by push_cast; rfl, same_mut s7 hdn0, by rw [upd_ne nDd]; exact eD7, by rw [upd_ne nld]; exact el7, hy, ?_⟩
            rw [upd_same, iv_snoc, List.append_assoc, take_snoc hy]
      · have hxl : p.length ≤ x := pa.last x (by rw [show (Pt b).length - 1 = t by omega]; exact htx)
        rw [show decide ((x : Int) < (p.length : Int)) = false from decide_eq_false (by omega)]
        refine iteF ⟨_, rfl, .inl ⟨rfl, _, .of el7⟩, _, rfl, le, _, _, rfl, rfl, el7, ?_, ?_⟩
        · rw [iv_len, List.length_map, List.length_take]
          have := (begins_nd n p)
          have := nodup_le this fun y hy => (mem_begins.mp hy).1
          exact szl (by omega)
        · refine ⟨_, _, _, rfl, same_mut s7 hle0, by rw [upd_ne nDl]; exact eD7, ?_, ?_⟩
          · rw [upd_same, take_snoc hb, List.map_append, show t + 1 = (Pt b).length by omega, iv_snoc]
            rfl
          · rw [upd_ne nld.symm, hfs]
            rw [List.take_of_length_le (l := Pt b) (i := t + 1) (by omega)] at ed7
            exact ed7
    obtain ⟨w7, w8, w9, rfl, s6, eD6, el6, ed6⟩ := hP
    rw [iv_len, List.take_length] at el6 ed6
    clear s3 s4 s5 nD nle ndn
    -- for box in range(boxes)
    refine ⟨_, rfl, n, rfl, by omega, by omega, ?_⟩
    rw [Int.toNat_natCast]
    refine for_range (lo := 0) (n := n) (fun k σ H7 => ∃ w7 w8 w9, σ = [some (.ref a), some (.int (n : Int)), some (.int (m : Int)), some (.ref kd), some (.ref D), some (.ref le), some (.ref dn), w7, w8, w9] ∧ H7 = H6 ∧ ∀ c ∈ C, (∃ x ∈ c, x < k) → c.length ≤ m) ⟨_, _, _, rfl, rfl, fun c _ h => by obtain ⟨x, _, h⟩ := h; omega⟩ (fun k σ H7 hk hP => ?_) (fun σ H7 hP => ?_)
    · obtain ⟨w7, w8, w9, rfl, rfl, hC⟩ := hP
      rw [Int.zero_add]
      refine ⟨_, rfl, _, rfl, dn, _, rfl, .inl (.of ed6), rfl, flat_iv _, _, rfl, ?_⟩
      rw [if_pos rfl, inV_iv]
      by_cases hin : k ∈ (begins n p).flatMap Pt
      · rw [decide_eq_true hin]
        refine iteF ⟨_, _, _, rfl, rfl, fun c hc h => ?_⟩
        obtain ⟨x, hx, hxk⟩ := h
        by_cases e : x = k
        · subst e
          exact absurd rfl ((List.nodup_append.mp L.nodup).2.2 x hin x (List.mem_flatten.mpr ⟨c, hc, hx⟩))
        · exact hC c hc ⟨x, hx, by omega⟩
      rw [decide_eq_false hin]
      refine iteT ?_
      obtain ⟨c, hc, hkc⟩ := L.inRing hk hin
      obtain ⟨ndc, hcn, hcl⟩ := L.ringNd hc
      have R := L.round c hc
      have hcp := R.pos
      obtain ⟨i, hi⟩ := List.mem_iff_getElem?.mp hkc
      have hic : i < c.length := (List.getElem?_eq_some_iff.mp hi).1
      have nx : ∀ (t x : Nat), c[t % c.length]? = some x → p[x]? = c[(t + 1) % c.length]? := fun t x h => by
        have := R.step _ x h
        rw [this]
        congr 1
        rw [Nat.add_mod, Nat.mod_mod, ← Nat.add_mod]
      have h0 : c[i % c.length]? = some k := by rw [Nat.mod_eq_of_lt hic]; exact hi
      have h1 := nx i k h0
      have hm1 := Nat.mod_lt (i + 1) hcp
      rw [List.getElem?_eq_getElem hm1] at h1
      refine ⟨_, rfl, _, rfl, a, _, _, _, rfl, rfl, s6.seq hA, iv_at h1, _, _, rfl, ?_⟩
      -- while here != box
      refine ⟨fun mm σ H8 => ∃ (t x : Nat), σ = [some (.ref a), some (.int (n : Int)), some (.int (m : Int)), some (.ref kd), some (.ref D), some (.ref le), some (.ref dn), some (.int (k : Int)), some (.int (x : Int)), some (.int ((t + 1 : Nat) : Int))] ∧ H8 = H7 ∧ t < c.length ∧ c[(i + 1 + t) % c.length]? = some x ∧ mm = c.length - t, ⟨_, 0, _, rfl, rfl, hcp, List.getElem?_eq_getElem hm1, rfl⟩, fun mm σ H8 hW => ?_⟩
      obtain ⟨t, x, rfl, rfl, ht, hx, rfl⟩ := hW
      refine ⟨_, rfl, _, rfl, rfl, _, rfl, ?_⟩
      rw [dec_nat]
      have hxk : x = k ↔ t + 1 = c.length := by
        constructor
        · intro e
          subst e
          have h2 := nd_ix ndc hx hi
          by_cases h3 : i + 1 + t < c.length
          · rw [Nat.mod_eq_of_lt h3] at h2
            omega
          · have h4 : (i + 1 + t) % c.length = i + 1 + t - c.length := by
              rw [Nat.mod_eq_sub_mod (by omega), Nat.mod_eq_of_lt (by omega)]
            omega
        · intro e
          have h4 : (i + 1 + t) % c.length = i := by
            rw [show i + 1 + t = i + c.length by omega, Nat.add_mod_right, Nat.mod_eq_of_lt hic]
          rw [h4, hi] at hx
          exact (Option.some.inj hx).symm
      by_cases he : x = k
      · rw [decide_eq_true he]
        refine iteF ⟨_, rfl, _, rfl, _, _, rfl, rfl, _, rfl, ?_⟩
        have hl := hxk.mp he
        rw [hl]
        by_cases hm : c.length ≤ m
        · rw [show decide (((c.length : Nat) : Int) > (m : Int)) = false from decide_eq_false (by omega)]
          refine iteF ⟨_, _, _, rfl, rfl, fun c' hc' h => ?_⟩
          obtain ⟨y, hy, hyk⟩ := h
          by_cases e : y < k
          · exact hC c' hc' ⟨y, hy, e⟩
          · have : y = k := by omega
            subst this
            have : c' = c := by
              by_cases z : c' = c
              · exact z
              · have nd := (List.nodup_append.mp L.nodup).2.1
                have h5 := (List.perm_cons_erase hc).flatten.nodup_iff.mp nd
                rw [List.flatten_cons] at h5
                exact absurd rfl ((List.nodup_append.mp h5).2.2 y hkc y (List.mem_flatten.mpr ⟨c', (List.mem_erase_of_ne z).mpr hc', hy⟩))
            subst this
            exact hm
        · rw [show decide (((c.length : Nat) : Int) > (m : Int)) = true from decide_eq_true (by omega)]
          refine iteT ?_
          have := q H8 (.of s6) (hK.same s6)
          unfold val at this
          rw [if_neg fun z => hm (z c hc)] at this
          exact this
      · rw [decide_eq_false he]
        have ht2 : t + 1 < c.length := by
          by_cases z : t + 1 = c.length
          · exact absurd (hxk.mpr z) he
          · omega
        have hp2 := nx _ x hx
        have hm2 := Nat.mod_lt (i + 1 + t + 1) hcp
        rw [List.getElem?_eq_getElem hm2] at hp2
        refine iteT ⟨fun σ' H' => ∃ (y : Nat), σ' = [some (.ref a), some (.int (n : Int)), some (.int (m : Int)), some (.ref kd), some (.ref D), some (.ref le), some (.ref dn), some (.int (k : Int)), some (.int (y : Int)), some (.int ((t + 1 + 1 : Nat) : Int))] ∧ H' = H8 ∧ c[(i + 1 + (t + 1)) % c.length]? = some y, fun σ' H' hN => ?_, ?_⟩
        · obtain ⟨y, e1, e2, e3⟩ := hN
          exact ⟨_, by omega, t + 1, y, e1, e2, ht2, e3, rfl⟩
        · refine ⟨_, rfl, _, rfl, a, _, _, _, rfl, rfl, s6.seq hA, iv_at hp2, _, rfl, _, 1, rfl, rfl, _, _, rfl, ?_⟩
          exact ⟨_, by push_cast; rfl, rfl, List.getElem?_eq_getElem hm2⟩
    · obtain ⟨w7, w8, w9, rfl, rfl, hC⟩ := hP
      have hS : Small C m := fun c hc => by
        have R := L.round c hc
        have hx : c[0]'R.pos ∈ c := List.getElem_mem R.pos
        obtain ⟨_, _, hl⟩ := L.ringNd hc
        have := L.len
        exact hC c hc ⟨_, hx, by have := hl _ hx; omega⟩
      have hll : (lens n p Pt).length ≤ 8 := by
        unfold lens
        rw [List.length_map]
        have := nodup_le (begins_nd n p) fun y hy => (mem_begins.mp hy).1
        omega
      refine ⟨_, rfl, _, rfl, _, rfl, le, kd, lens n p Pt, m, rfl, .of el6, by omega, hll, fun x hx => ?_, by rw [lens_sum]; omega, hK.same s6, fun H8 k8 hK8 => ?_⟩
      · obtain ⟨b, hb, rfl⟩ := List.mem_map.mp hx
        exact (L.path b hb).pos
      · have := q H8 ((Keeps.of s6).trans k8) hK8
        unfold val at this
        rw [if_pos hS] at this
        exact this
end
end Sb
namespace Sb
open PySem PySem.Spec PyProof.Rows L2
theorem snoc_nd {p : List Nat} {s : Nat} (nd : p.Nodup) (h : s ∉ p) : (p ++ [s]).Nodup := by
  rw [List.nodup_append]
  refine ⟨nd, by simp, fun a ha b hb e => ?_⟩
  simp at hb
  subst hb
  exact h (e ▸ ha)
theorem snoc_lt {p : List Nat} {s n : Nat} (lt : ∀ x ∈ p, x < n) (h : s < n) : ∀ x ∈ p ++ [s], x < n := fun x hx => by
  rcases List.mem_append.mp hx with z | z
  · exact lt x z
  · simp at z; omega
section
variable {P : Program} {w : World} {K : PySem.W.Frag} {mg : Str → Option Value} {base : Heap}
/-! ### setting_by -/
def spBy : Sp := fun vs H Q _ => ∃ (n m i : Nat) (x : List Nat), vs = [.int (n : Int), .int (m : Int), .int (i : Int)] ∧ 1 ≤ n ∧ n ≤ 8 ∧ 1 ≤ m ∧ m ≤ n ∧ (wins n m n [])[i]? = some x ∧ NewL H Q x
abbrev n_setting_by : List Str := ["boxes", "most", "number", "found", "known", "box", "slip", "many"]
theorem sc_setting_by : FnScope n_setting_by ["boxes", "most", "number"] (defScope s_setting_by) := ⟨rfl, rfl, rfl, by decide +kernel, rfl, by decide +kernel, by decide +kernel⟩
theorem ok_setting_by (T : Tx K mg) : FnOk P w K mg base CX0 12 T.setting_by.f T.setting_by.fd ["boxes", "most", "number"] spBy := by
  refine T.setting_by.F.ok sc_setting_by (fun vs H Q E h => ?_) (fun cdv A outer s H vs Q E hr h => ?_)
  · obtain ⟨n, m, i, x, rfl, _⟩ := h
    rfl
  · obtain ⟨n, m, i, x, rfl, hn1, hn, hm1, hmn, hx, q⟩ := h
    refine ⟨_, (pss_cons (ps_expr (pe_df T.check_counts (ok_check_counts T) (hr.mono (by decide)) (pa_cons (pv 0) (pa_cons (pv 1) (pa_cons (pe_glob (v := .int 8) rfl T.c_NUMBERED ⟨_, rfl⟩) pa_nil)))))
    (pss_cons (ps_if (PW.pt (pw_or (pt_not (pt_val (pe_df T.is_whole (ok_is_whole T) (hr.mono (by decide)) (pa_cons (pv 2) pa_nil)))) (pw_or1 (pt_not (pt_chain op_le op_lt pe_int (pv 2) (pe_df T.how_many (ok_how_many T) (hr.mono (by decide)) (pa_cons (pv 0) (pa_cons (pv 1) pa_nil))))))))
      (pss_one ps_never)
      pss_nil)
    (pss_cons (ps_par (i := 3) (j := 4) (by rfl) sc_setting_by.nd rfl rfl (by decide) rfl rfl (pa_cons (pe_lst pa_nil) (pa_cons pe_dnewT pa_nil)) (by rfl))
    (pss_cons (ps_for PassesOwn.never rfl (pi_range1 (by rfl) T.m_range (pa_cons (pv 0) pa_nil)) (pg_name (i := 5) sc_setting_by.nd rfl (.inl rfl))
      (pss_one (ps_for PassesOwn.never rfl (pi_range1 (by rfl) T.m_range (pa_cons (pv 0) pa_nil)) (pg_name (i := 6) sc_setting_by.nd rfl (.inl rfl))
        (pss_one (ps_if (PW.pt (pw_and (pt_cmpR op_notIn_seq (pv 6) (pv 3) (by rfl)) (pw_and1 (pt_cmpR op_eq (pe_callB call_len_seq (by rfl) T.m_len (by decide +kernel) (pa_cons (pv 3) pa_nil)) (pv 5) (nomark _)))))
          (pss_cons (ps_set (i := 7) sc_setting_by.nd rfl (.inl rfl) (pe_df T.ways_behind (ok_ways_behind T) (hr.mono (by decide)) (pa_cons (pe_op op_cat (pv 3) (pe_lst (pa_cons (pv 6) pa_nil))) (pa_cons (pv 0) (pa_cons (pv 1) (pa_cons (pv 4) pa_nil))))))
          (pss_one (ps_if (pt_cmpR op_lt (pv 2) (pv 7) (nomark _))
            (pss_one (ps_expr (pe_bm PySem.F.plainAttrs_list PySem.F.slot_list_append PySem.F.type_list_append mt_append (pv 3) (pa_cons (pv 6) pa_nil))))
            (pss_one (ps_set (i := 2) sc_setting_by.nd rfl (.inl rfl) (pe_op op_sub (pv 2) (pv 7)))))))
          pss_nil)))))
    (pss_one (ps_ret (pv 3))))))), ?_⟩
    have hi : i < hm n m := by rw [hm_wins]; exact (List.getElem?_eq_some_iff.mp hx).1
    refine ⟨_, rfl, _, rfl, n, m, 8, rfl, by omega, by omega, by omega, by omega, ?_⟩
    refine ⟨_, rfl, .int i, "int", true, false, rfl, .base (.int _), by decide +kernel, by decide +kernel, _, rfl, iteF ?_⟩
    refine ⟨_, rfl, 0, i, rfl, rfl, _, rfl, ?_⟩
    rw [show decide ((0 : Int) ≤ (i : Int)) = true from decide_eq_true (by omega)]
    refine iteT ⟨_, rfl, _, rfl, n, m, rfl, hn1, by omega, hm1, hmn, fun H1 s1 => ⟨_, _, rfl, rfl, _, rfl, ?_⟩⟩
    rw [show decide ((i : Int) < ((hm n m : Nat) : Int)) = true from decide_eq_true (by omega)]
    refine iteF ?_
    refine ⟨Nat.zero_le _, fun o no => fun d nd => ⟨_, _, rfl, ?_⟩⟩
    have s2 := same_upd (o := .lst []) no
    have s3 := same_upd (o := .dT []) nd
    have s13 := (s1.trans s2).trans s3
    have noH : H o = none := s1.free no
    have ndH : H d = none := (s1.trans s2).free nd
    have nod : o ≠ d := fun e => by rw [← e, upd_same] at nd; cases nd
    have eo3 : (upd (upd H1 o (.lst [])) d (.dT [])) o = some (.lst (iv [])) := by rw [upd_ne nod, upd_same]; rfl
    have kn3 : KN m (upd (upd H1 o (.lst [])) d (.dT [])) d := ⟨[], upd_same, List.nodup_nil, fun l hl => by cases hl⟩
    generalize upd (upd H1 o (.lst [])) d (.dT []) = H2 at *
    clear s2 s3 nd no
    refine ⟨_, rfl, n, rfl, by omega, by omega, ?_⟩
    rw [Int.toNat_natCast]
    refine for_range (lo := 0) (n := n) (fun k σ H3 => ∃ (p : List Nat) (num : Nat) (w5 w6 w7 : Option V), σ = [some (.int (n : Int)), some (.int (m : Int)), some (.int (num : Int)), some (.ref o), some (.ref d), w5, w6, w7] ∧ Same H H3 ∧ H3 o = some (.lst (iv p)) ∧ KN m H3 d ∧ p.length = k ∧ p.Nodup ∧ (∀ y ∈ p, y < n) ∧ (wins n m (n - k) p)[num]? = some x) ⟨[], i, _, _, _, rfl, s13, eo3, kn3, rfl, List.nodup_nil, (fun y hy => by cases hy), hx⟩ (fun k σ H3 hk hP => ?_) (fun σ H3 hP => ?_)
    · obtain ⟨p, num, w5, w6, w7, rfl, sm, eo, hK, hpk, ndp, ltp, hw⟩ := hP
      rw [Int.zero_add]
      have ef : n - k = (n - k - 1) + 1 := by omega
      rw [ef, ← rest_zero] at hw
      refine ⟨_, rfl, n, rfl, by omega, by omega, ?_⟩
      rw [Int.toNat_natCast]
      refine for_range (lo := 0) (n := n) (fun j σ H4 => ∃ (p' : List Nat) (num : Nat) (w6 w7 : Option V), σ = [some (.int (n : Int)), some (.int (m : Int)), some (.int (num : Int)), some (.ref o), some (.ref d), some (.int (k : Int)), w6, w7] ∧ Same H H4 ∧ H4 o = some (.lst (iv p')) ∧ KN m H4 d ∧ p'.Nodup ∧ (∀ y ∈ p', y < n) ∧ ((p' = p ∧ (rest n m (n - k - 1) p j)[num]? = some x) ∨ (p'.length = k + 1 ∧ (wins n m (n - k - 1) p')[num]? = some x))) ⟨p, num, _, _, rfl, sm, eo, hK, ndp, ltp, .inl ⟨rfl, hw⟩⟩ (fun j σ H4 hj hP => ?_) (fun σ H4 hP => ?_)
      · obtain ⟨p', num, w6, w7, rfl, s4, eo4, hK4, nd4, lt4, hcase⟩ := hP
        rw [Int.zero_add]
        have hpl : p'.length ≤ 8 := by
          have := nodup_le nd4 lt4
          omega
        refine ⟨_, rfl, _, rfl, o, _, rfl, .inl (.of eo4), rfl, flat_iv _, _, rfl, ?_⟩
        rw [if_pos rfl, inV_iv]
        rcases hcase with ⟨rfl, hr4⟩ | ⟨hl4, hw4⟩
        · by_cases hjp : j ∈ p'
          · rw [decide_eq_true hjp]
            refine iteF ⟨p', num, _, _, rfl, s4, eo4, hK4, nd4, lt4, .inl ⟨rfl, ?_⟩⟩
            rw [← rest_out hj hjp]
            exact hr4
          rw [decide_eq_false hjp]
          refine iteT ⟨_, rfl, o, _, rfl, .inl (.of eo4), _, rfl, rfl, _, rfl, ?_⟩
          rw [iv_len, dec_nat, decide_eq_true hpk]
          refine iteT ?_
          -- many
          refine ⟨_, rfl, _, rfl, sz (by simp), fun c1 n1 => ?_⟩
          have t1 := same_upd (o := .lst [V.int (j : Int)]) n1
          refine ⟨o, c1, _, _, rfl, rfl, t1 _ _ eo4, upd_same, by rw [iv_len]; exact sz (by simp; omega), fun c2 n2 => ?_⟩
          rw [iv_snoc]
          have t2 := same_upd (o := .lst (iv (p' ++ [j]))) n2
          have e2 : (upd (upd H4 c1 (.lst [V.int (j : Int)])) c2 (.lst (iv (p' ++ [j])))) c2 = some (.lst (iv (p' ++ [j]))) := upd_same
          have t12 := t1.trans t2
          generalize upd (upd H4 c1 (.lst [V.int (j : Int)])) c2 (.lst (iv (p' ++ [j]))) = H5 at *
          have nd5 := snoc_nd nd4 hjp
          have lt5 := snoc_lt lt4 hj
          obtain ⟨Pt, C, L⟩ := lay_of nd5 lt5
          have hval := wins_len (m := m) (f := n - k - 1) L (by rw [List.length_append]; show p'.length + 1 + (n - k - 1) = n; omega)
          refine ⟨_, rfl, _, rfl, _, rfl, c2, d, p' ++ [j], Pt, C, n, m, rfl, .of e2, L, hn, hK4.same t12, fun H6 k6 hK6 => ?_⟩
          rw [← hval]
          have hne : o ≠ d := nod
          have eo6 := k6.at (t12 _ _ eo4) hne
          have s6 : Same H H6 := k6.same (s4.trans t12) fun b hb => by
            have : b = d := by simpa using hb
            rw [this]
            exact ndH
          rw [rest_in hj hjp] at hr4
          refine ⟨_, rfl, _, rfl, _, _, rfl, rfl, _, rfl, ?_⟩
          by_cases hlt : num < (wins n m (n - k - 1) (p' ++ [j])).length
          · rw [show decide ((num : Int) < (((wins n m (n - k - 1) (p' ++ [j])).length : Nat) : Int)) = true from decide_eq_true (by omega)]
            rw [List.getElem?_append_left hlt] at hr4
            refine iteT ⟨_, rfl, .inl ⟨rfl, _, .of eo6⟩, _, rfl, o, _, _, rfl, rfl, eo6, by rw [iv_len]; exact szl (by omega), ?_⟩
            refine ⟨p' ++ [j], num, _, _, rfl, same_mut s6 noH, by rw [upd_same, iv_snoc], ?_, nd5, lt5, .inr ⟨by rw [List.length_append, hpk]; rfl, hr4⟩⟩
            obtain ⟨ls, kl⟩ := hK6
            exact ⟨ls, by rw [upd_ne hne.symm]; exact kl.at_, kl.nd, kl.few⟩
          · rw [show decide ((num : Int) < (((wins n m (n - k - 1) (p' ++ [j])).length : Nat) : Int)) = false from decide_eq_false (by omega)]
            rw [List.getElem?_append_right (by omega)] at hr4
            refine iteF ⟨_, rfl, _, rfl, _, _, rfl, rfl, p', num - (wins n m (n - k - 1) (p' ++ [j])).length, some (.int (j : Int)), some (.int (((wins n m (n - k - 1) (p' ++ [j])).length : Nat) : Int)), ?_, s6, eo6, hK6, nd4, lt4, .inl ⟨rfl, hr4⟩⟩
            rw [show ((num - (wins n m (n - k - 1) (p' ++ [j])).length : Nat) : Int) = (num : Int) - (((wins n m (n - k - 1) (p' ++ [j])).length : Nat) : Int) by omega]
            rfl
        · have skip : ∃ (p'' : List Nat) (num' : Nat) (w6' w7' : Option V), ([some (V.int (n : Int)), some (V.int (m : Int)), some (V.int (num : Int)), some (V.ref o), some (V.ref d), some (V.int (k : Int)), some (V.int (j : Int)), w7] : L2.St) = [some (.int (n : Int)), some (.int (m : Int)), some (.int (num' : Int)), some (.ref o), some (.ref d), some (.int (k : Int)), w6', w7'] ∧ Same H H4 ∧ H4 o = some (.lst (iv p'')) ∧ KN m H4 d ∧ p''.Nodup ∧ (∀ y ∈ p'', y < n) ∧ ((p'' = p ∧ (rest n m (n - k - 1) p (j + 1))[num']? = some x) ∨ (p''.length = k + 1 ∧ (wins n m (n - k - 1) p'')[num']? = some x)) :=
            ⟨p', num, _, _, rfl, s4, eo4, hK4, nd4, lt4, .inr ⟨hl4, hw4⟩⟩
          by_cases hjp : j ∈ p'
          · rw [decide_eq_true hjp]
            exact iteF skip
          · rw [decide_eq_false hjp]
            refine iteT ⟨_, rfl, o, _, rfl, .inl (.of eo4), _, rfl, rfl, _, rfl, ?_⟩
            rw [iv_len, dec_nat, decide_eq_false (by omega)]
            exact iteF skip
      · obtain ⟨p', num, w6, w7, rfl, s4, eo4, hK4, nd4, lt4, hcase⟩ := hP
        rcases hcase with ⟨rfl, hr4⟩ | ⟨hl4, hw4⟩
        · rw [rest_end] at hr4
          simp at hr4
        · exact ⟨p', num, _, _, _, rfl, s4, eo4, hK4, hl4, nd4, lt4, by rw [show n - (k + 1) = n - k - 1 by omega]; exact hw4⟩
    · obtain ⟨p, num, w5, w6, w7, rfl, sm, eo, hK, hpk, ndp, ltp, hw⟩ := hP
      rw [Nat.sub_self] at hw
      have hxp : x = p := by
        unfold wins at hw
        split at hw
        · have h1 := List.mem_of_getElem? hw
          simpa using h1
        · simp at hw
      rw [hxp] at q
      exact ⟨_, rfl, q H3 o sm noH eo⟩
/-! ### number_of -/
def spNum (K : PySem.W.Frag) : Sp := fun vs H Q _ => ∃ (a : Addr) (x : List Nat) (m : Nat), vs = [.ref a, .int (m : Int)] ∧ SqL K H a (iv x) ∧ Good x ∧ 1 ≤ x.length ∧ x.length ≤ 8 ∧ 1 ≤ m ∧ m ≤ x.length ∧ Short x m ∧ ∀ (H' : Hp) (i : Nat), Same H H' → (wins x.length m x.length [])[i]? = some x → Q (.int (i : Int)) H'
abbrev n_number_of : List Str := ["setting", "most", "found", "known", "box", "slip", "less"]
theorem sc_number_of : FnScope n_number_of ["setting", "most"] (defScope s_number_of) := ⟨rfl, rfl, rfl, by decide +kernel, rfl, by decide +kernel, by decide +kernel⟩
theorem ok_number_of (T : Tx K mg) : FnOk P w K mg base CX0 12 T.number_of.f T.number_of.fd ["setting", "most"] (spNum K) := by
  refine T.number_of.F.ok sc_number_of (fun vs H Q E h => ?_) (fun cdv A outer s H vs Q E hr h => ?_)
  · obtain ⟨a, x, m, rfl, _⟩ := h
    rfl
  · obtain ⟨a, x, m, rfl, hA, g, hn1, hn, hm1, hm, hS, q⟩ := h
    obtain ⟨n, en⟩ : ∃ n, n = x.length := ⟨_, rfl⟩
    rw [← en] at q hn1 hn hm
    refine ⟨_, (pss_cons (ps_expr (pe_df T.check_boxes (ok_check_boxes T) (hr.mono (by decide)) (pa_cons (pv 0) (pa_cons (pe_glob (v := .int 8) rfl T.c_NUMBERED ⟨_, rfl⟩) pa_nil))))
    (pss_cons (ps_expr (pe_df T.check_count (ok_check_count T) (hr.mono (by decide)) (pa_cons (pe_callB call_len_seq (by rfl) T.m_len (by decide +kernel) (pa_cons (pv 0) pa_nil)) (pa_cons (pv 1) pa_nil))))
    (pss_cons (ps_if (pt_cmpR (op_neD hr.units) (pe_df T.long_rings (ok_long_rings T) (hr.mono (by decide)) (pa_cons (pv 0) (pa_cons (pv 1) pa_nil))) (pe_lst pa_nil) (nomark _))
      (pss_one ps_never)
      pss_nil)
    (pss_cons (ps_par (i := 2) (j := 3) (by rfl) sc_number_of.nd rfl rfl (by decide) rfl rfl (pa_cons pe_int (pa_cons pe_dnewT pa_nil)) (by rfl))
    (pss_cons (ps_for PassesOwn.never rfl (pi_enum (by rfl) T.m_enumerate (pa_cons (pv 0) pa_nil)) (pg_tup rfl (pgs_cons (pg_name (i := 4) sc_number_of.nd rfl (.inl rfl)) (pgs_cons (pg_name (i := 5) sc_number_of.nd rfl (.inl rfl)) pgs_nil)))
      (pss_one (ps_for PassesOwn.never rfl (pi_range1 (by rfl) T.m_range (pa_cons (pv 5) pa_nil)) (pg_name (i := 6) sc_number_of.nd rfl (.inl rfl))
        (pss_one (ps_if (pt_cmpR op_notIn_seq (pv 6) (pe_slice sl_list (pv 0) po_none (po_some (pv 4))) (by rfl))
          (pss_one (ps_set (i := 2) sc_number_of.nd rfl (.inl rfl) (pe_op op_add (pv 2) (pe_df T.ways_behind (ok_ways_behind T) (hr.mono (by decide)) (pa_cons (pe_op op_cat (pe_slice sl_list (pv 0) po_none (po_some (pv 4))) (pe_lst (pa_cons (pv 6) pa_nil))) (pa_cons (pe_callB call_len_seq (by rfl) T.m_len (by decide +kernel) (pa_cons (pv 0) pa_nil)) (pa_cons (pv 1) (pa_cons (pv 3) pa_nil))))))))
          pss_nil)))))
    (pss_one (ps_ret (pv 2)))))))), ?_⟩
    refine ⟨_, rfl, a, x, 8, rfl, hA, g, by omega, by omega, by omega, fun H1 s1 => ?_⟩
    refine ⟨_, rfl, a, _, rfl, .inl (s1.seq hA), _, rfl, _, m, rfl, by omega, by rw [iv_len]; omega, ?_⟩
    refine ⟨_, rfl, _, rfl, a, x, m, rfl, s1.seq hA, g, by omega, fun H2 p ps s2 np ep R hp => ?_⟩
    refine ⟨Nat.zero_le _, fun z nz => ?_⟩
    have s3 := same_upd (o := .lst []) nz
    refine ne_rows (x := longOf x m) (y := []) ((R.sees ep).same s3) ⟨[], .of upd_same, rfl, fun i q r h _ => by simp at h⟩ ⟨_, rfl, iteNS ((longOf_nil g).mpr hS) ?_⟩
    have s13 := (s1.trans s2).trans s3
    refine fun d nd => ⟨_, _, rfl, ?_⟩
    have s4 := same_upd (o := .dT []) nd
    have ndH : H d = none := s13.free nd
    have s14 := s13.trans s4
    have kn4 : KN m (upd (upd H2 z (.lst [])) d (.dT [])) d := ⟨[], upd_same, List.nodup_nil, fun l hl => by cases hl⟩
    generalize upd (upd H2 z (.lst [])) d (.dT []) = H3 at *
    clear s1 s2 s3 s13 s4 nz nd np ep R hp
    have hxg : ∀ k, k < n → x[k]? = some (nxt x k) := fun k hk => nxt_get? (by omega)
    refine ⟨_, rfl, a, _, rfl, s14.seq hA, ?_⟩
    refine for_it (walk_enum (K := K) (a := a) (xs := iv x)) (fun k σ H4 => ∃ (num : Nat) (w4 w5 w6 : Option V), σ = [some (.ref a), some (.int (m : Int)), some (.int (num : Int)), some (.ref d), w4, w5, w6] ∧ Same H H4 ∧ KN m H4 d ∧ Seg (wins n m n []) num (wins n m (n - k) (x.take k))) ⟨0, _, _, _, rfl, s14, kn4, fun i y hy => by rw [Nat.zero_add]; exact hy⟩ (fun k σ H4 _ h => ?_) (fun k v σ H4 H5 hk hP hy => ?_) (fun σ H4 hP => ?_)
    · obtain ⟨_, _, _, _, _, s4, _⟩ := h
      exact s4.seq hA
    · obtain ⟨num, w4, w5, w6, rfl, s4, hK4, hseg⟩ := hP
      obtain ⟨tt, x1, y1, rfl, ntt, rfl, hx1, hy1⟩ := hy
      dsimp only at hx1 hy1
      cases hx1
      rw [iv_get?] at hy1
      obtain ⟨sl, hsl, rfl⟩ := Option.map_eq_some_iff.mp hy1
      rw [iv_len] at hk
      have hkn : k < n := by omega
      have st := same_upd (o := .tup [V.int (k : Nat), V.int (sl : Int)]) ntt
      have hsln : sl < n := by have := g.lt (List.mem_of_getElem? hsl); omega
      refine ⟨tt, _, rfl, .of upd_same, rfl, _, _, rfl, _, _, rfl, rfl, ?_⟩
      refine ⟨_, rfl, _, rfl, by omega, by omega, ?_⟩
      rw [Int.toNat_natCast]
      have ndt : (x.take k).Nodup := g.nodup.sublist (List.take_sublist k x)
      have ltt : ∀ y ∈ x.take k, y < n := fun y hy => by have := g.lt (List.mem_of_mem_take hy); omega
      have hlt : (x.take k).length = k := by rw [List.length_take]; omega
      have ef : n - k = (n - k - 1) + 1 := by omega
      rw [ef, ← rest_zero] at hseg
      refine for_range (lo := 0) (n := sl) (fun j σ H6 => ∃ (num : Nat) (w6 : Option V), σ = [some (.ref a), some (.int (m : Int)), some (.int (num : Int)), some (.ref d), some (.int (k : Int)), some (.int (sl : Int)), w6] ∧ Same H H6 ∧ KN m H6 d ∧ Seg (wins n m n []) num (rest n m (n - k - 1) (x.take k) j)) ⟨num, _, rfl, s4.trans st, hK4.same st, hseg⟩ (fun j σ H6 hj hP => ?_) (fun σ H6 hP => ?_)
      · obtain ⟨num, w6, rfl, s6, hK6, hseg6⟩ := hP
        rw [Int.zero_add]
        have hjn : j < n := by omega
        refine ⟨_, rfl, _, rfl, _, rfl, _, rfl, a, _, rfl, s6.seq hA, fun c1 n1 => ?_⟩
        rw [cut_to, ← List.map_take]
        have t1 := same_upd (o := .lst (iv (x.take k))) n1
        refine ⟨c1, _, rfl, .inl (.of upd_same), rfl, flat_iv _, _, rfl, ?_⟩
        rw [if_pos rfl, inV_iv]
        by_cases hjp : j ∈ x.take k
        · rw [decide_eq_true hjp]
          refine iteF ⟨num, _, rfl, s6.trans t1, hK6.same t1, ?_⟩
          rw [← rest_out hjn hjp]
          exact hseg6
        rw [decide_eq_false hjp]
        refine iteT ?_
        refine ⟨_, rfl, _, rfl, _, rfl, _, rfl, a, _, rfl, (s6.trans t1).seq hA, fun c2 n2 => ?_⟩
        rw [cut_to, ← List.map_take]
        have t2 := same_upd (o := .lst (iv (x.take k))) n2
        refine ⟨_, rfl, sz (by simp), fun c3 n3 => ?_⟩
        have t3 := same_upd (o := .lst [V.int (j : Int)]) n3
        refine ⟨c2, c3, _, _, rfl, rfl, t3 _ _ upd_same, upd_same, by rw [List.length_map, hlt]; exact sz (by simp; omega), fun c4 n4 => ?_⟩
        have ei : iv (x.take k) ++ [V.int (j : Int)] = iv (x.take k ++ [j]) := iv_snoc _ _
        have ei' : List.map (fun (n : Nat) => V.int (n : Int)) (x.take k) ++ [V.int (j : Int)] = iv (x.take k ++ [j]) := ei
        rw [ei']
        have t4 := same_upd (o := .lst (iv (x.take k ++ [j]))) n4
        have e4 : (upd (upd (upd (upd H6 c1 (.lst (iv (x.take k)))) c2 (.lst (iv (x.take k)))) c3 (.lst [V.int (j : Int)])) c4 (.lst (iv (x.take k ++ [j])))) c4 = some (.lst (iv (x.take k ++ [j]))) := upd_same
        have t14 := ((t1.trans t2).trans t3).trans t4
        generalize upd (upd (upd (upd H6 c1 (.lst (iv (x.take k)))) c2 (.lst (iv (x.take k)))) c3 (.lst [V.int (j : Int)])) c4 (.lst (iv (x.take k ++ [j]))) = H7 at *
        have s67 := s6.trans t14
        have nd5 := snoc_nd ndt hjp
        have lt5 := snoc_lt ltt hjn
        obtain ⟨Pt, C, L⟩ := lay_of nd5 lt5
        have hval := wins_len (m := m) (f := n - k - 1) L (by rw [List.length_append, hlt]; show k + 1 + (n - k - 1) = n; omega)
        refine ⟨_, rfl, a, _, rfl, .inl (s67.seq hA), _, rfl, _, rfl, c4, d, x.take k ++ [j], Pt, C, n, m, by rw [iv_len, ← en]; rfl, .of e4, L, hn, hK6.same t14, fun H8 k8 hK8 => ?_⟩
        rw [← hval]
        have s8 : Same H H8 := k8.same s67 fun b hb => by
          have : b = d := by simpa using hb
          rw [this]
          exact ndH
        rw [rest_in hjn hjp] at hseg6
        refine ⟨_, _, rfl, rfl, num + (wins n m (n - k - 1) (x.take k ++ [j])).length, some (.int (j : Int)), ?_, s8, hK8, hseg6.right⟩
        rw [show ((num + (wins n m (n - k - 1) (x.take k ++ [j])).length : Nat) : Int) = (num : Int) + (((wins n m (n - k - 1) (x.take k ++ [j])).length : Nat) : Int) by omega]
        rfl
      · obtain ⟨num, w6, rfl, s6, hK6, hseg6⟩ := hP
        have hnot : sl ∉ x.take k := fun z => by
          have nd2 := g.nodup
          rw [← List.take_append_drop k x] at nd2
          refine (List.nodup_append.mp nd2).2.2 _ z sl ?_ rfl
          rw [List.mem_iff_getElem?]
          exact ⟨0, by rw [List.getElem?_drop, Nat.add_zero]; exact hsl⟩
        rw [rest_in hsln hnot] at hseg6
        refine ⟨num, _, _, _, rfl, s6, hK6, ?_⟩
        rw [List.take_add_one, hsl, show n - (k + 1) = n - k - 1 by omega]
        exact hseg6.left
    · obtain ⟨num, w4, w5, w6, rfl, s4, hK4, hseg⟩ := hP
      rw [iv_len, ← en, Nat.sub_self, List.take_of_length_le (by omega)] at hseg
      refine ⟨_, rfl, q H4 num s4 ?_⟩
      have h1 : (wins n m 0 x)[0]? = some x := by
        unfold wins
        rw [if_pos (by rw [(longOf_nil g).mpr hS]; rfl)]
        rfl
      have := hseg 0 x h1
      rw [Nat.add_zero] at this
      exact this
end
end Sb
namespace Sb
open PySem PySem.Spec PyProof.Rows L2
abbrev bts (c : Int) : Nat := Builtin.Int.intBits c
theorem bts_small {c : Int} (h1 : -(2 ^ 64) < c) (h2 : c < 2 ^ 64) : bts c ≤ 64 := PySem.intBits_le_64 h1 h2
/-- the script's numbers -/
def Cells (cs : List Int) : Prop := ∀ z ∈ cs, bts z ≤ 1048576
section
variable {P : Program} {w : World} {K : PySem.W.Frag} {mg : Str → Option Value} {base : Heap}
/-! ### _law_cell_at -/
def spCellAt (K : PySem.W.Frag) : Sp := fun vs H Q _ => ∃ (a : Addr) (cs : List Int) (k : Nat), vs = [.ref a, .int (k : Int)] ∧ SqL K H a (cs.map V.int) ∧ Cells cs ∧ ∀ c, bts c ≤ 1048576 → Q (.int c) H
abbrev n_law_cell_at : List Str := ["_law_script", "_law_k"]
theorem sc_law_cell_at : FnScope n_law_cell_at ["_law_script", "_law_k"] (defScope s_law_cell_at) := ⟨rfl, rfl, rfl, by decide +kernel, rfl, by decide +kernel, by decide +kernel⟩
theorem ok_law_cell_at (T : Tx K mg) : FnOk P w K mg base CX0 1 T.law_cell_at.f T.law_cell_at.fd ["_law_script", "_law_k"] (spCellAt K) := by
  refine T.law_cell_at.F.ok sc_law_cell_at (fun vs H Q E h => ?_) (fun cdv A outer s H vs Q E hr h => ?_)
  · obtain ⟨a, cs, k, rfl, _⟩ := h
    rfl
  · obtain ⟨a, cs, k, rfl, hS, hc, q⟩ := h
    refine ⟨_, (pss_cons (ps_if (pt_cmpR op_lt (pv 1) (pe_callB call_len_seq (by rfl) T.m_len (by decide +kernel) (pa_cons (pv 0) pa_nil)) (nomark _))
      (pss_one (ps_ret (pe_ix ix_list (pv 0) (pv 1) (fun _ _ => rfl))))
      pss_nil)
    (pss_one (ps_ret pe_int))), ?_⟩
    refine ⟨_, rfl, .ref a, rfl, a, _, rfl, .inl hS, _, _, rfl, rfl, _, rfl, ite2 (fun e => ?_) (fun e => ?_)⟩
    · have hk : k < cs.length := by
        have := of_decide_eq_true e
        rw [List.length_map] at this
        omega
      refine ⟨.ref a, rfl, _, rfl, a, _, _, .int cs[k], rfl, rfl, hS, atI_nat ?_, q _ (hc _ (List.getElem_mem hk))⟩
      rw [List.getElem?_map, List.getElem?_eq_getElem hk]; rfl
    · exact q 0 (by decide)
/-! ### _law_draw -/
def prs : List Int := [1000003, 1000033, 1000037, 1000039, 1000081, 1000099, 1000117, 1000121, 1000133, 1000151, 1000159, 1000171, 1000183, 1000187, 1000193, 1000199]
def spDraw : Sp := fun vs H Q _ => ∃ (c m : Int) (k : Nat), vs = [.int c, .int (k : Int), .int m] ∧ k ≤ 1000000 ∧ 0 < m ∧ ∀ H' d, Same H H' → 0 ≤ d → d < m → Q (.int d) H'
abbrev n_law_draw : List Str := ["_law_cell", "_law_k", "_law_many", "_law_primes"]
theorem sc_law_draw : FnScope n_law_draw ["_law_cell", "_law_k", "_law_many"] (defScope s_law_draw) := ⟨rfl, rfl, rfl, by decide +kernel, rfl, by decide +kernel, by decide +kernel⟩
theorem ok_law_draw (T : Tx K mg) : FnOk P w K mg base CX0 1 T.law_draw.f T.law_draw.fd ["_law_cell", "_law_k", "_law_many"] spDraw := by
  refine T.law_draw.F.ok sc_law_draw (fun vs H Q E h => ?_) (fun cdv A outer s H vs Q E hr h => ?_)
  · obtain ⟨c, m, k, rfl, _⟩ := h
    rfl
  · obtain ⟨c, m, k, rfl, hk, hm, q⟩ := h
    refine ⟨_, (pss_cons (ps_set (i := 3) sc_law_draw.nd rfl (.inl rfl) (pe_tup (pa_cons pe_int (pa_cons pe_int (pa_cons pe_int (pa_cons pe_int (pa_cons pe_int (pa_cons pe_int (pa_cons pe_int (pa_cons pe_int (pa_cons pe_int (pa_cons pe_int (pa_cons pe_int (pa_cons pe_int (pa_cons pe_int (pa_cons pe_int (pa_cons pe_int (pa_cons pe_int pa_nil))))))))))))))))))
    (pss_one (ps_ret (pe_op op_mod (pe_op op_mod (pe_op op_add (pe_op op_mulX (pv 0) pe_int) (pe_op op_mulX (pv 1) pe_int)) (pe_ix ix_tup (pv 3) (pe_op op_mod (pv 1) pe_int) (fun _ _ => rfl))) (pv 2))))), ?_⟩
    refine ⟨sz (by decide), fun t nt => ?_⟩
    have hj : ((k : Int) % 16).toNat < prs.length := by
      show _ < 16
      omega
    have ej : ((((k : Int) % 16).toNat : Nat) : Int) = (k : Int) % 16 := by omega
    have ha : atI (prs.map V.int) ((k : Int) % 16) = some (.int prs[((k : Int) % 16).toNat]) := at_of ej.symm (by
      rw [List.getElem?_map, List.getElem?_eq_getElem hj]; rfl)
    have hp : 0 < prs[((k : Int) % 16).toNat] := by
      have all : ∀ p ∈ prs, (0 : Int) < p := by decide
      exact all _ (List.getElem_mem hj)
    refine ⟨_, rfl, c, 48271, rfl, rfl, .of_right (bts_small (by decide) (by decide)), _, rfl, k, 69621, rfl, rfl, .of_right (bts_small (by decide) (by decide)), _, _, rfl, rfl, ?_⟩
    refine ⟨.ref t, rfl, _, rfl, k, 16, rfl, rfl, (by show (0 : Int) < 16; decide), t, prs.map V.int, _, _, rfl, rfl, .of upd_same, ha, ?_⟩
    refine ⟨_, _, rfl, rfl, hp, _, rfl, _, m, rfl, rfl, hm, ?_⟩
    exact q _ _ (same_upd nt) (Int.emod_nonneg _ (by omega)) (Int.emod_lt_of_pos _ hm)
/-! ### _law_value: some number from 0 on -/
def spValue : Sp := fun vs H Q _ => ∃ (c : Int) (t : Nat), vs = [.int c, .int (t : Int)] ∧ bts c ≤ 1048576 ∧ t ≤ 100000 ∧ ∀ H' v, Same H H' → 0 ≤ v → Q (.int v) H'
abbrev n_law_value : List Str := ["_law_cell", "_law_turn", "_law_mixed"]
theorem sc_law_value : FnScope n_law_value ["_law_cell", "_law_turn"] (defScope s_law_value) := ⟨rfl, rfl, rfl, by decide +kernel, rfl, by decide +kernel, by decide +kernel⟩
theorem ok_law_value (T : Tx K mg) : FnOk P w K mg base CX0 2 T.law_value.f T.law_value.fd ["_law_cell", "_law_turn"] spValue := by
  refine T.law_value.F.ok sc_law_value (fun vs H Q E h => ?_) (fun cdv A outer s H vs Q E hr h => ?_)
  · obtain ⟨c, t, rfl, _⟩ := h
    rfl
  · obtain ⟨c, t, rfl, hc, ht, q⟩ := h
    refine ⟨_, (pss_cons (ps_if (pt_cmpR op_ge (pv 0) (pe_op op_pow pe_int pe_int) (nomark _))
      (pss_one (ps_ret (pe_op op_shr (pe_op op_sub (pv 0) (pe_op op_pow pe_int pe_int)) (pe_op op_mulX pe_int (pv 1)))))
      pss_nil)
    (pss_cons (ps_set (i := 2) sc_law_value.nd rfl (.inl rfl) (pe_df T.law_draw (ok_law_draw T) (hr.mono (by decide)) (pa_cons (pe_op op_mulX (pe_op op_add (pv 0) (pe_op op_mulX pe_int (pv 1))) (pe_op op_add (pe_op op_add (pv 0) (pe_op op_mulX pe_int (pv 1))) pe_int)) (pa_cons (pe_op op_add (pe_op op_mod (pv 1) pe_int) pe_int) (pa_cons pe_int pa_nil)))))
    (pss_one (ps_ret (pe_op op_add (pe_op op_mulX (pv 2) pe_int) (pe_df T.law_draw (ok_law_draw T) (hr.mono (by decide)) (pa_cons (pe_op op_add (pe_op op_mulX (pe_op op_add (pv 0) (pe_op op_mulX pe_int (pv 1))) (pe_op op_add (pv 0) pe_int)) (pe_op op_mulX pe_int (pv 1))) (pa_cons (pe_op op_add (pe_op op_mod (pv 1) pe_int) pe_int) (pa_cons pe_int pa_nil))))))))), ?_⟩
    refine ⟨_, rfl, 10, 18, rfl, rfl, ⟨by decide, by decide, by decide⟩, c, _, rfl, rfl, _, rfl, ite2 (fun e => ?_) (fun e => ?_)⟩
    · have hc1 : (10 : Int) ^ (18 : Int).toNat ≤ c := of_decide_eq_true e
      refine ⟨_, rfl, 10, 18, rfl, rfl, ⟨by decide, by decide, by decide⟩, c, _, rfl, rfl, _, rfl, 3, t, rfl, rfl, .of_left (bts_small (by decide) (by decide)), _, _, rfl, rfl, by omega, ?_⟩
      refine q _ _ (Same.refl H) (Int.ediv_nonneg (by omega) ?_)
      exact Int.le_of_lt (Int.pow_pos (by decide))
    · have bt : ∀ x : Int, 0 ≤ x → x ≤ 100000000 → bts (c + x) ≤ 1048577 := fun x h1 h2 =>
        PySem.intBits_add_le (m := 1048576) (n := 64) hc (bts_small (by omega) (by omega))
      have t64 : IntMulOk (977 : Int) (t : Int) := .of_left (bts_small (by decide) (by decide))
      have t31 : IntMulOk (31 : Int) (t : Int) := .of_left (bts_small (by decide) (by decide))
      refine ⟨_, rfl, _, rfl, 977, t, rfl, rfl, t64, c, _, rfl, rfl, _, rfl, _, rfl, 31, t, rfl, rfl, t31, c, _, rfl, rfl, _, 5, rfl, rfl, _, _, rfl, rfl, ?_, ?_⟩
      · refine PySem.IntMulOk.of_le (m := 1048577) (n := 1048577) (bt _ (by omega) (by omega)) ?_ (by decide)
        rw [Int.add_assoc]
        exact bt _ (by omega) (by omega)
      refine ⟨_, rfl, t, 9, rfl, rfl, (by show (0 : Int) < 9; decide), _, 1, rfl, rfl, ?_⟩
      refine ⟨_, 999983, ((t : Int) % 9 + 1).toNat, by rw [Int.toNat_of_nonneg (by omega)]; rfl, by omega, by decide, fun H1 d s1 h0 h1 => ?_⟩
      refine ⟨_, rfl, d, 1000003, rfl, rfl, .of_right (bts_small (by decide) (by decide)), _, rfl, _, rfl, 31, t, rfl, rfl, t31, c, _, rfl, rfl, _, rfl, c, 7, rfl, rfl, _, _, rfl, rfl, ?_, ?_⟩
      · exact PySem.IntMulOk.of_le (m := 1048577) (n := 1048577) (bt _ (by omega) (by omega)) (bt _ (by omega) (by omega)) (by decide)
      refine ⟨_, rfl, 977, t, rfl, rfl, t64, _, _, rfl, rfl, _, rfl, t, 7, rfl, rfl, (by show (0 : Int) < 7; decide), _, 2, rfl, rfl, ?_⟩
      refine ⟨_, 1000003, ((t : Int) % 7 + 2).toNat, by rw [Int.toNat_of_nonneg (by omega)]; rfl, by omega, by decide, fun H2 d2 s2 h2 h3 => ?_⟩
      exact ⟨_, _, rfl, rfl, q _ _ (s1.trans s2) (by omega)⟩
end
end Sb
namespace Sb
open PySem PySem.Spec PyProof.Rows L2
/-- range(0, m, s), s from 1 on -/
theorem rgC_pos {m s : Nat} (h1 : 1 ≤ m) (hm : m ≤ 100000) (h2 : 1 ≤ s) (hs : s ≤ 100000) : RgC 0 (m : Int) (s : Int) ((m - 1) / s + 1) := by
  have e : Builtin.Range.rangeSize 0 (m : Int) (s : Int) = (((m - 1) / s + 1 : Nat) : Int) := by
    unfold Builtin.Range.rangeSize
    rw [if_pos (by omega), if_pos (by omega), show (m : Int) - 0 - 1 = ((m - 1 : Nat) : Int) by omega]
    push_cast
    rfl
  have hd : (m - 1) / s ≤ m - 1 := Nat.div_le_self _ _
  have hmul : (m - 1) / s * s ≤ m - 1 := Nat.div_mul_le_self _ _
  refine ⟨by omega, by omega, ?_, e⟩
  unfold Builtin.Range.small
  rw [e]
  rw [if_pos (show (s : Int) > 0 by omega)]
  have f : ∀ x : Int, -1000000 ≤ x → x ≤ 1000000 → Builtin.Range.rangeFitsLong x = true := fun x h1 h2 => by
    simp only [Builtin.Range.rangeFitsLong, Bool.and_eq_true, decide_eq_true_eq]
    omega
  have hc : (((m - 1) / s + 1 : Nat) : Int) ≤ 1000000 := by omega
  have hc0 : -1000000 ≤ (((m - 1) / s + 1 : Nat) : Int) := Int.le_trans (by decide) (Int.natCast_nonneg _)
  rw [f 0 (by omega) (by omega), f m (by omega) (by omega), f s (by omega) (by omega), f _ hc0 hc, f _ (by omega) (by omega), Bool.or_true]
  rfl
/-- a slice of numbers -/
theorem cut_iv (ns : List Nat) (b s : Nat) : cutV (iv ns) (some (b : Int)) (some ((b : Int) + (s : Int))) = iv ((ns.drop b).take s) := by
  unfold cutV
  rw [show (b : Int) + (s : Int) = ((b + s : Nat) : Int) by omega, HT.sIx_nat, HT.sIx_nat, iv_len]
  show List.take _ (List.drop _ (List.map _ ns)) = List.map _ _
  rw [← List.map_drop, ← List.map_take]
  congr 1
  by_cases hb : b ≤ ns.length
  · rw [Nat.min_eq_left hb]
    by_cases hs : b + s ≤ ns.length
    · rw [Nat.min_eq_left hs, show b + s - b = s by omega]
    · rw [Nat.min_eq_right (by omega), List.take_of_length_le (by rw [List.length_drop]; omega), List.take_of_length_le (by rw [List.length_drop]; omega)]
  · rw [Nat.min_eq_right (show ns.length ≤ b by omega), List.drop_of_length_le (Nat.le_refl _), List.drop_of_length_le (by omega)]
    simp
theorem cut_iv1 (ns : List Nat) : cutV (iv ns) (some 1) none = iv (ns.drop 1) := by
  unfold cutV
  rw [show HT.sIx (iv ns).length 0 (some 1) = min 1 (iv ns).length from HT.sIx_nat _ 0 1, HT.sIx_none, iv_len]
  show List.take _ (List.drop _ (List.map _ ns)) = List.map _ _
  rw [← List.map_drop, ← List.map_take]
  congr 1
  cases ns with
  | nil => rfl
  | cons x r =>
    rw [show min 1 (x :: r).length = 1 by rw [List.length_cons]; omega]
    rw [List.take_of_length_le]
    rw [List.length_drop]
    exact Nat.le_refl _
theorem cut_iv0 (ns : List Nat) (k : Nat) : cutV (iv ns) none (some (k : Int)) = iv (ns.take k) := by
  unfold cutV
  rw [HT.sIx_nat, HT.sIx_none, iv_len, List.drop_zero, Nat.sub_zero]
  show List.take _ (List.map _ ns) = List.map _ _
  rw [← List.map_take]
  congr 1
  by_cases h : k ≤ ns.length
  · rw [Nat.min_eq_left h]
  · rw [Nat.min_eq_right (by omega), List.take_of_length_le (Nat.le_refl _), List.take_of_length_le (by omega)]
theorem iv_append (a b : List Nat) : iv a ++ iv b = iv (a ++ b) := (List.map_append ..).symm
theorem iv_set (ns : List Nat) (i x : Nat) : (iv ns).set i (.int (x : Int)) = iv (ns.set i x) := (List.map_set ..).symm
theorem rep_iv (m : Nat) : (List.replicate (m : Int).toNat [V.int 0]).flatten = iv (List.replicate m 0) := by
  rw [Int.toNat_natCast]
  show _ = List.map _ _
  rw [List.map_replicate]
  induction m with
  | zero => rfl
  | succ m ih => rw [List.replicate_succ, List.replicate_succ, List.flatten_cons, ih]; rfl
theorem zip_get? {r q : List Nat} (i : Nat) {x y : Nat} (hx : r[i]? = some x) (hy : q[i]? = some y) : (r.zip q)[i]? = some (x, y) := by
  rw [List.getElem?_zip_eq_some]; exact ⟨hx, hy⟩
end Sb
namespace Sb
open PySem PySem.Spec PyProof.Rows L2
section
variable {P : Program} {w : World} {K : PySem.W.Frag} {mg : Str → Option Value} {base : Heap}
/-! ### _law_ring: the same list by other steps -/
abbrev n_law_ring : List Str := ["_law_boxes", "_law_hand", "_law_found", "_law_here"]
theorem sc_law_ring : FnScope n_law_ring ["_law_boxes", "_law_hand"] (defScope s_law_ring) := ⟨rfl, rfl, rfl, by decide +kernel, rfl, by decide +kernel, by decide +kernel⟩
theorem ok_law_ring (T : Tx K mg) : FnOk P w K mg base CX0 1 T.law_ring.f T.law_ring.fd ["_law_boxes", "_law_hand"] (spRing K) := by
  refine T.law_ring.F.ok sc_law_ring (fun vs H Q E h => ?_) (fun cdv A outer s H vs Q E hr h => ?_)
  · obtain ⟨a, ns, h, rfl, _⟩ := h
    rfl
  · obtain ⟨a, ns, h, rfl, hS, g, hh, hlen, q⟩ := h
    refine ⟨_, (pss_cons (ps_par (i := 2) (j := 3) (by rfl) sc_law_ring.nd rfl rfl (by decide) rfl rfl (pa_cons (pe_lst pa_nil) (pa_cons (pv 1) pa_nil)) (by rfl))
    (pss_cons (ps_while PassesOwn.never (pt_cmpR op_notIn_seq (pv 3) (pv 2) (by rfl))
      (pss_cons (ps_expr (pe_bm PySem.F.plainAttrs_list PySem.F.slot_list_append PySem.F.type_list_append mt_append (pv 2) (pa_cons (pv 3) pa_nil)))
      (pss_one (ps_set (i := 3) sc_law_ring.nd rfl (.inl rfl) (pe_ix ix_list (pv 0) (pv 3) (fun _ _ => rfl))))))
    (pss_one (ps_ret (pv 2))))), ?_⟩
    refine ⟨Nat.zero_le _, fun o no => ⟨.int h, rfl, _, _, rfl, ?_⟩⟩
    refine ⟨fun m σ H3 => ∃ (r : List Nat) (y : Nat), σ = [some (.ref a), some (.int (h : Int)), some (.ref o), some (.int (y : Int))] ∧ Same H H3 ∧ H3 o = some (.lst (iv r)) ∧ ((r = [] ∧ y = h) ∨ (Chain ns h r ∧ ∃ x, r[r.length - 1]? = some x ∧ y = nxt ns x)) ∧ m = ns.length - r.length,
      ⟨_, [], h, rfl, same_upd no, upd_same, .inl ⟨rfl, rfl⟩, rfl⟩, fun m σ H3 hW => ?_⟩
    obtain ⟨r, y, rfl, sm, eo, c, rfl⟩ := hW
    have hA : SqL K H3 a (iv ns) := sm.seq hS
    have hO : SqL K H3 o (iv r) := .of eo
    refine ⟨_, rfl, _, rfl, o, _, rfl, .inl hO, rfl, flat_iv _, _, rfl, ?_⟩
    rw [if_pos rfl, inV_iv]
    have hy : y < ns.length := by
      rcases c with ⟨_, rfl⟩ | ⟨c, x, hx, rfl⟩
      · exact hh
      · exact g.nxt_lt (c.lt x (List.mem_of_getElem? hx))
    have hrl : r.length ≤ ns.length := by
      rcases c with ⟨rfl, _⟩ | ⟨c, _⟩
      · exact Nat.zero_le _
      · exact c.len_le
    by_cases hm : y ∈ r
    · rw [decide_eq_true hm]
      refine iteF ?_
      rcases c with ⟨rfl, _⟩ | ⟨c, x, hx, rfl⟩
      · cases hm
      · have R : IsRing ns h r := ⟨c, fun z hz => by rw [hx] at hz; cases hz; exact c.slip g hx hm⟩
        rw [R.eq g] at eo
        exact ⟨.ref o, rfl, q H3 o sm no eo⟩
    · rw [decide_eq_false hm]
      refine iteT ?_
      have c' : Chain ns h (r ++ [y]) := by
        rcases c with ⟨rfl, rfl⟩ | ⟨c, x, hx, rfl⟩
        · exact Chain.one hh
        · exact c.more hx hm hy
      refine ⟨fun σ' H' => ∃ y', σ' = [some (.ref a), some (.int (h : Int)), some (.ref o), some (.int ((y' : Nat) : Int))] ∧ Same H H' ∧ H' o = some (.lst (iv (r ++ [y]))) ∧ y' = nxt ns y, fun σ' H' hN => ?_, ?_⟩
      · obtain ⟨y', e1, e2, e3, e4⟩ := hN
        have hl := c'.len_le
        rw [List.length_append] at hl
        have hl2 : r.length + 1 ≤ ns.length := hl
        exact ⟨ns.length - (r ++ [y]).length, by rw [List.length_append]; show _ - (r.length + 1) < _; omega, r ++ [y], y', e1, e2, e3, .inr ⟨c', y, by simp, e4⟩, rfl⟩
      · refine ⟨.ref o, rfl, .inl ⟨rfl, _, hO⟩, _, rfl, o, _, _, rfl, rfl, eo, ?_, ?_⟩
        · rw [iv_len]
          exact szl (by omega)
        · rw [iv_snoc]
          have sm2 : Same H (upd H3 o (.lst (iv (r ++ [y])))) := same_mut sm no
          exact ⟨_, rfl, _, rfl, a, _, _, _, rfl, rfl, sm2.seq hS, iv_at (nxt_get? hy), _, rfl, sm2, upd_same, rfl⟩
end
end Sb
namespace Sb
open PySem PySem.Spec PyProof.Rows L2
section
variable {P : Program} {w : World} {K : PySem.W.Frag} {mg : Str → Option Value} {base : Heap}
/-! ### _law_longest -/
def spLongest (K : PySem.W.Frag) : Sp := fun vs H Q _ => ∃ (a : Addr) (ns : List Nat), vs = [.ref a] ∧ SqL K H a (iv ns) ∧ Good ns ∧ 1 ≤ ns.length ∧ ns.length ≤ 100 ∧ ∀ (H' : Hp) (n : Nat), Same H H' → 1 ≤ n → n ≤ ns.length → (∀ m : Nat, n ≤ m ↔ Short ns m) → Q (.int (n : Int)) H'
abbrev n_law_longest : List Str := ["_law_boxes", "_law_hand"]
theorem sc_law_longest : FnScope n_law_longest ["_law_boxes"] (defScope s_law_longest) := ⟨rfl, rfl, rfl, by decide +kernel, rfl, by decide +kernel, by decide +kernel⟩
theorem ok_law_longest (T : Tx K mg) : FnOk P w K mg base CX0 2 T.law_longest.f T.law_longest.fd ["_law_boxes"] (spLongest K) := by
  refine T.law_longest.F.ok sc_law_longest (fun vs H Q E h => ?_) (fun cdv A outer s H vs Q E hr h => ?_)
  · obtain ⟨a, ns, rfl, _⟩ := h
    rfl
  · obtain ⟨a, ns, rfl, hA, g, h1, hn, q⟩ := h
    refine ⟨_, (pss_one (ps_ret (pe_callB (cr_max rfl) (by rfl) T.m_max (by decide +kernel) (pa_cons (pe_lc (own := [("_law_hand", 1)]) (g := gName 1) rfl sc_law_longest.nd (pi_range1 (by rfl) T.m_range (pa_cons (pe_callB call_len_seq (by rfl) T.m_len (by decide +kernel) (pa_cons (pv 0) pa_nil)) pa_nil)) (blkOk_by (own := [("_law_hand", 1)]) (N := n_law_longest) (sc := defScope s_law_longest) (by decide +kernel)) (fun _ _ _ _ _ => (pg_name (i := 1) sc_law_longest.nd rfl (.inl rfl))) (fun _ _ _ _ _ => pts_nil) (fun _ _ _ _ _ => (pe_callB (call_lenK (K := K) rfl) (by rfl) T.m_len PySem.boot_len (pa_cons (pe_df T.law_ring (ok_law_ring T) (hr.mono (by decide)) (pa_cons (pv 0) (pa_cons (pv 1) pa_nil))) pa_nil)))) pa_nil)))), ?_⟩
    refine ⟨_, rfl, a, _, rfl, .inl hA, _, rfl, by rw [iv_len]; omega, by rw [iv_len]; omega, fun D nD => ?_⟩
    rw [iv_len, Int.toNat_natCast]
    refine lc_range (lo := 0) (n := ns.length) (fun i H3 => Same H H3 ∧ H3 D = some (.lst (((List.range i).map fun h => (((ringOf ns h).length : Nat) : Int)).map V.int))) ⟨same_upd nD, upd_same⟩ (fun i H3 hi h => ?_) (fun H3 h => ?_)
    · obtain ⟨sm, eD⟩ := h
      refine ⟨rfl, _, rfl, _, rfl, a, ns, i, by rw [Int.zero_add]; rfl, sm.seq hA, g, hi, by omega, fun H4 p s4 np ep => ?_⟩
      refine ⟨p, _, rfl, .inl (.of ep), _, s4 _ _ eD, ?_, same_mut (sm.trans s4) nD, ?_⟩
      · rw [List.length_map, List.length_map, List.length_range]
        exact szl (by omega)
      · rw [upd_same, List.range_succ, List.map_append, List.map_append, iv_len]
        rfl
    · obtain ⟨sm, eD⟩ := h
      refine ⟨D, _, rfl, .of eD, by rw [List.length_map, List.length_range]; omega, fun mx hm hle => ?_⟩
      obtain ⟨h, hh, rfl⟩ := List.mem_map.mp hm
      have hhl := List.mem_range.mp hh
      refine q H3 _ sm (ringOf_pos g hhl) (ringOf_len g hhl) fun m => ?_
      constructor
      · intro hm2 k hk
        have := hle _ (List.mem_map.mpr ⟨k, List.mem_range.mpr hk, rfl⟩)
        omega
      · intro sh
        exact sh h hhl
end
end Sb
namespace Sb
open PySem PySem.Spec PyProof.Rows L2
theorem cut_since (xs : List V) (k : Nat) : cutV xs (some (k : Int)) none = xs.drop k := by
  unfold cutV
  rw [HT.sIx_nat, HT.sIx_none]
  by_cases h : k ≤ xs.length
  · rw [Nat.min_eq_left h, List.take_of_length_le (by rw [List.length_drop]; exact Nat.le_refl _)]
  · rw [Nat.min_eq_right (by omega), List.drop_of_length_le (Nat.le_refl _), List.drop_of_length_le (by omega)]
    simp
theorem ins_iv (l : List Nat) (n i : Nat) : (iv l).take i ++ [V.int (n : Int)] ++ (iv l).drop i = iv (insAt l n i) := by
  show _ = List.map _ (l.take i ++ [n] ++ l.drop i)
  rw [List.map_append, List.map_append, List.map_take, List.map_drop]
  rfl
/-- the lists made so far: of the first j all, of the next one t -/
def ordPart (L : List (List Nat)) (n j : Nat) (l : List Nat) (t : Nat) : List (List Nat) := ((L.take j).flatMap fun l => (List.range (n + 1)).map fun i => insAt l n i) ++ (List.range t).map fun i => insAt l n i
theorem ordPart_succ (L : List (List Nat)) (n j : Nat) (l : List Nat) (t : Nat) : ordPart L n j l (t + 1) = ordPart L n j l t ++ [insAt l n t] := by
  unfold ordPart
  rw [List.range_succ (n := t), List.map_append, List.append_assoc]
  rfl
theorem ordPart_next {L : List (List Nat)} {n j : Nat} {l : List Nat} (h : L[j]? = some l) (l' : List Nat) : ordPart L n j l (n + 1) = ordPart L n (j + 1) l' 0 := by
  unfold ordPart
  rw [List.take_add_one, h, List.flatMap_append]
  simp
theorem ordPart_len {L : List (List Nat)} {n j t : Nat} {l : List Nat} (hl : L.length ≤ 200) (hn : n ≤ 10) (ht : t ≤ 11) : (ordPart L n j l t).length ≤ 10000 := by
  unfold ordPart
  rw [List.length_append, List.length_flatMap, List.length_map, List.length_range]
  have : ((L.take j).map fun l => ((List.range (n + 1)).map fun i => insAt l n i).length) = List.replicate (L.take j).length (n + 1) := by
    rw [← List.map_const']
    apply List.map_congr_left
    intro l _
    rw [List.length_map, List.length_range]
  rw [this, List.sum_replicate_nat]
  have h1 : (L.take j).length ≤ 200 := by rw [List.length_take]; omega
  have h2 : (L.take j).length * (n + 1) ≤ 200 * 11 := Nat.mul_le_mul h1 (by omega)
  omega
theorem ord200 : ∀ n, n ≤ 5 → (ordersOf n).length ≤ 120 := fun n h => by
  rw [ordersOf_len]
  exact Nat.le_trans (fact_le n 5 h) (by decide)
end Sb
namespace Sb
open PySem PySem.Spec PyProof.Rows L2
/-! ### sorted of lists of numbers -/
theorem castN_lt : ∀ a b : List Nat, castN a < castN b ↔ a < b
  | [], [] => by simp
  | [], y :: b => by simp
  | x :: a, [] => by simp
  | x :: a, y :: b => by
    show (x : Int) :: castN a < (y : Int) :: castN b ↔ _
    rw [List.cons_lt_cons_iff, List.cons_lt_cons_iff, castN_lt a b]
    constructor
    · rintro (h | ⟨h, h2⟩)
      · exact .inl (by omega)
      · exact .inr ⟨by omega, h2⟩
    · rintro (h | ⟨h, h2⟩)
      · exact .inl (by omega)
      · exact .inr ⟨by omega, h2⟩
theorem castN_le (a b : List Nat) : castN a ≤ castN b ↔ a ≤ b := by
  constructor
  · intro h
    rw [← List.not_lt] at h ⊢
    rw [← castN_lt]
    exact h
  · intro h
    rw [← List.not_lt] at h ⊢
    rw [castN_lt]
    exact h
/-- rows at their places -/
def rSortedR (K : PySem.W.Frag) : List V → Hp → VK → Prop := fun vs H Q => ∃ (a : Addr) (bs : List (Addr × List Nat)), vs = [V.ref a] ∧ SqL K H a (bs.map fun b => V.ref b.1) ∧ (∀ b ∈ bs, SqL K H b.1 (iv b.2)) ∧
  ∀ (bs' : List (Addr × List Nat)) (p : Addr), bs'.Perm bs → bs'.Pairwise (fun b c => b.2 ≤ c.2) → H p = none → Q (.ref p) (upd H p (.lst (bs'.map fun b => V.ref b.1)))
theorem each_refs : ∀ {bs : List (Addr × List Nat)} {its : List Value}, Vals (bs.map fun b => V.ref b.1) its → PySem.W.EachIs (fun v b => v = Value.ref b.1) its bs
  | [], _, .nil => .nil
  | b :: bs, _, .cons r rs => .cons r (each_refs rs)
theorem refs_each : ∀ {bs : List (Addr × List Nat)} {its : List Value}, PySem.W.EachIs (fun v b => v = Value.ref b.1) its bs → Vals (bs.map fun b => V.ref b.1) its
  | [], _, .nil => .nil
  | b :: bs, _, .cons r rs => .cons r (refs_each rs)
theorem reads_rows {X : Cx} {pins : List (Addr × Obj)} {s : Shared} {σ : L2.St} {H : Hp} (I : L2.Inv X pins σ H s) : ∀ {bs : List (Addr × List Nat)} {its : List Value}, (∀ b ∈ bs, SqL X.K H b.1 (iv b.2)) → PySem.W.EachIs (fun v b => v = Value.ref b.1) its bs → PySem.W.EachIs (fun v b => ∃ as, Reads s.heap v (PyData.list ((castN b.2).map PyData.int)) as) its bs
  | [], _, _, .nil => .nil
  | b :: bs, v :: _, hb, .cons h hs => .cons (by
      have h2 := hb b List.mem_cons_self
      rw [iv_eq] at h2
      exact Dp.reads I (dI (castN b.2)) (.ref b.1) v (dp_ints h2) h) (reads_rows I (fun c hc => hb c (List.mem_cons_of_mem _ hc)) hs)
theorem cr_sortedR {X : Cx} (hr : X.A.units + 64 < cLine) : CallR X (.builtin "sorted") (rSortedR X.K) := by
  intro pins s σ H vs us Q I r h
  obtain ⟨a, bs, rfl, hs, rows, q⟩ := h
  obtain ⟨its, rv, hl, hz⟩ := I.list hs
  rw [Vals.ref1 r]
  have e := each_refs rv
  have hd : ∀ b : Addr × List Nat, (PyData.list ((castN b.2).map PyData.int)).depth ≤ 3 := fun b => by
    have h := depI (castN b.2)
    unfold PyData.depth
    omega
  have er : PySem.W.EachIs (fun v b => ∃ as, Reads s.heap v (PyData.list ((castN b.2).map PyData.int)) as) its bs := by
    exact reads_rows I rows e
  refine PySem.W.sorted_data (enc := fun b => PyData.list ((castN b.2).map PyData.int)) hl.isList e er ?_ ?_ (by rw [← e.length]; rw [List.length_map] at hz; rw [e.length]; exact hz) (fun b _ => by have := hd b; omega) fun out ho eo => ?_
  · intro d hd d' hd'
    obtain ⟨b, _, rfl⟩ := List.mem_map.mp hd
    obtain ⟨c, _, rfl⟩ := List.mem_map.mp hd'
    have : ∀ x y : List Int, PySem.W.alikeAll (x.map PyData.int) (y.map PyData.int) = true := fun x => by
      induction x with
      | nil => intro y; rw [List.map_nil]; unfold PySem.W.alikeAll; rfl
      | cons u x ih =>
        intro y
        cases y with
        | nil => rw [List.map_cons, List.map_nil]; unfold PySem.W.alikeAll; rfl
        | cons v y =>
          rw [List.map_cons, List.map_cons]
          unfold PySem.W.alikeAll
          rw [ih y]
          unfold PySem.W.alike
          rfl
    unfold PySem.W.alike
    exact this _ _
  · refine .inr fun d hd => ?_
    obtain ⟨b, _, rfl⟩ := List.mem_map.mp hd
    exact ⟨(fun e => by cases e), fun xs e => by cases e⟩
  · have tot := PySem.W.sortLe_total (α := Addr × List Nat) (listOrd itemOrd) false fun b => PySem.W.keyToks (PyData.list ((castN b.2).map PyData.int))
    have pw := PySem.W.sort_pairwise (le := PySem.W.dataLe false fun b : Addr × List Nat => PyData.list ((castN b.2).map PyData.int)) tot bs
    have pm : (bs.mergeSort (PySem.W.dataLe false fun b : Addr × List Nat => PyData.list ((castN b.2).map PyData.int))).Perm bs := List.mergeSort_perm ..
    obtain ⟨ep, he'⟩ := PyProof.Rows.sortedAll_at s.heap its out.toArray
    have vals := refs_each eo
    have hpw : (bs.mergeSort (PySem.W.dataLe false fun b : Addr × List Nat => PyData.list ((castN b.2).map PyData.int))).Pairwise (fun b c => b.2 ≤ c.2) := by
      refine pw.imp fun {b c} h => ?_
      rw [PySem.W.dataLe_rows (fun b : Addr × List Nat => castN b.2)] at h
      exact (castN_le _ _).mp (of_decide_eq_true h)
    have hlen : ((bs.mergeSort (PySem.W.dataLe false fun b : Addr × List Nat => PyData.list ((castN b.2).map PyData.int))).map fun b => V.ref b.1).length ≤ sizeLine := by
      rw [List.length_map, pm.length_eq]
      rw [List.length_map] at hz
      exact hz
    exact ⟨.ref _, upd H (s.heap.objs.size + 1) (.lst _), I.laid (t' := s.toks) (fun _ _ => PyProof.Rows.sortedAll_old) (Nat.le_succ _) ⟨hlen, out, ep, vals, he'⟩, rfl, q _ _ pm hpw (I.hok.fresh (Nat.le_succ _))⟩
end Sb
namespace Sb
open PySem PySem.Spec PyProof.Rows L2
theorem Rows.app {H H' : Hp} {ps qs : List Addr} {rs ss : List (List Nat)} (R : Rows H H' ps rs) (S : Rows H H' qs ss) (dj : ∀ q ∈ qs, q ∉ ps) : Rows H H' (ps ++ qs) (rs ++ ss) where
  len := by rw [List.length_append, List.length_append, R.len, S.len]
  row := fun i q r h1 h2 => by
    by_cases hi : i < ps.length
    · rw [List.getElem?_append_left hi] at h1
      rw [List.getElem?_append_left (by rw [← R.len]; exact hi)] at h2
      exact R.row i q r h1 h2
    · rw [List.getElem?_append_right (by omega)] at h1
      rw [List.getElem?_append_right (by rw [← R.len]; omega), ← R.len] at h2
      exact S.row _ q r h1 h2
  new := fun q hq => by
    rcases List.mem_append.mp hq with z | z
    · exact R.new q z
    · exact S.new q z
  nd := by
    rw [List.nodup_append]
    exact ⟨R.nd, S.nd, fun a ha b hb e => dj b hb (e ▸ ha)⟩
theorem ordFull {L : List (List Nat)} {n j : Nat} {l : List Nat} (h : L[j]? = some l) : ordPart L n (j + 1) [] 0 = ordPart L n j [] 0 ++ (List.range (n + 1)).map fun i => insAt l n i := by
  rw [← ordPart_next h]
  unfold ordPart
  simp
section
variable {P : Program} {w : World} {K : PySem.W.Frag} {mg : Str → Option Value} {base : Heap}
/-! ### _law_orders -/
def spOrders6 : Sp := fun vs H Q _ => ∃ (n : Nat), vs = [.int (n : Int)] ∧ n ≤ 5 ∧ ∀ (H' : Hp) (p : Addr) (bs : List (Addr × List Nat)), Same H H' → H' p = some (.lst (bs.map fun b => V.ref b.1)) → (∀ b ∈ bs, H' b.1 = some (.lst (iv b.2))) → (bs.map (·.2)).Perm (ordersOf n) → bs.Pairwise (fun b c => b.2 ≤ c.2) → Q (.ref p) H'
abbrev n_law_orders : List Str := ["_law_many", "_law_found", "_law_one", "_law_longer", "_law_some", "_law_at"]
theorem sc_law_orders : FnScope n_law_orders ["_law_many"] (defScope s_law_orders) := ⟨rfl, rfl, rfl, by decide +kernel, rfl, by decide +kernel, by decide +kernel⟩
theorem ok_law_orders (T : Tx K mg) : FnOk P w K mg base CX0 1 T.law_orders.f T.law_orders.fd ["_law_many"] spOrders6 := by
  refine T.law_orders.F.ok sc_law_orders (fun vs H Q E h => ?_) (fun cdv A outer s H vs Q E hr h => ?_)
  · obtain ⟨n, rfl, _⟩ := h
    rfl
  · obtain ⟨n, rfl, hn, q⟩ := h
    refine ⟨_, (pss_cons (ps_set (i := 1) sc_law_orders.nd rfl (.inl rfl) (pe_lst (pa_cons (pe_lst pa_nil) pa_nil)))
    (pss_cons (ps_for PassesOwn.never rfl (pi_range1 (by rfl) T.m_range (pa_cons (pv 0) pa_nil)) (pg_name (i := 2) sc_law_orders.nd rfl (.inr rfl))
      (pss_cons (ps_set (i := 3) sc_law_orders.nd rfl (.inl rfl) (pe_lst pa_nil))
      (pss_cons (ps_for PassesOwn.never rfl (pi_list (pv 1)) (pg_name (i := 4) sc_law_orders.nd rfl (.inr rfl))
        (pss_one (ps_expr (pe_bm PySem.F.plainAttrs_list PySem.F.slot_list_extend PySem.F.type_list_extend mt_extend (pv 3) (pa_cons (pe_lc (own := [("_law_at", 5)]) (g := gName 5) rfl sc_law_orders.nd (pi_range1 (by rfl) T.m_range (pa_cons (pe_op op_add (pv 2) pe_int) pa_nil)) (blkOk_by (own := [("_law_at", 5)]) (N := n_law_orders) (sc := defScope s_law_orders) (by decide +kernel)) (fun _ _ _ _ _ => (pg_name (i := 5) sc_law_orders.nd rfl (.inl rfl))) (fun _ _ _ _ _ => pts_nil) (fun _ _ _ _ _ => (pe_op op_cat (pe_op op_cat (pe_slice (sl_listK (K := K) rfl) (pv 4) po_none (po_some (pv 5))) (pe_lst (pa_cons (pv 2) pa_nil))) (pe_slice (sl_listK (K := K) rfl) (pv 4) (po_some (pv 5)) po_none)))) pa_nil)))))
      (pss_one (ps_set (i := 1) sc_law_orders.nd rfl (.inl rfl) (pv 3))))))
    (pss_one (ps_ret (pe_callB (cr_sortedR hr.units) (by rfl) T.m_sorted (by decide +kernel) (pa_cons (pv 1) pa_nil)))))), ?_⟩
    refine ⟨Nat.zero_le _, fun z nz => ⟨sz (by simp), fun o no => ?_⟩⟩
    have s1 := same_upd (o := .lst []) nz
    have s2 := same_upd (o := .lst [V.ref z]) no
    have nzo : o ≠ z := fun e => by rw [e, upd_same] at no; cases no
    refine ⟨_, rfl, _, rfl, by omega, by omega, ?_⟩
    rw [Int.toNat_natCast]
    refine for_range (lo := 0) (n := n) (fun i σ H3 => ∃ fo ps w2 w3 w4, σ = [some (.int (n : Int)), some (.ref fo), w2, w3, w4, none] ∧ Same H H3 ∧ H fo = none ∧ H3 fo = some (.lst (ps.map V.ref)) ∧ Rows H H3 ps (ordersOf i) ∧ fo ∉ ps) ?_ (fun i σ H3 hi hP => ?_) (fun σ H3 hP => ?_)
    · refine ⟨o, [z], _, _, _, rfl, s1.trans s2, s1.free no, upd_same, ?_, by simpa using nzo⟩
      refine ⟨rfl, fun i q r h1 h2 => ?_, fun q hq => ?_, by simp⟩
      · match i with
        | 0 =>
          cases h1
          cases h2
          exact s2 _ _ upd_same
        | i + 1 => simp at h1
      · simp at hq
        subst hq
        exact nz
    · obtain ⟨fo, ps, w2, w3, w4, rfl, sm, nfo, efo, R, hfo⟩ := hP
      rw [Int.zero_add]
      refine ⟨Nat.zero_le _, fun lo nlo => ?_⟩
      have sl := same_upd (o := .lst []) nlo
      have hL := ord200 i (by omega)
      refine ⟨_, rfl, fo, rfl, ⟨_, sl.seq (.of efo)⟩, ?_⟩
      refine for_list (K := K) (a := fo) (xs := ps.map V.ref) (fun j σ H4 => ∃ qs w4, σ = [some (.int (n : Int)), some (.ref fo), some (.int (i : Int)), some (.ref lo), w4, none] ∧ Same H3 H4 ∧ H4 lo = some (.lst (qs.map V.ref)) ∧ Rows H3 H4 qs (ordPart (ordersOf i) i j [] 0) ∧ lo ∉ qs) ⟨[], _, rfl, sl, upd_same, Rows.nil, by simp⟩ (fun j σ H4 _ h => ?_) (fun j v σ H4 hv hP => ?_) (fun σ H4 hP => ?_)
      · obtain ⟨qs, _, _, s4, _⟩ := h
        exact .of (s4 _ _ efo)
      · obtain ⟨qs, w4, rfl, s4, elo, R4, hlo⟩ := hP
        rw [List.getElem?_map] at hv
        obtain ⟨p, hp, rfl⟩ := Option.map_eq_some_iff.mp hv
        have hj : j < (ordersOf i).length := by rw [← R.len]; exact (List.getElem?_eq_some_iff.mp hp).1
        have hjl : (ordersOf i)[j]? = some (ordersOf i)[j] := List.getElem?_eq_getElem hj
        have ep3 := R.row j p _ hp hjl
        have hll : (ordersOf i)[j].length ≤ 5 := by
          have := (orders_good (List.getElem_mem hj)).2
          omega
        generalize (ordersOf i)[j] = l at hjl ep3 hll
        refine ⟨_, rfl, .inl ⟨rfl, _, .of elo⟩, _, rfl, _, 1, rfl, rfl, _, rfl, by omega, by omega, fun D nD => ?_⟩
        rw [show (((i : Nat) : Int) + 1).toNat = i + 1 by omega]
        have nDl : lo ≠ D := ne_of_none elo nD
        refine lc_range (lo := 0) (n := i + 1) (fun t H5 => ∃ ds, Same H4 H5 ∧ H5 D = some (.lst (ds.map V.ref)) ∧ Rows H4 H5 ds ((List.range t).map fun i' => insAt l i i') ∧ D ∉ ds) ⟨[], same_upd nD, upd_same, Rows.nil, by simp⟩ (fun t H5 ht h => ?_) (fun H5 h => ?_)
        · obtain ⟨ds, s5, eD, R5, hD⟩ := h
          rw [Int.zero_add]
          have hp5 : SqL K H5 p (iv l) := .of (s5 _ _ (s4 _ _ ep3))
          refine ⟨rfl, _, rfl, _, rfl, _, rfl, p, _, rfl, hp5, fun c1 n1 => ?_⟩
          rw [cut_to]
          have t1 := same_upd (o := .lst ((iv l).take t)) n1
          refine ⟨_, rfl, sz (by simp), fun c2 n2 => ?_⟩
          have t2 := same_upd (o := .lst [V.int (i : Int)]) n2
          refine ⟨c1, c2, _, _, rfl, rfl, t2 _ _ upd_same, upd_same, ?_, fun c3 n3 => ?_⟩
          · rw [List.length_take, iv_len]
            exact sz (by simp; omega)
          have t3 := same_upd (o := .lst ((iv l).take t ++ [V.int (i : Int)])) n3
          refine ⟨_, rfl, _, rfl, _, rfl, p, _, rfl, ((t1.trans t2).trans t3).seq hp5, fun c4 n4 => ?_⟩
          rw [cut_since]
          have t4 := same_upd (o := .lst ((iv l).drop t)) n4
          refine ⟨c3, c4, _, _, rfl, rfl, t4 _ _ upd_same, upd_same, ?_, fun c5 n5 => ?_⟩
          · rw [List.length_append, List.length_take, List.length_drop, iv_len]
            exact sz (by simp; omega)
          rw [ins_iv]
          have t5 := same_upd (o := .lst (iv (insAt l i t))) n5
          have sAll := (((t1.trans t2).trans t3).trans t4).trans t5
          have ec5 : (upd (upd (upd (upd (upd H5 c1 (.lst ((iv l).take t))) c2 (.lst [V.int (i : Int)])) c3 (.lst ((iv l).take t ++ [V.int (i : Int)]))) c4 (.lst ((iv l).drop t))) c5 (.lst (iv (insAt l i t)))) c5 = some (.lst (iv (insAt l i t))) := upd_same
          have n5H : H5 c5 = none := (((t1.trans t2).trans t3).trans t4).free n5
          generalize upd (upd (upd (upd (upd H5 c1 (.lst ((iv l).take t))) c2 (.lst [V.int (i : Int)])) c3 (.lst ((iv l).take t ++ [V.int (i : Int)]))) c4 (.lst ((iv l).drop t))) c5 (.lst (iv (insAt l i t))) = H6 at *
          have nq : c5 ∉ ds := fun h => by
            obtain ⟨r, _, e⟩ := R5.at h
            rw [n5H] at e
            cases e
          have nDc : D ≠ c5 := fun e => by rw [← e, eD] at n5H; cases n5H
          refine ⟨_, sAll _ _ eD, ?_, ds ++ [c5], same_mut (s5.trans sAll) nD, ?_, ?_, ?_⟩
          · rw [List.length_map, R5.len, List.length_map, List.length_range]
            exact szl (by omega)
          · rw [upd_same, List.map_append]; rfl
          · rw [List.range_succ, List.map_append]
            refine (((R5.same sAll).snoc ec5 (s5.free n5H) nq).upd ?_)
            intro h
            rcases List.mem_append.mp h with y | y
            · exact hD y
            · simp at y; exact nDc y
          · intro h
            rcases List.mem_append.mp h with y | y
            · exact hD y
            · simp at y; exact nDc y
        · obtain ⟨ds, s5, eD, R5, hD⟩ := h
          have elo5 := s5 _ _ elo
          refine ⟨lo, D, _, _, rfl, rfl, elo5, eD, ?_, ?_⟩
          · rw [List.length_map, List.length_map, R4.len, R5.len, List.length_map, List.length_range]
            have := ordPart_len (L := ordersOf i) (n := i) (j := j) (t := 0) (l := []) (by omega) (by omega) (by omega)
            exact sz (by omega)
          · have hld : lo ∉ ds := fun h => by
              have := R5.new lo h
              rw [elo] at this
              cases this
            refine ⟨qs ++ ds, _, rfl, same_mut (s4.trans s5) nlo, by rw [upd_same, List.map_append], ?_, ?_⟩
            · rw [ordFull hjl]
              refine Rows.upd (Rows.app (R4.same s5) ⟨R5.len, R5.row, fun q hq => s4.free (R5.new q hq), R5.nd⟩ fun q hq hq2 => ?_) ?_
              · obtain ⟨r, _, e⟩ := R4.at hq2
                rw [R5.new q hq] at e
                cases e
              · intro h
                rcases List.mem_append.mp h with y | y
                · exact hlo y
                · exact hld y
            · intro h
              rcases List.mem_append.mp h with y | y
              · exact hlo y
              · exact hld y
      · obtain ⟨qs, w4, rfl, s4, elo, R4, hlo⟩ := hP
        refine ⟨_, rfl, lo, qs, _, _, _, rfl, sm.trans s4, sm.free nlo, elo, ?_, hlo⟩
        have e : ordPart (ordersOf i) i (ps.map V.ref).length [] 0 = ordersOf (i + 1) := by
          unfold ordPart
          rw [List.length_map, R.len, List.take_length]
          show _ ++ [] = _
          rw [List.append_nil]
          rfl
        rw [e] at R4
        exact ⟨R4.len, R4.row, fun q hq => sm.free (R4.new q hq), R4.nd⟩
    · obtain ⟨fo, ps, w2, w3, w4, rfl, sm, nfo, efo, R, hfo⟩ := hP
      have e1 : (ps.zip (ordersOf n)).map (fun b => V.ref b.1) = ps.map V.ref := by
        have := congrArg (List.map V.ref) (List.map_fst_zip (l₁ := ps) (l₂ := ordersOf n) (by rw [R.len]; exact Nat.le_refl _))
        rw [List.map_map] at this
        exact this
      have e2 : (ps.zip (ordersOf n)).map (·.2) = ordersOf n := List.map_snd_zip (by rw [R.len]; exact Nat.le_refl _)
      have rows : ∀ b ∈ ps.zip (ordersOf n), H3 b.1 = some (.lst (iv b.2)) := fun b hb => by
        obtain ⟨k, hk⟩ := List.mem_iff_getElem?.mp hb
        obtain ⟨h1, h2⟩ := List.getElem?_zip_eq_some.mp hk
        exact R.row k b.1 b.2 h1 h2
      refine ⟨_, rfl, fo, ps.zip (ordersOf n), rfl, by rw [e1]; exact .of efo, fun b hb => .of (rows b hb), fun bs' p pm pw np => ?_⟩
      refine q _ p bs' (sm.trans (same_upd np)) upd_same (fun b hb => same_upd np _ _ (rows b (pm.mem_iff.mp hb))) ?_ pw
      have := pm.map (·.2)
      rw [e2] at this
      exact this
end
end Sb
namespace Sb
open PySem PySem.Spec PyProof.Rows L2
/-- the winning rows of the first ones -/
def keepTo (m : Nat) (bs : List (Addr × List Nat)) (i : Nat) : List (Addr × List Nat) := (bs.take i).filter fun b => (longOf b.2 m).isEmpty
theorem keepTo_succ {m i : Nat} {bs : List (Addr × List Nat)} {b : Addr × List Nat} (h : bs[i]? = some b) : keepTo m bs (i + 1) = if (longOf b.2 m).isEmpty = true then keepTo m bs i ++ [b] else keepTo m bs i := by
  unfold keepTo
  rw [List.take_add_one, h, List.filter_append]
  by_cases e : (longOf b.2 m).isEmpty = true
  · rw [if_pos e]
    simp [e]
  · rw [if_neg e]
    simp [e]
section
variable {P : Program} {w : World} {K : PySem.W.Frag} {mg : Str → Option Value} {base : Heap}
/-! ### the law -/
def spLaw (K : PySem.W.Frag) : Sp := fun vs H Q _ => ∃ (a : Addr) (cs : List Int), vs = [.ref a] ∧ SqL K H a (cs.map V.int) ∧ cs.length ≤ 63 ∧ Cells cs ∧ ∀ H', Q (.bl true) H'
abbrev n_law : List Str := ["_law_script", "_law_cell", "_law_many", "_law_most", "_law_due", "_law_number", "_law_some"]
theorem sc_law : FnScope n_law ["_law_script"] (defScope s_law) := ⟨rfl, rfl, rfl, by decide +kernel, rfl, by decide +kernel, by decide +kernel⟩
theorem ok_law (T : Tx K mg) {f : Addr} {fd : FuncData} (F : Fun K "law" "law" s_law f fd) : FnOk P w K mg base CX0 14 f fd ["_law_script"] (spLaw K) := by
  refine F.ok sc_law (fun vs H Q E h => ?_) (fun cdv A outer s H vs Q E hr h => ?_)
  · obtain ⟨a, cs, rfl, _⟩ := h
    rfl
  · obtain ⟨a, cs, rfl, hS, hlen, hC, q⟩ := h
    refine ⟨_, (pss_cons (ps_set (i := 0) sc_law.nd rfl (.inl rfl) (pe_slice sl_list (pv 0) po_none (po_some pe_int)))
    (pss_cons (ps_set (i := 1) sc_law.nd rfl (.inl rfl) (pe_df T.law_cell_at (ok_law_cell_at T) (hr.mono (by decide)) (pa_cons (pv 0) (pa_cons pe_int pa_nil))))
    (pss_cons (ps_set (i := 2) sc_law.nd rfl (.inl rfl) (pe_op op_add pe_int (pe_op op_mod (pe_df T.law_value (ok_law_value T) (hr.mono (by decide)) (pa_cons (pv 1) (pa_cons pe_int pa_nil))) pe_int)))
    (pss_cons (ps_set (i := 3) sc_law.nd rfl (.inr rfl) (pe_op op_add pe_int (pe_op op_mod (pe_df T.law_value (ok_law_value T) (hr.mono (by decide)) (pa_cons (pv 1) (pa_cons pe_int pa_nil))) (pv 2))))
    (pss_cons (ps_setLc (i := 4) (own := [("_law_some", 6)]) (g := gName 6) rfl sc_law.nd rfl rfl (sw_true rfl rfl rfl (by decide +kernel)) (pi_list (pe_df T.law_orders (ok_law_orders T) (hr.mono (by decide)) (pa_cons (pv 2) pa_nil))) (blkOk_by (own := [("_law_some", 6)]) (N := n_law) (sc := defScope s_law) (by decide +kernel)) (fun _ _ _ _ _ => (pg_name (i := 6) sc_law.nd rfl (.inl rfl))) (fun _ _ _ _ _ => (pts_one (pt_cmpR op_le (pe_df T.law_longest (ok_law_longest T) (hr.mono (by decide)) (pa_cons (pv 6) pa_nil)) (pv 3) (nomark _)))) (fun _ _ _ _ _ => (pv 6)))
    (pss_cons (ps_if (pt_cmpR op_ne (pe_df T.how_many (ok_how_many T) (hr.mono (by decide)) (pa_cons (pv 2) (pa_cons (pv 3) pa_nil))) (pe_callB call_len_seq (by rfl) T.m_len (by decide +kernel) (pa_cons (pv 4) pa_nil)) (nomark _))
      (pss_one (ps_ret pe_bl))
      pss_nil)
    (pss_cons (ps_for PassesOwn.never rfl (pi_range3 (by rfl) T.m_range (pa_cons pe_int (pa_cons (pe_callB call_len_seq (by rfl) T.m_len (by decide +kernel) (pa_cons (pv 4) pa_nil)) (pa_cons (pe_op op_add pe_int (pe_op op_fdiv (pe_callB call_len_seq (by rfl) T.m_len (by decide +kernel) (pa_cons (pv 4) pa_nil)) pe_int)) pa_nil)))) (pg_name (i := 5) sc_law.nd rfl (.inl rfl))
      (pss_one (ps_if (PW.pt (pw_or (pt_cmpR (op_neD hr.units) (pe_df T.setting_by (ok_setting_by T) (hr.mono (by decide)) (pa_cons (pv 2) (pa_cons (pv 3) (pa_cons (pv 5) pa_nil)))) (pe_ix ix_list (pv 4) (pv 5) (fun _ _ => rfl)) (nomark _)) (pw_or1 (pt_cmpR op_ne (pe_df T.number_of (ok_number_of T) (hr.mono (by decide)) (pa_cons (pe_callTy call_list_of (by rfl) T.m_list (by decide +kernel) (pa_cons (pe_ix ix_list (pv 4) (pv 5) (fun _ _ => rfl)) pa_nil)) (pa_cons (pv 3) pa_nil))) (pv 5) (nomark _)))))
        (pss_one (ps_ret pe_bl))
        pss_nil)))
    (pss_one (ps_ret (pe_cmpR (op_eqD hr.units) (pe_lc (own := [("_law_number", 5)]) (g := gName 5) rfl sc_law.nd (pi_range1 (by rfl) T.m_range (pa_cons pe_int pa_nil)) (blkOk_by (own := [("_law_number", 5)]) (N := n_law) (sc := defScope s_law) (by decide +kernel)) (fun _ _ _ _ _ => (pg_name (i := 5) sc_law.nd rfl (.inl rfl))) (fun _ _ _ _ _ => pts_nil) (fun _ _ _ _ _ => (pe_df T.setting_by (ok_setting_by T) (hr.mono (by decide)) (pa_cons pe_int (pa_cons pe_int (pa_cons (pv 5) pa_nil)))))) (pe_lst (pa_cons (pe_lst (pa_cons pe_int (pa_cons pe_int (pa_cons pe_int pa_nil)))) (pa_cons (pe_lst (pa_cons pe_int (pa_cons pe_int (pa_cons pe_int pa_nil)))) (pa_cons (pe_lst (pa_cons pe_int (pa_cons pe_int (pa_cons pe_int pa_nil)))) (pa_cons (pe_lst (pa_cons pe_int (pa_cons pe_int (pa_cons pe_int pa_nil)))) pa_nil))))) (nomark _))))))))))), ?_⟩
    refine ⟨_, rfl, 63, rfl, a, _, rfl, hS, fun sc nsc => ?_⟩
    rw [show (63 : Int) = ((63 : Nat) : Int) from rfl, cut_to, List.take_of_length_le (by rw [List.length_map]; omega)]
    have esc : (upd H sc (.lst (cs.map V.int))) sc = some (.lst (cs.map V.int)) := upd_same
    refine ⟨_, rfl, sc, cs, 0, rfl, .of esc, hC, fun c hc => ?_⟩
    refine ⟨_, rfl, c, 1, rfl, hc, by decide, fun H1 v1 s1 hv1 => ⟨v1, 5, rfl, rfl, (by show (0 : Int) < 5; decide), 1, _, rfl, rfl, ?_⟩⟩
    obtain ⟨n, en, hn1, hn2⟩ : ∃ n : Nat, 1 + v1 % 5 = (n : Int) ∧ 1 ≤ n ∧ n ≤ 5 := ⟨(1 + v1 % 5).toNat, by omega, by omega, by omega⟩
    dsimp only
    rw [en]
    refine ⟨_, rfl, c, 2, rfl, hc, by decide, fun H2 v2 s2 hv2 => ⟨_, rfl, v2, n, rfl, rfl, (by show (0 : Int) < (n : Int); omega), 1, _, rfl, rfl, ?_⟩⟩
    obtain ⟨m, em, hm1, hm2⟩ : ∃ m : Nat, 1 + v2 % (n : Int) = (m : Int) ∧ 1 ≤ m ∧ m ≤ n := by
      have e1 := Int.emod_nonneg v2 (show (n : Int) ≠ 0 by omega)
      have e2 := Int.emod_lt_of_pos v2 (show (0 : Int) < (n : Int) by omega)
      exact ⟨(1 + v2 % (n : Int)).toNat, by omega, by omega, by omega⟩
    dsimp only
    rw [em]
    refine ⟨_, rfl, n, rfl, hn2, fun H3 po bs s3 epo rows pm pw => ⟨po, rfl, ⟨_, .of epo⟩, fun D nD => ?_⟩⟩
    have hbl : bs.length ≤ 120 := by
      have h1 := pm.length_eq
      rw [List.length_map] at h1
      have := ord200 n hn2
      omega
    have good : ∀ b ∈ bs, Good b.2 ∧ b.2.length = n := fun b hb => orders_good (pm.mem_iff.mp (List.mem_map.mpr ⟨b, hb, rfl⟩))
    refine lc_list (K := K) (a := po) (xs := bs.map fun b => V.ref b.1) (fun j H5 => Same H3 H5 ∧ H5 D = some (.lst ((keepTo m bs j).map fun b => V.ref b.1))) ⟨same_upd nD, upd_same⟩ (fun j H5 _ h => .of (h.1 _ _ epo)) (fun j v H5 hv h => ?_) (fun H5 h => ?_)
    · obtain ⟨s5, eD⟩ := h
      rw [List.getElem?_map] at hv
      obtain ⟨b, hb, rfl⟩ := Option.map_eq_some_iff.mp hv
      have hbm := List.mem_of_getElem? hb
      obtain ⟨gl, hll⟩ := good b hbm
      refine ⟨rfl, _, rfl, b.1, b.2, rfl, .of (s5 _ _ (rows b hbm)), gl, by omega, by omega, fun H6 g s6 _ _ hg => ⟨_, rfl, _, _, rfl, rfl, _, rfl, ite2 (fun e => ?_) (fun e => ?_)⟩⟩
      · have hs : Short b.2 m := (hg _).mp (by
          have := of_decide_eq_true e
          omega)
        refine ⟨_, rfl, _, s6 _ _ eD, ?_, same_mut (s5.trans s6) nD, ?_⟩
        · rw [List.length_map]
          have : (keepTo m bs j).length ≤ bs.length := Nat.le_trans (List.length_filter_le _ _) (by rw [List.length_take]; omega)
          exact szl (by omega)
        · rw [upd_same, keepTo_succ hb, if_pos (by rw [(longOf_nil gl).mpr hs]; rfl), List.map_append]
          rfl
      · refine ⟨s5.trans s6, ?_⟩
        rw [keepTo_succ hb, if_neg]
        · exact s6 _ _ eD
        · intro z
          apply e
          have := (hg m).mpr ((longOf_nil gl).mp (List.isEmpty_iff.mp z))
          exact decide_eq_true (by omega)
    obtain ⟨s5, eD⟩ := h
    rw [List.length_map] at eD
    have ek : keepTo m bs bs.length = bs.filter fun b => (longOf b.2 m).isEmpty := by
      unfold keepTo
      rw [List.take_length]
    rw [ek] at eD
    obtain ⟨ks, eks⟩ : ∃ ks, ks = bs.filter fun b => (longOf b.2 m).isEmpty := ⟨_, rfl⟩
    rw [← eks] at eD
    have hks : ks.map (·.2) = wins n m n [] := by
      refine due_wins hn2 hm1 hm2 ?_ ?_
      · have := pm.filter fun b => (longOf b m).isEmpty
        rw [List.filter_map] at this
        rw [eks]
        exact this
      · rw [eks, List.pairwise_map]
        exact pw.filter _
    have rowk : ∀ b ∈ ks, H5 b.1 = some (.lst (iv b.2)) := fun b hb => s5 _ _ (rows b (by rw [eks] at hb; exact (List.mem_filter.mp hb).1))
    have hkl : ks.length = hm n m := by
      rw [hm_wins, ← hks, List.length_map]
    have hpos := hm_pos (n := n) hm1
    have hle : ks.length ≤ 120 := by
      rw [eks]
      exact Nat.le_trans (List.length_filter_le _ _) hbl
    clear ek eks epo pm pw rows good hbl s1 s2 s3 s5 nD
    refine ⟨_, rfl, _, rfl, n, m, rfl, hn1, by omega, hm1, hm2, fun H6 s6 => ⟨_, rfl, D, _, rfl, .inl (.of (s6 _ _ eD)), rfl, _, rfl, ?_⟩⟩
    rw [List.length_map, hkl, decide_eq_true rfl]
    refine iteF ?_
    have eD6 := s6 _ _ eD
    refine ⟨_, rfl, D, _, rfl, .inl (.of eD6), _, rfl, D, _, rfl, .inl (.of eD6), _, 12, rfl, rfl, ⟨by decide, by decide⟩, 1, _, rfl, rfl, ?_⟩
    obtain ⟨d, ed, hd1, hd2⟩ : ∃ d : Nat, 1 + (((ks.map fun b => V.ref b.1).length : Nat) : Int) / 12 = (d : Int) ∧ 1 ≤ d ∧ d ≤ 63 := by
      rw [List.length_map]
      exact ⟨1 + ks.length / 12, by push_cast; rfl, by omega, by omega⟩
    refine ⟨0, ks.length, d, _, (by rw [← ed, List.length_map]), rgC_pos (by omega) (by omega) hd1 (by omega), ?_⟩
    refine for_rangeC (lo := 0) (c := (d : Int)) (n := (ks.length - 1) / d + 1) (fun i σ H7 => ∃ w5, σ = [some (.ref sc), some (.int c), some (.int (n : Int)), some (.int (m : Int)), some (.ref D), w5, none] ∧ Same H6 H7) ⟨_, rfl, .refl _⟩ (fun i σ H7 hi hP => ?_) (fun σ H7 hP => ?_)
    · obtain ⟨w5, rfl, s7⟩ := hP
      rw [show (0 : Int) + ((i : Nat) : Int) * (d : Int) = ((i * d : Nat) : Int) by push_cast; omega]
      have hid : i * d < ks.length := by
        have h1 : i ≤ (ks.length - 1) / d := by omega
        have h2 := Nat.mul_le_mul_right d h1
        have h3 := Nat.div_mul_le_self (ks.length - 1) d
        omega
      have hb := List.getElem?_eq_getElem hid
      have hbm := List.getElem_mem hid
      generalize ks[i * d] = b at hb hbm
      have hx : (wins n m n [])[i * d]? = some b.2 := by rw [← hks, List.getElem?_map, hb]; rfl
      obtain ⟨hxl, gx, shx⟩ := wins_all (List.mem_of_getElem? hx)
      have atb : atI (ks.map fun b => V.ref b.1) ((i * d : Nat) : Int) = some (.ref b.1) := atI_nat (by rw [List.getElem?_map, hb]; rfl)
      refine ⟨_, rfl, _, rfl, _, rfl, n, m, i * d, b.2, rfl, hn1, by omega, hm1, hm2, hx, fun H8 p s8 np ep => ?_⟩
      have eD8 := s8 _ _ (s7 _ _ eD6)
      have eb8 := s8 _ _ (s7 _ _ (s6 _ _ (rowk b hbm)))
      refine ⟨_, rfl, _, rfl, D, _, _, _, rfl, rfl, .of eD8, atb, ne_iv (x := b.2) (y := b.2) (.of ep) (.of eb8) ⟨_, rfl, iteNS rfl ?_⟩⟩
      refine ⟨_, rfl, _, rfl, D, _, _, _, rfl, rfl, .of eD8, atb, b.1, _, rfl, .inl (.of eb8), fun p2 n2 => ?_⟩
      refine ⟨_, rfl, p2, b.2, m, rfl, .of upd_same, gx, by omega, by omega, hm1, by omega, shx, fun H9 i' s9 hi' => ?_⟩
      rw [hxl] at hi'
      have ei := wins_uniq hi' hx
      rw [ei]
      exact ⟨_, rfl, rfl, _, rfl, iteNS rfl ⟨_, rfl, ((s7.trans s8).trans (same_upd n2)).trans s9⟩⟩
    · obtain ⟨w5, rfl, s7⟩ := hP
      refine ⟨4, rfl, by decide, by decide, fun D2 nD2 => ?_⟩
      refine lc_range (lo := 0) (n := 4) (fun t H8 => ∃ ds, Same H7 H8 ∧ H8 D2 = some (.lst (ds.map V.ref)) ∧ Rows H7 H8 ds ((wins 3 2 3 []).take t) ∧ D2 ∉ ds) ⟨[], same_upd nD2, upd_same, Rows.nil, by simp⟩ (fun t H8 ht h => ?_) (fun H8 h => ?_)
      · obtain ⟨ds, s8, eD2, R, hD2⟩ := h
        rw [Int.zero_add]
        have htl : t < (wins 3 2 3 []).length := by rw [w32]; exact ht
        refine ⟨rfl, _, rfl, 3, 2, t, _, rfl, by decide, by decide, by decide, by decide, List.getElem?_eq_getElem htl, fun H9 p s9 np ep => ?_⟩
        have npd : p ∉ ds := fun h => by
          obtain ⟨r, _, e⟩ := R.at h
          rw [np] at e
          cases e
        have npD : D2 ≠ p := fun e => by rw [← e, eD2] at np; cases np
        refine ⟨_, s9 _ _ eD2, ?_, ds ++ [p], same_mut (s8.trans s9) nD2, ?_, ?_, ?_⟩
        · rw [List.length_map, R.len, List.length_take]
          exact szl (by omega)
        · rw [upd_same, List.map_append]; rfl
        · rw [List.take_add_one, List.getElem?_eq_getElem htl]
          refine ((R.same s9).snoc ep (s8.free np) npd).upd ?_
          intro h
          rcases List.mem_append.mp h with y | y
          · exact hD2 y
          · simp at y; exact npD y
        · intro h
          rcases List.mem_append.mp h with y | y
          · exact hD2 y
          · simp at y; exact npD y
      · obtain ⟨ds, s8, eD2, R, hD2⟩ := h
        rw [List.take_of_length_le (by rw [w32]; exact Nat.le_refl _), w32] at R
        refine ⟨sz (by simp), fun a1 m1 => ⟨sz (by simp), fun a2 m2 => ⟨sz (by simp), fun a3 m3 => ⟨sz (by simp), fun a4 m4 => ⟨sz (by simp), fun a5 m5 => ?_⟩⟩⟩⟩⟩
        have t1 := same_upd (o := .lst [V.int 0, V.int 1, V.int 2]) m1
        have t2 := same_upd (o := .lst [V.int 0, V.int 2, V.int 1]) m2
        have t3 := same_upd (o := .lst [V.int 1, V.int 0, V.int 2]) m3
        have t4 := same_upd (o := .lst [V.int 2, V.int 1, V.int 0]) m4
        have t5 := same_upd (o := .lst [V.ref a1, V.ref a2, V.ref a3, V.ref a4]) m5
        refine eq_rows (x := [[0, 1, 2], [0, 2, 1], [1, 0, 2], [2, 1, 0]]) (y := [[0, 1, 2], [0, 2, 1], [1, 0, 2], [2, 1, 0]]) ((R.sees eD2).same ((((t1.trans t2).trans t3).trans t4).trans t5)) ⟨[a1, a2, a3, a4], .of upd_same, rfl, fun i q r h1 h2 => ?_⟩ ?_
        · match i with
          | 0 => cases h1; cases h2; exact .of ((((t2.trans t3).trans t4).trans t5) _ _ upd_same)
          | 1 => cases h1; cases h2; exact .of (((t3.trans t4).trans t5) _ _ upd_same)
          | 2 => cases h1; cases h2; exact .of ((t4.trans t5) _ _ upd_same)
          | 3 => cases h1; cases h2; exact .of (t5 _ _ upd_same)
          | i + 4 => simp at h1
        · rw [decide_eq_true rfl]
          exact q _
end
end Sb
/-! ### what the top has written; the law's own head -/
namespace Sb
open PySem PySem.Spec PyProof.Rows L2
theorem all_mk {l : PySem.W.OpenLaw} {w : World} {K : PySem.W.Frag} {h : Heap} {mg : Str → Option Value} {fa : Addr} (X : K.In h) (G : h.Ns mainGlobals mg) (hfa : mg "law" = some (.ref fa))
    {f0 : Addr} {od0 an0 : Option Addr} {sl0 : Array (Option Value)} {oc0 kV0 dc0 pm0 cd0 ct0 : Value}
    (a0 : PySem.W.nsIn K mainGlobals "is_whole" = some (some (.ref f0))) (l0 : K.lookup f0 = some ⟨oc0, od0, .func (PySem.W.fnOf "is_whole" "is_whole" (defArgs s_is_whole) (defBody s_is_whole) (defScope s_is_whole) .none kV0 dc0 pm0 an0 cd0 ct0), sl0⟩) (e0 : PySem.W.codeIn K cd0 "is_whole" = true) (k0 : PySem.W.keepIn K (.ref f0) = true)
    {f1 : Addr} {od1 an1 : Option Addr} {sl1 : Array (Option Value)} {oc1 kV1 dc1 pm1 cd1 ct1 : Value}
    (a1 : PySem.W.nsIn K mainGlobals "check_boxes" = some (some (.ref f1))) (l1 : K.lookup f1 = some ⟨oc1, od1, .func (PySem.W.fnOf "check_boxes" "check_boxes" (defArgs s_check_boxes) (defBody s_check_boxes) (defScope s_check_boxes) .none kV1 dc1 pm1 an1 cd1 ct1), sl1⟩) (e1 : PySem.W.codeIn K cd1 "check_boxes" = true) (k1 : PySem.W.keepIn K (.ref f1) = true)
    {f2 : Addr} {od2 an2 : Option Addr} {sl2 : Array (Option Value)} {oc2 kV2 dc2 pm2 cd2 ct2 : Value}
    (a2 : PySem.W.nsIn K mainGlobals "ring_from" = some (some (.ref f2))) (l2 : K.lookup f2 = some ⟨oc2, od2, .func (PySem.W.fnOf "ring_from" "ring_from" (defArgs s_ring_from) (defBody s_ring_from) (defScope s_ring_from) .none kV2 dc2 pm2 an2 cd2 ct2), sl2⟩) (e2 : PySem.W.codeIn K cd2 "ring_from" = true) (k2 : PySem.W.keepIn K (.ref f2) = true)
    {f3 : Addr} {od3 an3 : Option Addr} {sl3 : Array (Option Value)} {oc3 kV3 dc3 pm3 cd3 ct3 : Value}
    (a3 : PySem.W.nsIn K mainGlobals "rings_of" = some (some (.ref f3))) (l3 : K.lookup f3 = some ⟨oc3, od3, .func (PySem.W.fnOf "rings_of" "rings_of" (defArgs s_rings_of) (defBody s_rings_of) (defScope s_rings_of) .none kV3 dc3 pm3 an3 cd3 ct3), sl3⟩) (e3 : PySem.W.codeIn K cd3 "rings_of" = true) (k3 : PySem.W.keepIn K (.ref f3) = true)
    {f4 : Addr} {od4 an4 : Option Addr} {sl4 : Array (Option Value)} {oc4 kV4 dc4 pm4 cd4 ct4 : Value}
    (a4 : PySem.W.nsIn K mainGlobals "long_rings" = some (some (.ref f4))) (l4 : K.lookup f4 = some ⟨oc4, od4, .func (PySem.W.fnOf "long_rings" "long_rings" (defArgs s_long_rings) (defBody s_long_rings) (defScope s_long_rings) .none kV4 dc4 pm4 an4 cd4 ct4), sl4⟩) (e4 : PySem.W.codeIn K cd4 "long_rings" = true) (k4 : PySem.W.keepIn K (.ref f4) = true)
    {f5 : Addr} {od5 an5 : Option Addr} {sl5 : Array (Option Value)} {oc5 kV5 dc5 pm5 cd5 ct5 : Value}
    (a5 : PySem.W.nsIn K mainGlobals "check_count" = some (some (.ref f5))) (l5 : K.lookup f5 = some ⟨oc5, od5, .func (PySem.W.fnOf "check_count" "check_count" (defArgs s_check_count) (defBody s_check_count) (defScope s_check_count) .none kV5 dc5 pm5 an5 cd5 ct5), sl5⟩) (e5 : PySem.W.codeIn K cd5 "check_count" = true) (k5 : PySem.W.keepIn K (.ref f5) = true)
    {f6 : Addr} {od6 an6 : Option Addr} {sl6 : Array (Option Value)} {oc6 kV6 dc6 pm6 cd6 ct6 : Value}
    (a6 : PySem.W.nsIn K mainGlobals "check_counts" = some (some (.ref f6))) (l6 : K.lookup f6 = some ⟨oc6, od6, .func (PySem.W.fnOf "check_counts" "check_counts" (defArgs s_check_counts) (defBody s_check_counts) (defScope s_check_counts) .none kV6 dc6 pm6 an6 cd6 ct6), sl6⟩) (e6 : PySem.W.codeIn K cd6 "check_counts" = true) (k6 : PySem.W.keepIn K (.ref f6) = true)
    {f7 : Addr} {od7 an7 : Option Addr} {sl7 : Array (Option Value)} {oc7 kV7 dc7 pm7 cd7 ct7 : Value}
    (a7 : PySem.W.nsIn K mainGlobals "how_many" = some (some (.ref f7))) (l7 : K.lookup f7 = some ⟨oc7, od7, .func (PySem.W.fnOf "how_many" "how_many" (defArgs s_how_many) (defBody s_how_many) (defScope s_how_many) .none kV7 dc7 pm7 an7 cd7 ct7), sl7⟩) (e7 : PySem.W.codeIn K cd7 "how_many" = true) (k7 : PySem.W.keepIn K (.ref f7) = true)
    {f8 : Addr} {od8 an8 : Option Addr} {sl8 : Array (Option Value)} {oc8 kV8 dc8 pm8 cd8 ct8 : Value}
    (a8 : PySem.W.nsIn K mainGlobals "closed_ways" = some (some (.ref f8))) (l8 : K.lookup f8 = some ⟨oc8, od8, .func (PySem.W.fnOf "closed_ways" "closed_ways" (defArgs s_closed_ways) (defBody s_closed_ways) (defScope s_closed_ways) .none kV8 dc8 pm8 an8 cd8 ct8), sl8⟩) (e8 : PySem.W.codeIn K cd8 "closed_ways" = true) (k8 : PySem.W.keepIn K (.ref f8) = true)
    {f9 : Addr} {od9 an9 : Option Addr} {sl9 : Array (Option Value)} {oc9 kV9 dc9 pm9 cd9 ct9 : Value}
    (a9 : PySem.W.nsIn K mainGlobals "ways_behind" = some (some (.ref f9))) (l9 : K.lookup f9 = some ⟨oc9, od9, .func (PySem.W.fnOf "ways_behind" "ways_behind" (defArgs s_ways_behind) (defBody s_ways_behind) (defScope s_ways_behind) .none kV9 dc9 pm9 an9 cd9 ct9), sl9⟩) (e9 : PySem.W.codeIn K cd9 "ways_behind" = true) (k9 : PySem.W.keepIn K (.ref f9) = true)
    {f10 : Addr} {od10 an10 : Option Addr} {sl10 : Array (Option Value)} {oc10 kV10 dc10 pm10 cd10 ct10 : Value}
    (a10 : PySem.W.nsIn K mainGlobals "setting_by" = some (some (.ref f10))) (l10 : K.lookup f10 = some ⟨oc10, od10, .func (PySem.W.fnOf "setting_by" "setting_by" (defArgs s_setting_by) (defBody s_setting_by) (defScope s_setting_by) .none kV10 dc10 pm10 an10 cd10 ct10), sl10⟩) (e10 : PySem.W.codeIn K cd10 "setting_by" = true) (k10 : PySem.W.keepIn K (.ref f10) = true)
    {f11 : Addr} {od11 an11 : Option Addr} {sl11 : Array (Option Value)} {oc11 kV11 dc11 pm11 cd11 ct11 : Value}
    (a11 : PySem.W.nsIn K mainGlobals "number_of" = some (some (.ref f11))) (l11 : K.lookup f11 = some ⟨oc11, od11, .func (PySem.W.fnOf "number_of" "number_of" (defArgs s_number_of) (defBody s_number_of) (defScope s_number_of) .none kV11 dc11 pm11 an11 cd11 ct11), sl11⟩) (e11 : PySem.W.codeIn K cd11 "number_of" = true) (k11 : PySem.W.keepIn K (.ref f11) = true)
    {f12 : Addr} {od12 an12 : Option Addr} {sl12 : Array (Option Value)} {oc12 kV12 dc12 pm12 cd12 ct12 : Value}
    (a12 : PySem.W.nsIn K mainGlobals "_law_cell_at" = some (some (.ref f12))) (l12 : K.lookup f12 = some ⟨oc12, od12, .func (PySem.W.fnOf "_law_cell_at" "_law_cell_at" (defArgs s_law_cell_at) (defBody s_law_cell_at) (defScope s_law_cell_at) .none kV12 dc12 pm12 an12 cd12 ct12), sl12⟩) (e12 : PySem.W.codeIn K cd12 "_law_cell_at" = true) (k12 : PySem.W.keepIn K (.ref f12) = true)
    {f13 : Addr} {od13 an13 : Option Addr} {sl13 : Array (Option Value)} {oc13 kV13 dc13 pm13 cd13 ct13 : Value}
    (a13 : PySem.W.nsIn K mainGlobals "_law_draw" = some (some (.ref f13))) (l13 : K.lookup f13 = some ⟨oc13, od13, .func (PySem.W.fnOf "_law_draw" "_law_draw" (defArgs s_law_draw) (defBody s_law_draw) (defScope s_law_draw) .none kV13 dc13 pm13 an13 cd13 ct13), sl13⟩) (e13 : PySem.W.codeIn K cd13 "_law_draw" = true) (k13 : PySem.W.keepIn K (.ref f13) = true)
    {f14 : Addr} {od14 an14 : Option Addr} {sl14 : Array (Option Value)} {oc14 kV14 dc14 pm14 cd14 ct14 : Value}
    (a14 : PySem.W.nsIn K mainGlobals "_law_value" = some (some (.ref f14))) (l14 : K.lookup f14 = some ⟨oc14, od14, .func (PySem.W.fnOf "_law_value" "_law_value" (defArgs s_law_value) (defBody s_law_value) (defScope s_law_value) .none kV14 dc14 pm14 an14 cd14 ct14), sl14⟩) (e14 : PySem.W.codeIn K cd14 "_law_value" = true) (k14 : PySem.W.keepIn K (.ref f14) = true)
    {f15 : Addr} {od15 an15 : Option Addr} {sl15 : Array (Option Value)} {oc15 kV15 dc15 pm15 cd15 ct15 : Value}
    (a15 : PySem.W.nsIn K mainGlobals "_law_ring" = some (some (.ref f15))) (l15 : K.lookup f15 = some ⟨oc15, od15, .func (PySem.W.fnOf "_law_ring" "_law_ring" (defArgs s_law_ring) (defBody s_law_ring) (defScope s_law_ring) .none kV15 dc15 pm15 an15 cd15 ct15), sl15⟩) (e15 : PySem.W.codeIn K cd15 "_law_ring" = true) (k15 : PySem.W.keepIn K (.ref f15) = true)
    {f16 : Addr} {od16 an16 : Option Addr} {sl16 : Array (Option Value)} {oc16 kV16 dc16 pm16 cd16 ct16 : Value}
    (a16 : PySem.W.nsIn K mainGlobals "_law_longest" = some (some (.ref f16))) (l16 : K.lookup f16 = some ⟨oc16, od16, .func (PySem.W.fnOf "_law_longest" "_law_longest" (defArgs s_law_longest) (defBody s_law_longest) (defScope s_law_longest) .none kV16 dc16 pm16 an16 cd16 ct16), sl16⟩) (e16 : PySem.W.codeIn K cd16 "_law_longest" = true) (k16 : PySem.W.keepIn K (.ref f16) = true)
    {f17 : Addr} {od17 an17 : Option Addr} {sl17 : Array (Option Value)} {oc17 kV17 dc17 pm17 cd17 ct17 : Value}
    (a17 : PySem.W.nsIn K mainGlobals "_law_orders" = some (some (.ref f17))) (l17 : K.lookup f17 = some ⟨oc17, od17, .func (PySem.W.fnOf "_law_orders" "_law_orders" (defArgs s_law_orders) (defBody s_law_orders) (defScope s_law_orders) .none kV17 dc17 pm17 an17 cd17 ct17), sl17⟩) (e17 : PySem.W.codeIn K cd17 "_law_orders" = true) (k17 : PySem.W.keepIn K (.ref f17) = true)
    {f18 : Addr} {od18 an18 : Option Addr} {sl18 : Array (Option Value)} {oc18 kV18 dc18 pm18 cd18 ct18 : Value}
    (a18 : PySem.W.nsIn K mainGlobals "law" = some (some (.ref f18))) (l18 : K.lookup f18 = some ⟨oc18, od18, .func (PySem.W.fnOf "law" "law" (defArgs s_law) (defBody s_law) (defScope s_law) .none kV18 dc18 pm18 an18 cd18 ct18), sl18⟩) (e18 : PySem.W.codeIn K cd18 "law" = true) (k18 : PySem.W.keepIn K (.ref f18) = true)
    {tc0 : Tok} (x0 : PySem.W.nsIn K mainGlobals "GREATEST" = some (some (.int 100 tc0)))
    {tc1 : Tok} (x1 : PySem.W.nsIn K mainGlobals "NUMBERED" = some (some (.int 8 tc1)))
    (z0 : PySem.W.nsIn K mainGlobals "len" = some none)
    (z1 : PySem.W.nsIn K mainGlobals "range" = some none)
    (z2 : PySem.W.nsIn K mainGlobals "list" = some none)
    (z3 : PySem.W.nsIn K mainGlobals "isinstance" = some none)
    (z4 : PySem.W.nsIn K mainGlobals "all" = some none)
    (z5 : PySem.W.nsIn K mainGlobals "sorted" = some none)
    (z6 : PySem.W.nsIn K mainGlobals "int" = some none)
    (z7 : PySem.W.nsIn K mainGlobals "bool" = some none)
    (z8 : PySem.W.nsIn K mainGlobals "tuple" = some none)
    (z9 : PySem.W.nsIn K mainGlobals "max" = some none)
    (z10 : PySem.W.nsIn K mainGlobals "min" = some none)
    (z11 : PySem.W.nsIn K mainGlobals "enumerate" = some none)
    (z12 : PySem.W.nsIn K mainGlobals "sum" = some none)
    : ∃ fd : FuncData, (∀ (s : Shared) (v : Value), BindsTo s fd ⟨[v], []⟩ [("_law_script", v)]) ∧ ∀ base : Heap, K.In base → base.Ns mainGlobals mg → FnOk l.prog w K mg base CX0 14 fa fd ["_law_script"] (spLaw K) := by
  have e := hfa.symm.trans (PySem.W.mg_of X G a18)
  cases e
  have F0 := fun_mk (st := s_is_whole) l0 e0 k0
  have F1 := fun_mk (st := s_check_boxes) l1 e1 k1
  have F2 := fun_mk (st := s_ring_from) l2 e2 k2
  have F3 := fun_mk (st := s_rings_of) l3 e3 k3
  have F4 := fun_mk (st := s_long_rings) l4 e4 k4
  have F5 := fun_mk (st := s_check_count) l5 e5 k5
  have F6 := fun_mk (st := s_check_counts) l6 e6 k6
  have F7 := fun_mk (st := s_how_many) l7 e7 k7
  have F8 := fun_mk (st := s_closed_ways) l8 e8 k8
  have F9 := fun_mk (st := s_ways_behind) l9 e9 k9
  have F10 := fun_mk (st := s_setting_by) l10 e10 k10
  have F11 := fun_mk (st := s_number_of) l11 e11 k11
  have F12 := fun_mk (st := s_law_cell_at) l12 e12 k12
  have F13 := fun_mk (st := s_law_draw) l13 e13 k13
  have F14 := fun_mk (st := s_law_value) l14 e14 k14
  have F15 := fun_mk (st := s_law_ring) l15 e15 k15
  have F16 := fun_mk (st := s_law_longest) l16 e16 k16
  have F17 := fun_mk (st := s_law_orders) l17 e17 k17
  have F18 := fun_mk (st := s_law) l18 e18 k18
  refine ⟨_, fun s v => ?b, fun base _ _ => ok_law ⟨⟨_, _, F0, PySem.W.mg_of X G a0, F0.binds (ps := ["thing"]) fun _ _ _ _ _ _ us hl => match us, hl with | [_], _ => rfl⟩, ⟨_, _, F1, PySem.W.mg_of X G a1, F1.binds (ps := ["boxes", "most"]) fun _ _ _ _ _ _ us hl => match us, hl with | [_, _], _ => rfl⟩, ⟨_, _, F2, PySem.W.mg_of X G a2, F2.binds (ps := ["boxes", "hand"]) fun _ _ _ _ _ _ us hl => match us, hl with | [_, _], _ => rfl⟩, ⟨_, _, F3, PySem.W.mg_of X G a3, F3.binds (ps := ["boxes"]) fun _ _ _ _ _ _ us hl => match us, hl with | [_], _ => rfl⟩, ⟨_, _, F4, PySem.W.mg_of X G a4, F4.binds (ps := ["boxes", "most"]) fun _ _ _ _ _ _ us hl => match us, hl with | [_, _], _ => rfl⟩, ⟨_, _, F5, PySem.W.mg_of X G a5, F5.binds (ps := ["boxes", "most"]) fun _ _ _ _ _ _ us hl => match us, hl with | [_, _], _ => rfl⟩, ⟨_, _, F6, PySem.W.mg_of X G a6, F6.binds (ps := ["boxes", "most", "greatest"]) fun _ _ _ _ _ _ us hl => match us, hl with | [_, _, _], _ => rfl⟩, ⟨_, _, F7, PySem.W.mg_of X G a7, F7.binds (ps := ["boxes", "most"]) fun _ _ _ _ _ _ us hl => match us, hl with | [_, _], _ => rfl⟩, ⟨_, _, F8, PySem.W.mg_of X G a8, F8.binds (ps := ["chains", "most", "known"]) fun _ _ _ _ _ _ us hl => match us, hl with | [_, _, _], _ => rfl⟩, ⟨_, _, F9, PySem.W.mg_of X G a9, F9.binds (ps := ["slips", "boxes", "most", "known"]) fun _ _ _ _ _ _ us hl => match us, hl with | [_, _, _, _], _ => rfl⟩, ⟨_, _, F10, PySem.W.mg_of X G a10, F10.binds (ps := ["boxes", "most", "number"]) fun _ _ _ _ _ _ us hl => match us, hl with | [_, _, _], _ => rfl⟩, ⟨_, _, F11, PySem.W.mg_of X G a11, F11.binds (ps := ["setting", "most"]) fun _ _ _ _ _ _ us hl => match us, hl with | [_, _], _ => rfl⟩, ⟨_, _, F12, PySem.W.mg_of X G a12, F12.binds (ps := ["_law_script", "_law_k"]) fun _ _ _ _ _ _ us hl => match us, hl with | [_, _], _ => rfl⟩, ⟨_, _, F13, PySem.W.mg_of X G a13, F13.binds (ps := ["_law_cell", "_law_k", "_law_many"]) fun _ _ _ _ _ _ us hl => match us, hl with | [_, _, _], _ => rfl⟩, ⟨_, _, F14, PySem.W.mg_of X G a14, F14.binds (ps := ["_law_cell", "_law_turn"]) fun _ _ _ _ _ _ us hl => match us, hl with | [_, _], _ => rfl⟩, ⟨_, _, F15, PySem.W.mg_of X G a15, F15.binds (ps := ["_law_boxes", "_law_hand"]) fun _ _ _ _ _ _ us hl => match us, hl with | [_, _], _ => rfl⟩, ⟨_, _, F16, PySem.W.mg_of X G a16, F16.binds (ps := ["_law_boxes"]) fun _ _ _ _ _ _ us hl => match us, hl with | [_], _ => rfl⟩, ⟨_, _, F17, PySem.W.mg_of X G a17, F17.binds (ps := ["_law_many"]) fun _ _ _ _ _ _ us hl => match us, hl with | [_], _ => rfl⟩, _, PySem.W.mg_of X G x0, _, PySem.W.mg_of X G x1, PySem.W.mg_none_of X G z0, PySem.W.mg_none_of X G z1, PySem.W.mg_none_of X G z2, PySem.W.mg_none_of X G z3, PySem.W.mg_none_of X G z4, PySem.W.mg_none_of X G z5, PySem.W.mg_none_of X G z6, PySem.W.mg_none_of X G z7, PySem.W.mg_none_of X G z8, PySem.W.mg_none_of X G z9, PySem.W.mg_none_of X G z10, PySem.W.mg_none_of X G z11, PySem.W.mg_none_of X G z12⟩ F18⟩
  exact .of_eq rfl
end Sb
open PySem PySem.W PyProof.Rows
set_option maxHeartbeats 0 in
theorem PySem.Challenge.cw_slipboxes_k06_listed_holds : PySem.Challenge.rw_slipboxes_k06_listed.Holds := by
  w_on; o_law; k_head; (case hw => w_witness2)
  k_fill
  refine L2.walk_ofB (l := PySem.Challenge.rw_slipboxes_k06_listed) (n := 63) (k := 14) (x := "_law_script") (CX := fun _ => L2.CX0) (sp := fun w => Sb.spLaw _) rfl (by decide) rfl ⟨rfl, by decide, by decide⟩ (fun w h Y => PySem.W.kIn_of Y) ?F (fun _ _ a ns hl hb _ hS => ⟨a, ns, rfl, hS, hl, hb, fun _ => rfl⟩) (fun _ _ _ _ _ h => h)
  case F =>
    intro w mg fa h KX G hmg
    refine' Sb.all_mk KX G hmg ?a0 ?l0 ?e0 ?k0 ?a1 ?l1 ?e1 ?k1 ?a2 ?l2 ?e2 ?k2 ?a3 ?l3 ?e3 ?k3 ?a4 ?l4 ?e4 ?k4 ?a5 ?l5 ?e5 ?k5 ?a6 ?l6 ?e6 ?k6 ?a7 ?l7 ?e7 ?k7 ?a8 ?l8 ?e8 ?k8 ?a9 ?l9 ?e9 ?k9 ?a10 ?l10 ?e10 ?k10 ?a11 ?l11 ?e11 ?k11 ?a12 ?l12 ?e12 ?k12 ?a13 ?l13 ?e13 ?k13 ?a14 ?l14 ?e14 ?k14 ?a15 ?l15 ?e15 ?k15 ?a16 ?l16 ?e16 ?k16 ?a17 ?l17 ?e17 ?k17 ?a18 ?l18 ?e18 ?k18 ?x0 ?x1 ?z0 ?z1 ?z2 ?z3 ?z4 ?z5 ?z6 ?z7 ?z8 ?z9 ?z10 ?z11 ?z12
    (case a0 => k_is)
    (case l0 => k_is)
    (case e0 => k_is)
    (case k0 => k_is)
    (case a1 => k_is)
    (case l1 => k_is)
    (case e1 => k_is)
    (case k1 => k_is)
    (case a2 => k_is)
    (case l2 => k_is)
    (case e2 => k_is)
    (case k2 => k_is)
    (case a3 => k_is)
    (case l3 => k_is)
    (case e3 => k_is)
    (case k3 => k_is)
    (case a4 => k_is)
    (case l4 => k_is)
    (case e4 => k_is)
    (case k4 => k_is)
    (case a5 => k_is)
    (case l5 => k_is)
    (case e5 => k_is)
    (case k5 => k_is)
    (case a6 => k_is)
    (case l6 => k_is)
    (case e6 => k_is)
    (case k6 => k_is)
    (case a7 => k_is)
    (case l7 => k_is)
    (case e7 => k_is)
    (case k7 => k_is)
    (case a8 => k_is)
    (case l8 => k_is)
    (case e8 => k_is)
    (case k8 => k_is)
    (case a9 => k_is)
    (case l9 => k_is)
    (case e9 => k_is)
    (case k9 => k_is)
    (case a10 => k_is)
    (case l10 => k_is)
    (case e10 => k_is)
    (case k10 => k_is)
    (case a11 => k_is)
    (case l11 => k_is)
    (case e11 => k_is)
    (case k11 => k_is)
    (case a12 => k_is)
    (case l12 => k_is)
    (case e12 => k_is)
    (case k12 => k_is)
    (case a13 => k_is)
    (case l13 => k_is)
    (case e13 => k_is)
    (case k13 => k_is)
    (case a14 => k_is)
    (case l14 => k_is)
    (case e14 => k_is)
    (case k14 => k_is)
    (case a15 => k_is)
    (case l15 => k_is)
    (case e15 => k_is)
    (case k15 => k_is)
    (case a16 => k_is)
    (case l16 => k_is)
    (case e16 => k_is)
    (case k16 => k_is)
    (case a17 => k_is)
    (case l17 => k_is)
    (case e17 => k_is)
    (case k17 => k_is)
    (case a18 => k_is)
    (case l18 => k_is)
    (case e18 => k_is)
    (case k18 => k_is)
    (case x0 => k_is)
    (case x1 => k_is)
    (case z0 => k_is)
    (case z1 => k_is)
    (case z2 => k_is)
    (case z3 => k_is)
    (case z4 => k_is)
    (case z5 => k_is)
    (case z6 => k_is)
    (case z7 => k_is)
    (case z8 => k_is)
    (case z9 => k_is)
    (case z10 => k_is)
    (case z11 => k_is)
    (case z12 => k_is)

