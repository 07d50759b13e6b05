import PyProof.Rows.All
import Wide.All
import OpenK.AllK
import Wide.FinOn
import HandS.ForMost
import HandS.IsInst
import HandS.Conv
import HandS.More
import HandS.Zip
import HandS.Wide
import HandS.SortInts
import HandS.EndBits
import KE.IntBitsLaws
import HandS.Style
import HandS.Deep
import PyProof.P3In
import HandS.Walk
import HandS.Codes
import KE.BitLaws
import KE.DataCmp
import KE.SortData
import HandS.ForExc
import HandS.Lambda
import HandS.ExcIs
import HandS.EndTab
import HandS.CallLocal
import KE.KNest
import PySem.Challenge.RW_slipboxes_k09_whole_hard
set_option Elab.async false
set_option linter.all false
set_option maxRecDepth 100000
set_option maxHeartbeats 4000000
/-! Rings of boxes, in plain Lean. -/
namespace Sb

/-- the slip in box i -/
def nxt (ns : List Nat) (i : Nat) : Nat := ns.getD i 0

/-- boxes: each number below the length once -/
structure Good (ns : List Nat) : Prop where
  perm : ns.Perm (List.range ns.length)

theorem Good.nodup {ns : List Nat} (g : Good ns) : ns.Nodup := g.perm.nodup_iff.mpr List.nodup_range
theorem Good.lt {ns : List Nat} (g : Good ns) {x : Nat} (h : x ∈ ns) : x < ns.length := List.mem_range.mp (g.perm.mem_iff.mp h)
theorem Good.mem {ns : List Nat} (g : Good ns) {x : Nat} (h : x < ns.length) : x ∈ ns := g.perm.mem_iff.mpr (List.mem_range.mpr h)

theorem nxt_get {ns : List Nat} {i : Nat} (h : i < ns.length) : nxt ns i = ns[i] := by
  unfold nxt; rw [List.getD_eq_getElem?_getD, List.getElem?_eq_getElem h]; rfl
theorem nxt_get? {ns : List Nat} {i : Nat} (h : i < ns.length) : ns[i]? = some (nxt ns i) := by
  rw [nxt_get h, List.getElem?_eq_getElem h]
theorem Good.nxt_lt {ns : List Nat} (g : Good ns) {i : Nat} (h : i < ns.length) : nxt ns i < ns.length := by
  rw [nxt_get h]; exact g.lt (List.getElem_mem h)
theorem Good.inj {ns : List Nat} (g : Good ns) {i j : Nat} (hi : i < ns.length) (hj : j < ns.length) (e : nxt ns i = nxt ns j) : i = j := by
  rw [nxt_get hi, nxt_get hj] at e
  exact (List.getElem_inj g.nodup).mp e

/-- r goes from h on where the slips lead, no box twice -/
structure Chain (ns : List Nat) (h : Nat) (r : List Nat) : Prop where
  head : r[0]? = some h
  step : ∀ i x y, r[i]? = some x → r[i + 1]? = some y → nxt ns x = y
  nd : r.Nodup
  lt : ∀ x ∈ r, x < ns.length

/-- a ring from h on -/
structure IsRing (ns : List Nat) (h : Nat) (r : List Nat) : Prop extends Chain ns h r where
  back : ∀ x, r[r.length - 1]? = some x → nxt ns x = h

theorem Chain.pos {ns : List Nat} {h : Nat} {r : List Nat} (c : Chain ns h r) : 0 < r.length := by
  have := c.head
  cases r with
  | nil => simp at this
  | cons a l => simp
theorem Chain.hlt {ns : List Nat} {h : Nat} {r : List Nat} (c : Chain ns h r) : h < ns.length := c.lt h (List.mem_of_getElem? c.head)
theorem Chain.hmem {ns : List Nat} {h : Nat} {r : List Nat} (c : Chain ns h r) : h ∈ r := List.mem_of_getElem? c.head
theorem Chain.one {ns : List Nat} {h : Nat} (hh : h < ns.length) : Chain ns h [h] where
  head := rfl
  step := fun i x y _ e => by simp at e
  nd := by simp
  lt := fun x hx => by simp at hx; subst hx; exact hh

theorem nodup_le : ∀ {n : Nat} {r : List Nat}, r.Nodup → (∀ x ∈ r, x < n) → r.length ≤ n
  | 0, r, _, lt => by
    cases r with
    | nil => simp
    | cons a l => exact absurd (lt a List.mem_cons_self) (Nat.not_lt_zero a)
  | n + 1, r, nd, lt => by
    have ih := nodup_le (n := n) (r := r.erase n) (nd.erase n) fun x hx => by
      have h1 := lt x (List.mem_of_mem_erase hx)
      have h2 : x ≠ n := fun e => by
        subst e
        exact (List.Nodup.not_mem_erase nd) hx
      omega
    by_cases h : n ∈ r
    · rw [List.length_erase_of_mem h] at ih
      omega
    · rw [List.erase_of_not_mem h] at ih
      omega
theorem Chain.len_le {ns : List Nat} {h : Nat} {r : List Nat} (c : Chain ns h r) : r.length ≤ ns.length := nodup_le c.nd c.lt

/-- the slip behind a chain is its first box, or a new one -/
theorem Chain.slip {ns : List Nat} {h : Nat} {r : List Nat} (g : Good ns) (c : Chain ns h r) {x : Nat} (hx : r[r.length - 1]? = some x) (hm : nxt ns x ∈ r) : nxt ns x = h := by
  obtain ⟨j, hj, e⟩ := List.mem_iff_getElem.mp hm
  cases j with
  | zero =>
    have := c.head
    rw [List.getElem?_eq_getElem hj] at this
    rw [← e]; exact Option.some.inj this
  | succ j =>
    exfalso
    have hj' : j < r.length := by omega
    have e1 : nxt ns r[j] = r[j + 1] := c.step j _ _ (List.getElem?_eq_getElem hj') (List.getElem?_eq_getElem hj)
    have hl : r.length - 1 < r.length := by omega
    have ex : r[r.length - 1] = x := by
      rw [List.getElem?_eq_getElem hl] at hx
      exact Option.some.inj hx
    have e2 : r[j] = x := g.inj (c.lt _ (List.getElem_mem hj')) (c.lt _ (ex ▸ List.getElem_mem hl)) (by rw [e1, e])
    have : j = r.length - 1 := (List.getElem_inj c.nd).mp (e2.trans ex.symm)
    omega

theorem last?_append {r : List Nat} {y : Nat} : (r ++ [y])[(r ++ [y]).length - 1]? = some y := by
  simp

theorem Chain.more {ns : List Nat} {h : Nat} {r : List Nat} (c : Chain ns h r) {x : Nat} (hx : r[r.length - 1]? = some x) (hn : nxt ns x ∉ r) (hl : nxt ns x < ns.length) : Chain ns h (r ++ [nxt ns x]) where
  head := by
    rw [List.getElem?_append_left c.pos]; exact c.head
  step := fun i a b ha hb => by
    by_cases hi : i + 1 < r.length
    · rw [List.getElem?_append_left (by omega)] at ha
      rw [List.getElem?_append_left hi] at hb
      exact c.step i a b ha hb
    · have hlt : i + 1 < (r ++ [nxt ns x]).length := by
        obtain ⟨h1, _⟩ := List.getElem?_eq_some_iff.mp hb; exact h1
      rw [List.length_append] at hlt
      simp at hlt
      have hi2 : i = r.length - 1 := by omega
      have hp := c.pos
      rw [List.getElem?_append_left (by omega), hi2, hx] at ha
      rw [List.getElem?_append_right (by omega)] at hb
      have : i + 1 - r.length = 0 := by omega
      rw [this] at hb
      cases ha
      simpa using hb
  nd := by
    rw [List.nodup_append]
    refine ⟨c.nd, by simp, ?_⟩
    intro a ha b hb
    simp at hb
    subst hb
    intro e; subst e; exact hn ha
  lt := fun y hy => by
    rcases List.mem_append.mp hy with z | z
    · exact c.lt y z
    · simp at z; subst z; exact hl

theorem Chain.last {ns : List Nat} {h : Nat} {r : List Nat} (c : Chain ns h r) : ∃ x, r[r.length - 1]? = some x ∧ x ∈ r ∧ x < ns.length := by
  have hp := c.pos
  have hl : r.length - 1 < r.length := by omega
  exact ⟨r[r.length - 1], List.getElem?_eq_getElem hl, List.getElem_mem hl, c.lt _ (List.getElem_mem hl)⟩

/-- the ring of a hand, by steps -/
def ringGo (ns : List Nat) (h : Nat) : Nat → List Nat → List Nat
  | 0, r => r
  | k + 1, r => if nxt ns (r.getLastD 0) = h then r else ringGo ns h k (r ++ [nxt ns (r.getLastD 0)])
def ringOf (ns : List Nat) (h : Nat) : List Nat := ringGo ns h ns.length [h]

theorem getLastD_of {r : List Nat} {x : Nat} (hx : r[r.length - 1]? = some x) : r.getLastD 0 = x := by
  rw [List.getLastD_eq_getLast?, List.getLast?_eq_getElem?, hx]; rfl

theorem ringGo_is {ns : List Nat} {h : Nat} (g : Good ns) : ∀ (k : Nat) (r : List Nat), Chain ns h r → ns.length < r.length + k → IsRing ns h (ringGo ns h k r)
  | 0, r, c, hk => by have := c.len_le; omega
  | k + 1, r, c, hk => by
    obtain ⟨x, hx, hm, hl⟩ := c.last
    unfold ringGo
    rw [getLastD_of hx]
    by_cases e : nxt ns x = h
    · rw [if_pos e]
      exact ⟨c, fun y hy => by rw [hx] at hy; cases hy; exact e⟩
    · rw [if_neg e]
      refine ringGo_is g k _ (c.more hx (fun z => e (c.slip g hx z)) (g.nxt_lt hl)) ?_
      rw [List.length_append, List.length_singleton]; omega

theorem ringOf_is {ns : List Nat} {h : Nat} (g : Good ns) (hh : h < ns.length) : IsRing ns h (ringOf ns h) :=
  ringGo_is g _ _ (Chain.one hh) (by simp)

theorem Chain.same {ns : List Nat} {h : Nat} {r q : List Nat} (c : Chain ns h r) (d : Chain ns h q) : ∀ i, i < r.length → i < q.length → r[i]? = q[i]?
  | 0, _, _ => c.head.trans d.head.symm
  | i + 1, h1, h2 => by
    have ih := Chain.same c d i (by omega) (by omega)
    have e1 := c.step i _ _ (List.getElem?_eq_getElem (by omega)) (List.getElem?_eq_getElem h1)
    have e2 := d.step i _ _ (List.getElem?_eq_getElem (by omega)) (List.getElem?_eq_getElem h2)
    rw [List.getElem?_eq_getElem (by omega), List.getElem?_eq_getElem (by omega)] at ih
    rw [List.getElem?_eq_getElem h1, List.getElem?_eq_getElem h2, ← e1, ← e2, Option.some.inj ih]

theorem IsRing.not_lt {ns : List Nat} {h : Nat} {r q : List Nat} (c : IsRing ns h r) (d : Chain ns h q) : ¬ r.length < q.length := fun hlt => by
  have hp := c.pos
  obtain ⟨x, hx, hm, hl⟩ := c.toChain.last
  have e := Chain.same c.toChain d (r.length - 1) (by omega) (by omega)
  have b := c.back x hx
  rw [hx] at e
  have s := d.step (r.length - 1) x _ e.symm (by rw [show r.length - 1 + 1 = r.length by omega]; exact List.getElem?_eq_getElem hlt)
  rw [b] at s
  have h0 := d.head
  have hq : 0 < q.length := by omega
  rw [List.getElem?_eq_getElem hq] at h0
  have : 0 = r.length := (List.getElem_inj d.nd).mp ((Option.some.inj h0).trans s)
  omega

theorem IsRing.unique {ns : List Nat} {h : Nat} {r q : List Nat} (c : IsRing ns h r) (d : IsRing ns h q) : r = q := by
  have hl : r.length = q.length := by
    have h1 := c.not_lt d.toChain
    have h2 := d.not_lt c.toChain
    omega
  apply List.ext_getElem? 
  intro i
  by_cases hi : i < r.length
  · exact Chain.same c.toChain d.toChain i hi (by omega)
  · rw [List.getElem?_eq_none (by omega), List.getElem?_eq_none (by omega)]

theorem IsRing.eq {ns : List Nat} {h : Nat} {r : List Nat} (g : Good ns) (c : IsRing ns h r) : r = ringOf ns h := c.unique (ringOf_is g c.toChain.hlt)

end Sb

namespace Sb

theorem ringOf_nd {ns : List Nat} {h : Nat} (g : Good ns) (hh : h < ns.length) : (ringOf ns h).Nodup := (ringOf_is g hh).nd
theorem ringOf_lt {ns : List Nat} {h x : Nat} (g : Good ns) (hh : h < ns.length) (hx : x ∈ ringOf ns h) : x < ns.length := (ringOf_is g hh).lt x hx
theorem ringOf_mem {ns : List Nat} {h : Nat} (g : Good ns) (hh : h < ns.length) : h ∈ ringOf ns h := (ringOf_is g hh).toChain.hmem
theorem ringOf_len {ns : List Nat} {h : Nat} (g : Good ns) (hh : h < ns.length) : (ringOf ns h).length ≤ ns.length := (ringOf_is g hh).toChain.len_le
theorem ringOf_pos {ns : List Nat} {h : Nat} (g : Good ns) (hh : h < ns.length) : 0 < (ringOf ns h).length := (ringOf_is g hh).toChain.pos

/-- consecutive boxes of a list, each leading to the next -/
def Leads (ns : List Nat) : List Nat → Prop
  | x :: y :: r => nxt ns x = y ∧ Leads ns (y :: r)
  | _ => True

/-- IsRing by a list's own form -/
theorem isRing_iff {ns : List Nat} {h : Nat} {r : List Nat} : IsRing ns h r ↔ r[0]? = some h ∧ r.Nodup ∧ (∀ x ∈ r, x < ns.length) ∧ ∀ i x y, r[i]? = some x → r[(i + 1) % r.length]? = some y → nxt ns x = y := by
  constructor
  · intro c
    refine ⟨c.head, c.nd, c.lt, fun i x y hx hy => ?_⟩
    have hi : i < r.length := (List.getElem?_eq_some_iff.mp hx).1
    by_cases hl : i + 1 < r.length
    · rw [Nat.mod_eq_of_lt hl] at hy
      exact c.step i x y hx hy
    · have e : i + 1 = r.length := by omega
      rw [e, Nat.mod_self, c.head] at hy
      cases hy
      exact c.back x (by rw [← e]; exact hx)
  · rintro ⟨h0, nd, lt, st⟩
    refine ⟨⟨h0, fun i x y hx hy => ?_, nd, lt⟩, fun x hx => ?_⟩
    · have hl : i + 1 < r.length := (List.getElem?_eq_some_iff.mp hy).1
      exact st i x y hx (by rw [Nat.mod_eq_of_lt hl]; exact hy)
    · have hi : r.length - 1 < r.length := (List.getElem?_eq_some_iff.mp hx).1
      exact st (r.length - 1) x h hx (by rw [show r.length - 1 + 1 = r.length by omega, Nat.mod_self]; exact h0)

/-- a ring turned -/
theorem IsRing.turn {ns : List Nat} {h y : Nat} {a b : List Nat} (c : IsRing ns h (a ++ y :: b)) : IsRing ns y (y :: b ++ a) := by
  rw [isRing_iff] at c ⊢
  obtain ⟨h0, nd, lt, st⟩ := c
  refine ⟨rfl, ?_, fun x hx => lt x ?_, fun i x z hx hz => ?_⟩
  · exact (List.perm_append_comm.nodup_iff).mp nd
  · exact (List.perm_append_comm.mem_iff).mp hx
  · have hn : (y :: b ++ a).length = (a ++ y :: b).length := by simp; omega
    have key : ∀ j, j < (a ++ y :: b).length → (y :: b ++ a)[j]? = (a ++ y :: b)[(j + a.length) % (a ++ y :: b).length]? := by
      intro j hj
      by_cases hjb : j < (y :: b).length
      · have e : (j + a.length) % (a ++ y :: b).length = j + a.length := Nat.mod_eq_of_lt (by rw [List.length_append]; omega)
        rw [e, List.getElem?_append_left hjb, List.getElem?_append_right (by omega)]
        congr 1; omega
      · have hl : (a ++ y :: b).length = a.length + (y :: b).length := List.length_append
        have e : (j + a.length) % (a ++ y :: b).length = j - (y :: b).length := by
          rw [Nat.mod_eq_sub_mod (by omega), Nat.mod_eq_of_lt (by omega)]; omega
        rw [e, List.getElem?_append_right (by omega), List.getElem?_append_left (by omega)]
    have hi : i < (a ++ y :: b).length := by
      have := (List.getElem?_eq_some_iff.mp hx).1; omega
    rw [key i hi] at hx
    rw [hn, key _ (Nat.mod_lt _ (by omega))] at hz
    refine st _ x z hx ?_
    rw [← hz]
    congr 1
    rw [Nat.mod_add_mod, Nat.mod_add_mod]
    congr 1; omega

theorem ringOf_turn {ns : List Nat} {h y : Nat} (g : Good ns) (hh : h < ns.length) (hy : y ∈ ringOf ns h) : ∃ a b, ringOf ns h = a ++ y :: b ∧ ringOf ns y = y :: b ++ a := by
  obtain ⟨a, b, e⟩ := List.append_of_mem hy
  have c := ringOf_is g hh
  rw [e] at c
  exact ⟨a, b, e, (c.turn.eq g).symm⟩

theorem ringOf_perm {ns : List Nat} {h y : Nat} (g : Good ns) (hh : h < ns.length) (hy : y ∈ ringOf ns h) : (ringOf ns y).Perm (ringOf ns h) := by
  obtain ⟨a, b, e1, e2⟩ := ringOf_turn g hh hy
  rw [e1, e2]
  exact List.perm_append_comm
theorem ringOf_mem_iff {ns : List Nat} {h y x : Nat} (g : Good ns) (hh : h < ns.length) (hy : y ∈ ringOf ns h) : x ∈ ringOf ns y ↔ x ∈ ringOf ns h := (ringOf_perm g hh hy).mem_iff
theorem ringOf_symm {ns : List Nat} {h y : Nat} (g : Good ns) (hh : h < ns.length) (hy : y ∈ ringOf ns h) : h ∈ ringOf ns y := (ringOf_mem_iff g hh hy).mpr (ringOf_mem g hh)
theorem ringOf_len_eq {ns : List Nat} {h y : Nat} (g : Good ns) (hh : h < ns.length) (hy : y ∈ ringOf ns h) : (ringOf ns y).length = (ringOf ns h).length := (ringOf_perm g hh hy).length_eq

/-- h is the least of its ring -/
def isMin (ns : List Nat) (h : Nat) : Bool := (ringOf ns h).all fun x => decide (h ≤ x)
theorem isMin_iff {ns : List Nat} {h : Nat} : isMin ns h = true ↔ ∀ x ∈ ringOf ns h, h ≤ x := by
  unfold isMin
  rw [List.all_eq_true]
  simp
/-- the rings from the boxes below k on -/
def ringsTo (ns : List Nat) (k : Nat) : List (List Nat) := ((List.range k).filter (isMin ns)).map (ringOf ns)
def ringsOf (ns : List Nat) : List (List Nat) := ringsTo ns ns.length
theorem ringsTo_zero (ns : List Nat) : ringsTo ns 0 = [] := rfl
theorem ringsTo_succ (ns : List Nat) (k : Nat) : ringsTo ns (k + 1) = if isMin ns k = true then ringsTo ns k ++ [ringOf ns k] else ringsTo ns k := by
  unfold ringsTo
  rw [List.range_succ, List.filter_append, List.map_append]
  by_cases h : isMin ns k = true
  · rw [if_pos h]; simp [h]
  · rw [if_neg h]; simp [h]

theorem exists_min : ∀ (r : List Nat), r ≠ [] → ∃ m, m ∈ r ∧ ∀ x ∈ r, m ≤ x
  | [], h => absurd rfl h
  | [a], _ => ⟨a, by simp, fun x hx => by simp at hx; omega⟩
  | a :: b :: l, _ => by
    obtain ⟨m, hm, hl⟩ := exists_min (b :: l) (by simp)
    by_cases h : a ≤ m
    · exact ⟨a, by simp, fun x hx => by
        rcases List.mem_cons.mp hx with e | e
        · omega
        · have := hl x e; omega⟩
    · exact ⟨m, List.mem_cons_of_mem _ hm, fun x hx => by
        rcases List.mem_cons.mp hx with e | e
        · omega
        · exact hl x e⟩

/-- box k stands in a ring from a lesser box on, just where it is not the least of its own -/
theorem gone_iff {ns : List Nat} (g : Good ns) {k : Nat} (hk : k < ns.length) : k ∈ (ringsTo ns k).flatten ↔ ¬ isMin ns k = true := by
  unfold ringsTo
  rw [List.mem_flatten]
  constructor
  · rintro ⟨r, hr, hkr⟩ hm
    obtain ⟨h, hh, rfl⟩ := List.mem_map.mp hr
    obtain ⟨h1, h2⟩ := List.mem_filter.mp hh
    have h3 := List.mem_range.mp h1
    have := isMin_iff.mp hm h (ringOf_symm g (by omega) hkr)
    omega
  · intro hm
    obtain ⟨m, hm1, hm2⟩ := exists_min (ringOf ns k) (fun e => by have := ringOf_pos g hk; rw [e] at this; simp at this)
    have hmk : m ≤ k := hm2 k (ringOf_mem g hk)
    have hml : m < ns.length := ringOf_lt g hk hm1
    have hmin : isMin ns m = true := isMin_iff.mpr fun x hx => hm2 x ((ringOf_mem_iff g hk hm1).mp hx)
    have hne : m ≠ k := fun e => by subst e; exact hm hmin
    exact ⟨ringOf ns m, List.mem_map.mpr ⟨m, List.mem_filter.mpr ⟨List.mem_range.mpr (by omega), hmin⟩, rfl⟩, ringOf_symm g hk hm1⟩

theorem ringsOf_mem {ns : List Nat} {r : List Nat} (h : r ∈ ringsOf ns) : ∃ k, k < ns.length ∧ isMin ns k = true ∧ r = ringOf ns k := by
  unfold ringsOf ringsTo at h
  obtain ⟨k, hk, rfl⟩ := List.mem_map.mp h
  obtain ⟨h1, h2⟩ := List.mem_filter.mp hk
  exact ⟨k, List.mem_range.mp h1, h2, rfl⟩
theorem ringsTo_len (ns : List Nat) (k : Nat) : (ringsTo ns k).length ≤ k := by
  unfold ringsTo
  rw [List.length_map]
  have := List.length_filter_le (isMin ns) (List.range k)
  rwa [List.length_range] at this
end Sb

namespace Sb

/-! ### boxes laid by a law's own steps -/
theorem good_of_perm {ns : List Nat} {m : Nat} (h : ns.Perm (List.range m)) : Good ns := ⟨by
  have e : ns.length = m := by rw [h.length_eq, List.length_range]
  rw [e]; exact h⟩
theorem insert_perm {ns : List Nat} {i m : Nat} (h : ns.Perm (List.range m)) : (ns.take i ++ [m] ++ ns.drop i).Perm (List.range (m + 1)) := by
  rw [List.range_succ]
  have h1 : (ns.take i ++ [m] ++ ns.drop i).Perm (ns.take i ++ ns.drop i ++ [m]) := by
    rw [List.append_assoc, List.append_assoc]
    exact List.Perm.append_left _ List.perm_append_comm
  rw [List.take_append_drop] at h1
  exact h1.trans (List.Perm.append_right _ h)

/-- slips laid one after the other -/
def layAll (f : List Nat) (ps : List (Nat × Nat)) : List Nat := ps.foldl (fun f p => f.set p.1 p.2) f
theorem layAll_snoc (f : List Nat) (ps : List (Nat × Nat)) (p : Nat × Nat) : layAll f (ps ++ [p]) = (layAll f ps).set p.1 p.2 := by
  unfold layAll; rw [List.foldl_append]; rfl
theorem layAll_len : ∀ (ps : List (Nat × Nat)) (f : List Nat), (layAll f ps).length = f.length
  | [], _ => rfl
  | p :: ps, f => by
    show (layAll (f.set p.1 p.2) ps).length = f.length
    rw [layAll_len ps, List.length_set]
theorem nxt_set_ne {f : List Nat} {i j v : Nat} (h : i ≠ j) : nxt (f.set i v) j = nxt f j := by
  unfold nxt; rw [List.getD_eq_getElem?_getD, List.getD_eq_getElem?_getD, List.getElem?_set_ne h]
theorem nxt_set_eq {f : List Nat} {i v : Nat} (h : i < f.length) : nxt (f.set i v) i = v := by
  unfold nxt; rw [List.getD_eq_getElem?_getD, List.getElem?_set_self h]; rfl
theorem layAll_out : ∀ (ps : List (Nat × Nat)) (f : List Nat) (x : Nat), x ∉ ps.map (·.1) → nxt (layAll f ps) x = nxt f x
  | [], _, _, _ => rfl
  | p :: ps, f, x, h => by
    show nxt (layAll (f.set p.1 p.2) ps) x = nxt f x
    rw [List.map_cons, List.mem_cons, not_or] at h
    rw [layAll_out ps _ x h.2, nxt_set_ne (fun e => h.1 e.symm)]
theorem layAll_in : ∀ (ps : List (Nat × Nat)) (f : List Nat), (ps.map (·.1)).Nodup → (∀ p ∈ ps, p.1 < f.length) → (ps.map (·.1)).map (nxt (layAll f ps)) = ps.map (·.2)
  | [], _, _, _ => rfl
  | p :: ps, f, nd, lt => by
    rw [List.map_cons, List.nodup_cons] at nd
    have e1 : nxt (layAll (f.set p.1 p.2) ps) p.1 = p.2 := by
      rw [layAll_out ps _ _ nd.1, nxt_set_eq (lt p List.mem_cons_self)]
    have e2 := layAll_in ps (f.set p.1 p.2) nd.2 (fun q hq => by rw [List.length_set]; exact lt q (List.mem_cons_of_mem _ hq))
    show nxt (layAll (f.set p.1 p.2) ps) p.1 :: (ps.map (·.1)).map (nxt (layAll (f.set p.1 p.2) ps)) = _
    rw [e1, e2]; rfl

/-- a ring's boxes and their slips -/
def rot (r : List Nat) : List Nat := r.drop 1 ++ r.take 1
theorem rot_perm (r : List Nat) : (rot r).Perm r := by
  unfold rot
  exact List.perm_append_comm.trans (by rw [List.take_append_drop])
theorem rot_len (r : List Nat) : (rot r).length = r.length := (rot_perm r).length_eq
theorem zip_fst {r q : List Nat} (h : r.length = q.length) : (r.zip q).map (·.1) = r := by
  rw [List.map_fst_zip]; omega
theorem zip_snd {r q : List Nat} (h : r.length = q.length) : (r.zip q).map (·.2) = q := by
  rw [List.map_snd_zip]; omega

/-- what holds between the blocks: the boxes of the first b of the order lead to one another -/
structure Laid (order f : List Nat) (b : Nat) : Prop where
  len : f.length = order.length
  perm : ((order.take b).map (nxt f)).Perm (order.take b)
theorem Laid.start (order : List Nat) (f : List Nat) (h : f.length = order.length) : Laid order f 0 := ⟨h, by simp⟩
theorem Laid.step {order f : List Nat} {b s : Nat} (ho : order.Perm (List.range order.length)) (L : Laid order f b) :
    Laid order (layAll f (((order.drop b).take s).zip (rot ((order.drop b).take s)))) (b + s) := by
  have nd : order.Nodup := ho.nodup_iff.mpr List.nodup_range
  have hr : ((order.drop b).take s).length = (rot ((order.drop b).take s)).length := (rot_len _).symm
  have et : order.take (b + s) = order.take b ++ (order.drop b).take s := List.take_add
  have nd2 : (order.take b ++ (order.drop b).take s).Nodup := by
    rw [← et]; exact nd.sublist (List.take_sublist _ _)
  rw [List.nodup_append] at nd2
  refine ⟨by rw [layAll_len]; exact L.len, ?_⟩
  rw [et, List.map_append]
  refine List.Perm.append ?_ ?_
  · have e : (order.take b).map (nxt (layAll f (((order.drop b).take s).zip (rot ((order.drop b).take s))))) = (order.take b).map (nxt f) := by
      apply List.map_congr_left
      intro x hx
      refine layAll_out _ _ _ ?_
      rw [zip_fst hr]
      exact fun z => nd2.2.2 x hx x z rfl
    rw [e]; exact L.perm
  · have e := layAll_in (((order.drop b).take s).zip (rot ((order.drop b).take s))) f (by rw [zip_fst hr]; exact nd2.2.1) (fun p hp => by
      have h1 : p.1 ∈ (order.drop b).take s := by
        rw [← zip_fst hr]; exact List.mem_map.mpr ⟨p, hp, rfl⟩
      have h2 : p.1 ∈ order := List.mem_of_mem_drop (List.mem_of_mem_take h1)
      rw [L.len]
      exact List.mem_range.mp (ho.mem_iff.mp h2))
    rw [zip_fst hr, zip_snd hr] at e
    rw [e]; exact rot_perm _
theorem map_nxt_range (f : List Nat) : (List.range f.length).map (nxt f) = f := by
  apply List.ext_getElem?
  intro i
  rw [List.getElem?_map]
  by_cases h : i < f.length
  · rw [List.getElem?_range h, nxt_get? h]; rfl
  · rw [List.getElem?_eq_none (by rw [List.length_range]; omega), List.getElem?_eq_none (by omega)]; rfl
theorem Laid.done {order f : List Nat} {b : Nat} (ho : order.Perm (List.range order.length)) (L : Laid order f b) (hb : order.length ≤ b) : Good f := by
  have p := L.perm
  rw [List.take_of_length_le hb] at p
  have q : ((List.range f.length).map (nxt f)).Perm (order.map (nxt f)) := by
    rw [L.len]; exact (ho.map _).symm
  rw [map_nxt_range] at q
  refine good_of_perm (m := order.length) ?_
  exact (q.trans p).trans ho

theorem flatten_len {n : Nat} : ∀ (l : List (List Nat)), (∀ r ∈ l, r.length ≤ n) → l.flatten.length ≤ l.length * n
  | [], _ => by simp
  | r :: l, h => by
    have ih := flatten_len l fun q hq => h q (List.mem_cons_of_mem _ hq)
    have h1 := h r List.mem_cons_self
    rw [List.flatten_cons, List.length_append, List.length_cons, Nat.succ_mul]
    omega
theorem ringsTo_flat {ns : List Nat} (g : Good ns) {k : Nat} (hk : k ≤ ns.length) : (ringsTo ns k).flatten.length ≤ k * ns.length := by
  have h := flatten_len (n := ns.length) (ringsTo ns k) fun r hr => by
    unfold ringsTo at hr
    obtain ⟨h, hh, rfl⟩ := List.mem_map.mp hr
    have := List.mem_range.mp (List.mem_filter.mp hh).1
    exact ringOf_len g (by omega)
  exact Nat.le_trans h (Nat.mul_le_mul_right _ (ringsTo_len ns k))
end Sb

namespace Sb

/-! ### hands that open at most m boxes; lists of any numbers that are rings -/
def Short (ns : List Nat) (m : Nat) : Prop := ∀ h, h < ns.length → (ringOf ns h).length ≤ m
def longOf (ns : List Nat) (m : Nat) : List (List Nat) := (ringsOf ns).filter fun r => decide (m < r.length)
theorem min_of {ns : List Nat} (g : Good ns) {h : Nat} (hh : h < ns.length) : ∃ k, k < ns.length ∧ isMin ns k = true ∧ k ∈ ringOf ns h ∧ (ringOf ns k).length = (ringOf ns h).length := by
  obtain ⟨m, hm1, hm2⟩ := exists_min (ringOf ns h) (fun e => by have := ringOf_pos g hh; rw [e] at this; simp at this)
  exact ⟨m, ringOf_lt g hh hm1, isMin_iff.mpr fun x hx => hm2 x ((ringOf_mem_iff g hh hm1).mp hx), hm1, ringOf_len_eq g hh hm1⟩
theorem mem_ringsOf {ns : List Nat} {k : Nat} (hk : k < ns.length) (hm : isMin ns k = true) : ringOf ns k ∈ ringsOf ns :=
  List.mem_map.mpr ⟨k, List.mem_filter.mpr ⟨List.mem_range.mpr hk, hm⟩, rfl⟩
theorem longOf_nil {ns : List Nat} (g : Good ns) {m : Nat} : longOf ns m = [] ↔ Short ns m := by
  unfold longOf
  rw [List.filter_eq_nil_iff]
  constructor
  · intro h i hi
    obtain ⟨k, hk, hmin, _, hl⟩ := min_of g hi
    have := h _ (mem_ringsOf hk hmin)
    simp at this
    omega
  · intro h r hr
    obtain ⟨k, hk, _, rfl⟩ := ringsOf_mem hr
    have := h k hk
    simp
    omega
theorem longOf_mem {ns : List Nat} {m : Nat} {r : List Nat} (h : r ∈ longOf ns m) : ∃ k, k < ns.length ∧ isMin ns k = true ∧ r = ringOf ns k ∧ m < r.length := by
  unfold longOf at h
  obtain ⟨h1, h2⟩ := List.mem_filter.mp h
  obtain ⟨k, hk, hm, e⟩ := ringsOf_mem h1
  exact ⟨k, hk, hm, e, by simpa using h2⟩
theorem longOf_len (ns : List Nat) (m : Nat) : (longOf ns m).length ≤ ns.length := by
  unfold longOf
  exact Nat.le_trans (List.length_filter_le _ _) (ringsTo_len ns ns.length)

/-- a list of numbers of any kind is a ring, from some box on -/
def RingI (ns : List Nat) (r : List Int) : Prop := ∃ (h : Nat) (q : List Nat), r = q.map (fun (n : Nat) => (n : Int)) ∧ IsRing ns h q
theorem ringOf_ringI {ns : List Nat} (g : Good ns) {h : Nat} (hh : h < ns.length) : RingI ns ((ringOf ns h).map fun (n : Nat) => (n : Int)) := ⟨h, _, rfl, ringOf_is g hh⟩
theorem cast_toNat {r : List Int} (h : ∀ x ∈ r, 0 ≤ x) : r = (r.map Int.toNat).map (fun (n : Nat) => (n : Int)) := by
  rw [List.map_map]
  conv => lhs; rw [← List.map_id r]
  apply List.map_congr_left
  intro x hx
  have := h x hx
  show x = ((x.toNat : Nat) : Int)
  omega
theorem castN_inj {a b : List Nat} (h : a.map (fun (n : Nat) => (n : Int)) = b.map (fun (n : Nat) => (n : Int))) : a = b := by
  have := congrArg (List.map Int.toNat) h
  rw [List.map_map, List.map_map] at this
  have e : ∀ l : List Nat, l.map (Int.toNat ∘ fun (n : Nat) => (n : Int)) = l := fun l => by
    conv => rhs; rw [← List.map_id l]
    apply List.map_congr_left
    intro x _
    rfl
  rwa [e, e] at this
theorem castN_nodup {q : List Nat} : (q.map (fun (n : Nat) => (n : Int))).Nodup ↔ q.Nodup := by
  constructor
  · intro h
    exact (List.pairwise_map.mp h).imp fun hab e => hab (by rw [e])
  · intro h
    exact List.Pairwise.map _ (fun a b hab e => hab (by omega)) h
/-- by its consecutive boxes -/
theorem ringI_steps {ns : List Nat} {r : List Int} : RingI ns r ↔ r ≠ [] ∧ r.Nodup ∧ (∀ x ∈ r, 0 ≤ x ∧ x < (ns.length : Int)) ∧ ∀ (i : Nat) (x y : Int), r[i]? = some x → (r.drop 1 ++ r.take 1)[i]? = some y → ((nxt ns x.toNat : Nat) : Int) = y := by
  have rotg : ∀ {α : Type} (l : List α) (i : Nat), i < l.length → (l.drop 1 ++ l.take 1)[i]? = l[(i + 1) % l.length]? := by
    intro α l i hi
    by_cases h : i + 1 < l.length
    · rw [Nat.mod_eq_of_lt h, List.getElem?_append_left (by rw [List.length_drop]; omega), List.getElem?_drop]
      congr 1; omega
    · have e : i + 1 = l.length := by omega
      rw [e, Nat.mod_self, List.getElem?_append_right (by rw [List.length_drop]; omega), List.length_drop]
      rw [show i - (l.length - 1) = 0 by omega, List.getElem?_take, if_pos (by omega)]
  constructor
  · rintro ⟨h, q, rfl, c⟩
    have c' := isRing_iff.mp c
    obtain ⟨h0, nd, lt, st⟩ := c'
    refine ⟨fun e => ?_, castN_nodup.mpr nd, fun x hx => ?_, fun i x y hx hy => ?_⟩
    · have : q = [] := by simpa using e
      rw [this] at h0; simp at h0
    · obtain ⟨n, hn, rfl⟩ := List.mem_map.mp hx
      have := lt n hn
      omega
    · have hi : i < (q.map (fun (n : Nat) => (n : Int))).length := (List.getElem?_eq_some_iff.mp hx).1
      rw [rotg _ _ hi, List.getElem?_map, List.length_map] at hy
      rw [List.getElem?_map] at hx
      obtain ⟨a, ha, rfl⟩ := Option.map_eq_some_iff.mp hx
      obtain ⟨b, hb, rfl⟩ := Option.map_eq_some_iff.mp hy
      have := st i a b ha hb
      rw [Int.toNat_natCast, this]
  · rintro ⟨hne, nd, lt, st⟩
    have e := cast_toNat (fun x hx => (lt x hx).1)
    generalize eq : r.map Int.toNat = q at e
    subst e
    have hq : q ≠ [] := fun z => hne (by rw [z]; rfl)
    obtain ⟨h, l, rfl⟩ := List.exists_cons_of_ne_nil hq
    refine ⟨h, _, rfl, isRing_iff.mpr ⟨rfl, castN_nodup.mp nd, fun x hx => ?_, fun i x y hx hy => ?_⟩⟩
    · have := lt (x : Int) (List.mem_map.mpr ⟨x, hx, rfl⟩)
      omega
    · have hi : i < (h :: l).length := (List.getElem?_eq_some_iff.mp hx).1
      have h1 : ((h :: l).map (fun (n : Nat) => (n : Int)))[i]? = some (x : Int) := by rw [List.getElem?_map, hx]; rfl
      have h2 : (((h :: l).map (fun (n : Nat) => (n : Int))).drop 1 ++ ((h :: l).map (fun (n : Nat) => (n : Int))).take 1)[i]? = some (y : Int) := by
        rw [rotg _ _ (by rw [List.length_map]; exact hi), List.getElem?_map, List.length_map, hy]; rfl
      have := st i _ _ h1 h2
      rw [Int.toNat_natCast] at this
      omega
/-- by the ring of its first box -/
theorem ringI_first {ns : List Nat} (g : Good ns) {r : List Int} {x : Int} (hr : r[0]? = some x) (lt : ∀ x ∈ r, 0 ≤ x ∧ x < (ns.length : Int)) :
    RingI ns r ↔ r = (ringOf ns x.toNat).map (fun (n : Nat) => (n : Int)) := by
  have hx := lt x (List.mem_of_getElem? hr)
  constructor
  · rintro ⟨h, q, rfl, c⟩
    have h0 := c.head
    rw [List.getElem?_map, h0] at hr
    cases hr
    rw [Int.toNat_natCast, ← c.eq g]
  · intro e
    rw [e]
    exact ringOf_ringI g (by omega)
theorem ring_back {ns : List Nat} (g : Good ns) {h x : Nat} (hh : h < ns.length) (hx : (ringOf ns h)[(ringOf ns h).length - 1]? = some x) : nxt ns x = h := (ringOf_is g hh).back x hx
/-- a ring with one more box is none -/
theorem ring_more {ns : List Nat} {h x : Nat} {q : List Nat} (c : IsRing ns h q) : ¬ RingI ns (q.map (fun (n : Nat) => (n : Int)) ++ [(x : Int)]) := by
  rintro ⟨h', q', e, c'⟩
  have e2 : q' = q ++ [x] := castN_inj (by rw [← e, List.map_append]; rfl)
  subst e2
  have hh : h' = h := by
    have h1 := c'.head
    have h2 := c.head
    rw [List.getElem?_append_left c.toChain.pos, h2] at h1
    cases h1; rfl
  subst hh
  exact c.not_lt c'.toChain (by rw [List.length_append]; show _ < _ + 1; omega)
end Sb

namespace Sb

/-! ### the slips of two boxes exchanged -/
def exch (ns : List Nat) (i j : Nat) : List Nat := (ns.set i (nxt ns j)).set j (nxt ns i)
theorem exch_len (ns : List Nat) (i j : Nat) : (exch ns i j).length = ns.length := by
  unfold exch; rw [List.length_set, List.length_set]
theorem exch_perm {ns : List Nat} {i j : Nat} (hi : i < ns.length) (hj : j < ns.length) : (exch ns i j).Perm ns := by
  unfold exch
  rw [nxt_get hi, nxt_get hj]
  exact List.set_set_perm hi hj
theorem exch_good {ns : List Nat} (g : Good ns) {i j : Nat} (hi : i < ns.length) (hj : j < ns.length) : Good (exch ns i j) := ⟨by
  rw [exch_len]
  exact (exch_perm hi hj).trans g.perm⟩
theorem exch_nxt {ns : List Nat} {i j x : Nat} (h1 : x ≠ i) (h2 : x ≠ j) : nxt (exch ns i j) x = nxt ns x := by
  unfold exch
  rw [nxt_set_ne (fun e => h2 e.symm), nxt_set_ne (fun e => h1 e.symm)]
theorem exch_nxt_j {ns : List Nat} {i j : Nat} (hj : j < ns.length) : nxt (exch ns i j) j = nxt ns i := by
  unfold exch
  rw [nxt_set_eq (by rw [List.length_set]; exact hj)]
theorem exch_nxt_i {ns : List Nat} {i j : Nat} (hi : i < ns.length) : nxt (exch ns i j) i = nxt ns j := by
  by_cases e : i = j
  · subst e; exact exch_nxt_j hi
  · unfold exch
    rw [nxt_set_ne (fun z => e z.symm), nxt_set_eq hi]
theorem exch_self {ns : List Nat} {i : Nat} (hi : i < ns.length) : exch ns i i = ns := by
  unfold exch
  rw [List.set_set, nxt_get hi, List.set_getElem_self]
theorem exch_comm (ns : List Nat) (i j : Nat) : exch ns i j = exch ns j i := by
  by_cases e : i = j
  · rw [e]
  · unfold exch
    exact List.set_comm _ _ e

theorem mem_dropLast_of {r : List Nat} {k x y : Nat} (hx : r[k]? = some x) (hy : r[k + 1]? = some y) : x ∈ r.dropLast := by
  have hl : k + 1 < r.length := (List.getElem?_eq_some_iff.mp hy).1
  have hk : k < r.length := by omega
  have ex : r[k] = x := by
    rw [List.getElem?_eq_getElem hk] at hx
    exact Option.some.inj hx
  have hd : k < r.dropLast.length := by rw [List.length_dropLast]; omega
  have : r.dropLast[k] = x := by rw [List.getElem_dropLast, ex]
  rw [← this]
  exact List.getElem_mem hd
theorem Chain.exch {ns : List Nat} {h : Nat} {q : List Nat} {i j : Nat} (c : Chain ns h q) (hi : i ∉ q.dropLast) (hj : j ∉ q.dropLast) : Chain (exch ns i j) h q where
  head := c.head
  step := fun k x y hx hy => by
    have hm := mem_dropLast_of hx hy
    rw [exch_nxt (x := x) (fun e => hi (by rw [← e]; exact hm)) (fun e => hj (by rw [← e]; exact hm))]
    exact c.step k x y hx hy
  nd := c.nd
  lt := fun x hx => by rw [exch_len]; exact c.lt x hx
theorem Chain.left {ns : List Nat} {h : Nat} {a b : List Nat} (c : Chain ns h (a ++ b)) (ha : a ≠ []) : Chain ns h a where
  head := by
    have := c.head
    rwa [List.getElem?_append_left (List.length_pos_iff.mpr ha)] at this
  step := fun k x y hx hy => by
    have h2 := (List.getElem?_eq_some_iff.mp hy).1
    refine c.step k x y ?_ ?_
    · rw [List.getElem?_append_left (by omega)]; exact hx
    · rw [List.getElem?_append_left h2]; exact hy
  nd := (List.nodup_append.mp c.nd).1
  lt := fun x hx => c.lt x (List.mem_append_left _ hx)
theorem Chain.right {ns : List Nat} {h y : Nat} {a b : List Nat} (c : Chain ns h (a ++ y :: b)) : Chain ns y (y :: b) where
  head := rfl
  step := fun k x z hx hz => by
    refine c.step (a.length + k) x z ?_ ?_
    · rw [List.getElem?_append_right (by omega), Nat.add_sub_cancel_left]; exact hx
    · rw [List.getElem?_append_right (by omega), show a.length + k + 1 - a.length = k + 1 by omega]; exact hz
  nd := (List.nodup_append.mp c.nd).2.1
  lt := fun x hx => c.lt x (List.mem_append_right _ hx)
theorem Chain.notShort {ns : List Nat} (g : Good ns) {h m : Nat} {q : List Nat} (c : Chain ns h q) (hm : m < q.length) : ¬ Short ns m := fun s => by
  have h1 := s h c.hlt
  have h2 := (ringOf_is g c.hlt).not_lt c
  omega
theorem nxt_mem {ns : List Nat} (g : Good ns) {i : Nat} (hi : i < ns.length) : nxt ns i ∈ ringOf ns i := by
  obtain ⟨h0, _, _, st⟩ := isRing_iff.mp (ringOf_is g hi)
  have hp := ringOf_pos g hi
  have hl : (0 + 1) % (ringOf ns i).length < (ringOf ns i).length := Nat.mod_lt _ hp
  rw [st 0 i _ h0 (List.getElem?_eq_getElem hl)]
  exact List.getElem_mem hl
/-- the ring of the box behind i ends with i -/
theorem ring_ends {ns : List Nat} (g : Good ns) {i : Nat} (hi : i < ns.length) : ∃ d, ringOf ns (nxt ns i) = d ++ [i] := by
  have hn := g.nxt_lt hi
  have R := ringOf_is g hn
  obtain ⟨x, hx, hm, hl⟩ := R.toChain.last
  have e : x = i := g.inj hl hi (R.back x hx)
  subst e
  have hne : ringOf ns (nxt ns x) ≠ [] := fun z => by rw [z] at hm; cases hm
  have hlt : (ringOf ns (nxt ns x)).length - 1 < (ringOf ns (nxt ns x)).length := by
    have := List.length_pos_iff.mpr hne
    omega
  refine ⟨(ringOf ns (nxt ns x)).dropLast, ?_⟩
  have := List.dropLast_concat_getLast hne
  rw [List.getLast_eq_getElem] at this
  rw [List.getElem?_eq_getElem hlt] at hx
  rw [Option.some.inj hx] at this
  exact this.symm
/-- a ring that is too long stays so, where not both boxes are its own -/
theorem bars_one {ns : List Nat} (g : Good ns) {i j h m : Nat} (hi : i < ns.length) (hj : j < ns.length) (hh : h < ns.length) (hm : m < (ringOf ns h).length) (ho : ¬ (i ∈ ringOf ns h ∧ j ∈ ringOf ns h) ∨ i = j) : ¬ Short (exch ns i j) m := by
  by_cases e : i = j
  · subst e
    rw [exch_self hi]
    intro s
    have := s h hh
    omega
  have hnb : ¬ (i ∈ ringOf ns h ∧ j ∈ ringOf ns h) := ho.resolve_right e
  have one : ∀ i j : Nat, i < ns.length → j < ns.length → i ∈ ringOf ns h → j ∉ ringOf ns h → ¬ Short (exch ns i j) m := fun i j hi hj hir hjr => by
    obtain ⟨d, ed⟩ := ring_ends g hi
    have hn := g.nxt_lt hi
    have hmem : nxt ns i ∈ ringOf ns h := (ringOf_mem_iff g hh hir).mp (nxt_mem g hi)
    have c := (ringOf_is g hn).toChain
    have nd := c.nd
    rw [ed] at nd
    have hlen := ringOf_len_eq g hh hmem
    refine (c.exch (i := i) (j := j) ?_ ?_).notShort (exch_good g hi hj) (by omega)
    · rw [ed, List.dropLast_concat]
      intro z
      exact (List.nodup_append.mp nd).2.2 i z i (by simp) rfl
    · rw [ed, List.dropLast_concat]
      intro z
      apply hjr
      rw [← ringOf_mem_iff g hh hmem, ed]
      exact List.mem_append_left _ z
  by_cases hir : i ∈ ringOf ns h
  · exact one i j hi hj hir fun z => hnb ⟨hir, z⟩
  · by_cases hjr : j ∈ ringOf ns h
    · rw [exch_comm]
      exact one j i hj hi hjr hir
    · refine ((ringOf_is g hh).toChain.exch (i := i) (j := j) (fun z => hir (List.dropLast_subset _ z)) (fun z => hjr (List.dropLast_subset _ z))).notShort (exch_good g hi hj) hm
/-- a ring more than twice too long bars every exchange -/
theorem bars_two {ns : List Nat} (g : Good ns) {i j h m : Nat} (hi : i < ns.length) (hj : j < ns.length) (hh : h < ns.length) (hm : 2 * m < (ringOf ns h).length) : ¬ Short (exch ns i j) m := by
  by_cases ho : ¬ (i ∈ ringOf ns h ∧ j ∈ ringOf ns h) ∨ i = j
  · exact bars_one g hi hj hh (by omega) ho
  have hb : i ∈ ringOf ns h ∧ j ∈ ringOf ns h := by
    by_cases z : i ∈ ringOf ns h ∧ j ∈ ringOf ns h
    · exact z
    · exact absurd (.inl z) ho
  have hne : i ≠ j := fun z => ho (.inr z)
  obtain ⟨hir, hjr⟩ := hb
  obtain ⟨d, ed⟩ := ring_ends g hi
  have hn := g.nxt_lt hi
  have hmem : nxt ns i ∈ ringOf ns h := (ringOf_mem_iff g hh hir).mp (nxt_mem g hi)
  have c := (ringOf_is g hn).toChain
  have hlen := ringOf_len_eq g hh hmem
  have hjd : j ∈ d := by
    have : j ∈ ringOf ns (nxt ns i) := (ringOf_mem_iff g hh hmem).mpr hjr
    rw [ed] at this
    rcases List.mem_append.mp this with z | z
    · exact z
    · simp at z; exact absurd z.symm hne
  obtain ⟨q1, q2, eq⟩ := List.append_of_mem hjd
  have er : ringOf ns (nxt ns i) = (q1 ++ [j]) ++ (q2 ++ [i]) := by rw [ed, eq]; simp
  rw [er] at c hlen
  have nd := c.nd
  have g' := exch_good g hi hj
  have hl : (q1 ++ [j]).length + (q2 ++ [i]).length = (ringOf ns h).length := by rw [← List.length_append]; exact hlen
  obtain ⟨nd1, nd2, nd3⟩ := List.nodup_append.mp nd
  by_cases h1 : m < (q1 ++ [j]).length
  · refine ((c.left (by simp)).exch (i := i) (j := j) ?_ ?_).notShort g' h1
    · rw [List.dropLast_concat]
      intro z
      exact nd3 i (List.mem_append_left _ z) i (by simp) rfl
    · rw [List.dropLast_concat]
      intro z
      exact (List.nodup_append.mp nd1).2.2 j z j (by simp) rfl
  · have h2 : m < (q2 ++ [i]).length := by omega
    obtain ⟨y, t, ey⟩ := List.exists_cons_of_ne_nil (show q2 ++ [i] ≠ [] by simp)
    rw [ey] at c
    have c2 := c.right
    rw [← ey] at c2
    refine (c2.exch (i := i) (j := j) ?_ ?_).notShort g' h2
    · rw [List.dropLast_concat]
      intro z
      exact (List.nodup_append.mp nd2).2.2 i z i (by simp) rfl
    · rw [List.dropLast_concat]
      intro z
      exact nd3 j (by simp) j (List.mem_append_left _ z) rfl

/-! ### the rings that are too long, by their least boxes -/
theorem longOf_eq (ns : List Nat) (m : Nat) : longOf ns m = ((List.range ns.length).filter fun k => isMin ns k && decide (m < (ringOf ns k).length)).map (ringOf ns) := by
  unfold longOf ringsOf ringsTo
  rw [List.filter_map, List.filter_filter]
  congr 1
  apply List.filter_congr
  intro k _
  show (decide (m < (ringOf ns k).length) && isMin ns k) = _
  rw [Bool.and_comm]
theorem min_disj {ns : List Nat} (g : Good ns) {a b : Nat} (ha : a < ns.length) (hb : b < ns.length) (h1 : isMin ns a = true) (h2 : isMin ns b = true) (hab : a ≠ b) {x : Nat} (hx : x ∈ ringOf ns a) : x ∉ ringOf ns b := fun z => by
  have e1 : b ∈ ringOf ns a := (ringOf_mem_iff g ha hx).mp (ringOf_symm g hb z)
  have e2 : a ∈ ringOf ns b := (ringOf_mem_iff g hb z).mp (ringOf_symm g ha hx)
  have := isMin_iff.mp h1 b e1
  have := isMin_iff.mp h2 a e2
  omega
theorem longOf_disj {ns : List Nat} (g : Good ns) (m : Nat) : (longOf ns m).Pairwise fun r q => ∀ x ∈ r, x ∉ q := by
  rw [longOf_eq, List.pairwise_map]
  have h0 : ((List.range ns.length).filter fun k => isMin ns k && decide (m < (ringOf ns k).length)).Pairwise (· < ·) := List.Pairwise.filter _ (List.pairwise_lt_range)
  refine List.Pairwise.imp_of_mem ?_ h0
  intro a b ha hb hab x hx
  obtain ⟨ha1, ha2⟩ := List.mem_filter.mp ha
  obtain ⟨hb1, hb2⟩ := List.mem_filter.mp hb
  rw [Bool.and_eq_true] at ha2 hb2
  exact min_disj g (List.mem_range.mp ha1) (List.mem_range.mp hb1) ha2.1 hb2.1 (by omega) hx
theorem bars_rings {ns : List Nat} (g : Good ns) {m : Nat} (h : 1 < (longOf ns m).length) {i j : Nat} (hi : i < ns.length) (hj : j < ns.length) : ¬ Short (exch ns i j) m := by
  have h0 : 0 < (longOf ns m).length := by omega
  obtain ⟨k0, hk0, _, e0, hl0⟩ := longOf_mem (List.getElem_mem h0)
  obtain ⟨k1, hk1, _, e1, hl1⟩ := longOf_mem (List.getElem_mem h)
  have dj := List.pairwise_iff_getElem.mp (longOf_disj g m) 0 1 h0 h (by omega)
  rw [e0, e1] at dj
  rw [e0] at hl0
  rw [e1] at hl1
  by_cases hb : i ∈ ringOf ns k0 ∧ j ∈ ringOf ns k0
  · exact bars_one g hi hj hk1 hl1 (.inl fun z => dj i hb.1 z.1)
  · exact bars_one g hi hj hk0 hl0 (.inl hb)

/-! ### one ring that is too long, not more than twice: cut -/
theorem mend_ok {ns : List Nat} (g : Good ns) {m : Nat} (hm : 1 ≤ m) {r : List Nat} (er : longOf ns m = [r]) (hr : r.length ≤ 2 * m) {i j : Nat} (hi : r[m - 1]? = some i) (hj : r[r.length - 1]? = some j) :
    i < ns.length ∧ j < ns.length ∧ Short (exch ns i j) m := by
  obtain ⟨k, hk, hmin, e, hl⟩ := longOf_mem (r := r) (m := m) (by rw [er]; simp)
  have R := ringOf_is g hk
  rw [← e] at R
  have hil := R.lt i (List.mem_of_getElem? hi)
  have hjl := R.lt j (List.mem_of_getElem? hj)
  refine ⟨hil, hjl, ?_⟩
  have g' := exch_good g hil hjl
  -- the two parts
  have ea : r.take m = r.take (m - 1) ++ [i] := by
    have := List.take_add_one (l := r) (i := m - 1)
    rw [show m - 1 + 1 = m by omega, hi] at this
    exact this
  have hne : r ≠ [] := fun z => by rw [z] at hl; simp at hl
  have eb : r.drop m = (r.drop m).dropLast ++ [j] := by
    have hd : r.drop m ≠ [] := fun z => by
      have := congrArg List.length z
      rw [List.length_drop] at this
      simp at this
      omega
    have := List.dropLast_concat_getLast hd
    rw [List.getLast_drop, List.getLast_eq_getElem] at this
    have hlt : r.length - 1 < r.length := by omega
    rw [List.getElem?_eq_getElem hlt] at hj
    rw [Option.some.inj hj] at this
    exact this.symm
  have eab : r.take m ++ r.drop m = r := List.take_append_drop m r
  have la : (r.take m).length = m := by rw [List.length_take]; omega
  have lb : (r.drop m).length = r.length - m := List.length_drop
  have c := R.toChain
  rw [← eab] at c
  have nd := c.nd
  obtain ⟨nd1, nd2, nd3⟩ := List.nodup_append.mp nd
  have hia : i ∈ r.take m := by rw [ea]; simp
  have hjb : j ∈ r.drop m := by rw [eb]; simp
  have ca : IsRing (exch ns i j) k (r.take m) := by
    refine ⟨(c.left (fun z => by rw [z] at la; simp at la; omega)).exch ?_ ?_, fun x hx => ?_⟩
    · intro z
      rw [ea, List.dropLast_concat] at z
      rw [ea] at nd1
      exact (List.nodup_append.mp nd1).2.2 i z i (by simp) rfl
    · intro z
      exact nd3 j (List.dropLast_subset _ z) j hjb rfl
    · rw [la, List.getElem?_take, if_pos (by omega), hi] at hx
      cases hx
      rw [exch_nxt_i hil]
      exact R.back j hj
  obtain ⟨y, t, ey⟩ := List.exists_cons_of_ne_nil (show r.drop m ≠ [] from fun z => by rw [z] at hjb; cases hjb)
  have cb : IsRing (exch ns i j) y (r.drop m) := by
    have c2 := c
    rw [ey] at c2
    have c3 := c2.right
    rw [← ey] at c3
    refine ⟨c3.exch ?_ ?_, fun x hx => ?_⟩
    · intro z
      exact nd3 i hia i (List.dropLast_subset _ z) rfl
    · intro z
      rw [eb, List.dropLast_concat] at z
      rw [eb] at nd2
      exact (List.nodup_append.mp nd2).2.2 j z j (by simp) rfl
    · have hx2 : x = j := by
        rw [List.getElem?_drop, lb, show m + (r.length - m - 1) = r.length - 1 by omega, hj] at hx
        cases hx; rfl
      rw [hx2, exch_nxt_j hjl]
      refine R.step (m - 1) i y hi ?_
      rw [show m - 1 + 1 = m by omega]
      have : (r.drop m)[0]? = some y := by rw [ey]; rfl
      rw [List.getElem?_drop, Nat.add_zero] at this
      exact this
  have eqa := ca.eq g'
  have eqb := cb.eq g'
  have hk' : k < (exch ns i j).length := ca.toChain.hlt
  have hy' : y < (exch ns i j).length := cb.toChain.hlt
  intro h hh
  by_cases ha : h ∈ r.take m
  · rw [ringOf_len_eq g' hk' (by rw [← eqa]; exact ha), ← eqa]
    omega
  · by_cases hb : h ∈ r.drop m
    · rw [ringOf_len_eq g' hy' (by rw [← eqb]; exact hb), ← eqb]
      omega
    · have hr0 : h ∉ r := fun z => by
        rw [← eab] at z
        rcases List.mem_append.mp z with z | z
        · exact ha z
        · exact hb z
      rw [exch_len] at hh
      have out : ∀ x, x ∈ r → x ∉ ringOf ns h := fun x hx z => by
        apply hr0
        rw [e] at hx ⊢
        exact (ringOf_mem_iff g hk hx).mp (ringOf_symm g hh z)
      have hio := out i (List.mem_of_getElem? hi)
      have hjo := out j (List.mem_of_getElem? hj)
      have H := ringOf_is g hh
      have H' : IsRing (exch ns i j) h (ringOf ns h) := by
        refine ⟨H.toChain.exch (fun z => hio (List.dropLast_subset _ z)) (fun z => hjo (List.dropLast_subset _ z)), fun x hx => ?_⟩
        have hxm := List.mem_of_getElem? hx
        rw [exch_nxt (x := x) (fun z => hio (by rw [← z]; exact hxm)) (fun z => hjo (by rw [← z]; exact hxm))]
        exact H.back x hx
      rw [← H'.eq g']
      by_cases hlong : (ringOf ns h).length ≤ m
      · exact hlong
      · exfalso
        obtain ⟨k2, hk2, hmin2, hm2, hl2⟩ := min_of g hh
        have hin : ringOf ns k2 ∈ longOf ns m := by
          unfold longOf
          exact List.mem_filter.mpr ⟨mem_ringsOf hk2 hmin2, by simp; omega⟩
        rw [er, List.mem_singleton] at hin
        apply hr0
        rw [← hin]
        exact ringOf_symm g hh hm2

/-- some exchange mends it -/
def Can (ns : List Nat) (m : Nat) : Prop := ∃ i j, i ≤ j ∧ j < ns.length ∧ Short (exch ns i j) m
theorem Can.of {ns : List Nat} {m i j : Nat} (hi : i < ns.length) (hj : j < ns.length) (s : Short (exch ns i j) m) : Can ns m := by
  by_cases h : i ≤ j
  · exact ⟨i, j, h, hj, s⟩
  · exact ⟨j, i, by omega, hi, by rw [exch_comm]; exact s⟩
/-- how it is mended, or barred -/
theorem can_iff {ns : List Nat} (g : Good ns) (h1 : 1 ≤ ns.length) {m : Nat} (hm : 1 ≤ m) : Can ns m ↔ longOf ns m = [] ∨ ∃ r, longOf ns m = [r] ∧ r.length ≤ 2 * m := by
  constructor
  · rintro ⟨i, j, hij, hj, s⟩
    cases e : longOf ns m with
    | nil => exact .inl rfl
    | cons r l =>
      right
      cases l with
      | nil =>
        refine ⟨r, rfl, ?_⟩
        by_cases h : r.length ≤ 2 * m
        · exact h
        · obtain ⟨k, hk, _, er, _⟩ := longOf_mem (r := r) (m := m) (ns := ns) (by rw [e]; simp)
          rw [er] at h
          exact absurd s (bars_two g (by omega) hj hk (by omega))
      | cons q l =>
        exact absurd s (bars_rings g (by rw [e]; simp) (by omega) hj)
  · rintro (e | ⟨r, e, hr⟩)
    · refine Can.of (i := 0) (j := 0) (by omega) (by omega) ?_
      rw [exch_self (by omega)]
      exact (longOf_nil g).mp e
    · obtain ⟨k, hk, _, er, hl⟩ := longOf_mem (r := r) (m := m) (ns := ns) (by rw [e]; simp)
      obtain ⟨a, b, s⟩ := mend_ok g hm e hr (List.getElem?_eq_getElem (show m - 1 < r.length by omega)) (List.getElem?_eq_getElem (show r.length - 1 < r.length by omega))
      exact Can.of a b s
end Sb

namespace Sb

/-! ### rings that bar a mending, or not -/
abbrev castN (q : List Nat) : List Int := q.map fun (n : Nat) => (n : Int)
theorem ringI_of {ns : List Nat} (g : Good ns) {r : List Int} (h : RingI ns r) : ∃ k, k < ns.length ∧ r = castN (ringOf ns k) ∧ r[0]? = some (k : Int) := by
  obtain ⟨k, q, rfl, c⟩ := h
  have e := c.eq g
  refine ⟨k, c.toChain.hlt, by rw [e], ?_⟩
  rw [List.getElem?_map, c.head]
  rfl
theorem castN_mem {q : List Nat} {x : Nat} : (x : Int) ∈ castN q ↔ x ∈ q := by
  constructor
  · intro h
    obtain ⟨y, hy, e⟩ := List.mem_map.mp h
    have : y = x := by omega
    subst this
    exact hy
  · intro h
    exact List.mem_map.mpr ⟨x, h, rfl⟩
theorem ringI_apart {ns : List Nat} (g : Good ns) {a b : List Int} (ha : RingI ns a) (hb : RingI ns b) {x : Int} (hx : a[0]? = some x) : x ∉ b ↔ ∀ y ∈ a, y ∉ b := by
  constructor
  · intro h y hya hyb
    obtain ⟨i, hi, ea, h0⟩ := ringI_of g ha
    obtain ⟨j, hj, eb, _⟩ := ringI_of g hb
    rw [h0] at hx
    cases hx
    rw [ea] at hya
    rw [eb] at hyb h
    obtain ⟨u, hu, rfl⟩ := List.mem_map.mp hya
    apply h
    rw [castN_mem] at hyb ⊢
    exact (ringOf_mem_iff g hj hyb).mp (ringOf_symm g hi hu)
  · intro h
    exact h x (List.mem_of_getElem? hx)
theorem ringI_pos {ns : List Nat} {r : List Int} (h : RingI ns r) : 0 < r.length := List.length_pos_iff.mpr (ringI_steps.mp h).1
/-- what is told of a Barred -/
def BarD (ns : List Nat) (m : Nat) (rs : List (List Int)) : Prop := (∀ r ∈ rs, RingI ns r) ∧ ((∃ a, rs = [a] ∧ 2 * m < a.length) ∨ ∃ a b, rs = [a, b] ∧ (∀ x ∈ a, x ∉ b) ∧ m < a.length ∧ m < b.length)
/-- what is told of a Mend -/
def MendD (ns : List Nat) (m : Nat) (i j : Int) : Prop := (0 ≤ i ∧ i < (ns.length : Int)) ∧ (0 ≤ j ∧ j < (ns.length : Int)) ∧ Short (exch ns i.toNat j.toNat) m
theorem longOf_ring {ns : List Nat} (g : Good ns) {m : Nat} {r : List Nat} (h : r ∈ longOf ns m) : RingI ns (castN r) ∧ m < r.length ∧ r.length ≤ ns.length := by
  obtain ⟨k, hk, _, e, hl⟩ := longOf_mem h
  refine ⟨?_, hl, ?_⟩
  · rw [e]; exact ringOf_ringI g hk
  · rw [e]; exact ringOf_len g hk
theorem bar_two {ns : List Nat} (g : Good ns) {m : Nat} {a b : List Nat} {l : List (List Nat)} (h : longOf ns m = a :: b :: l) : BarD ns m [castN a, castN b] := by
  have ra := longOf_ring g (m := m) (r := a) (by rw [h]; simp)
  have rb := longOf_ring g (m := m) (r := b) (by rw [h]; simp)
  have dj := longOf_disj g m
  rw [h] at dj
  have d := (List.pairwise_cons.mp dj).1 b (by simp)
  refine ⟨fun r hr => ?_, .inr ⟨_, _, rfl, fun x hx hy => ?_, by rw [List.length_map]; exact ra.2.1, by rw [List.length_map]; exact rb.2.1⟩⟩
  · simp only [List.mem_cons, List.not_mem_nil, or_false] at hr
    rcases hr with rfl | rfl
    · exact ra.1
    · exact rb.1
  · obtain ⟨u, hu, rfl⟩ := List.mem_map.mp hx
    exact d u hu (castN_mem.mp hy)
theorem bar_one {ns : List Nat} (g : Good ns) {m : Nat} {a : List Nat} (h : longOf ns m = [a]) (hl : 2 * m < a.length) : BarD ns m [castN a] := by
  have ra := longOf_ring g (m := m) (r := a) (by rw [h]; simp)
  refine ⟨fun r hr => ?_, .inl ⟨_, rfl, by rw [List.length_map]; exact hl⟩⟩
  simp only [List.mem_cons, List.not_mem_nil, or_false] at hr
  subst hr
  exact ra.1
/-- an answer of mending -/
inductive MA where
  | mend (i j : Int)
  | barred (rs : List (List Int))
def MA.isMend : MA → Bool
  | .mend .. => true
  | .barred .. => false
def MDue (ns : List Nat) (m : Nat) : MA → Prop
  | .mend i j => MendD ns m i j
  | .barred rs => BarD ns m rs
theorem min_head {r : List Nat} {h : Nat} {mn : Nat} (hm : mn ∈ r) (hle : ∀ x ∈ r, mn ≤ x) (hh : h ∈ r) : mn = h ↔ ∀ x ∈ r, h ≤ x := by
  constructor
  · rintro rfl; exact hle
  · intro z
    have := z mn hm
    have := hle h hh
    omega
end Sb

namespace Sb

/-! ### in how many ways chains of told lengths close into rings of at most m boxes -/
/-- each item, and what is left without it -/
def picks : List Nat → List (Nat × List Nat)
  | [] => []
  | y :: l => (y, l) :: (picks l).map fun p => (p.1, y :: p.2)
theorem picks_len : ∀ {l : List Nat} {p : Nat × List Nat}, p ∈ picks l → p.2.length + 1 = l.length
  | [], p, h => by cases h
  | y :: l, p, h => by
    rcases List.mem_cons.mp h with rfl | h
    · rfl
    · obtain ⟨q, hq, rfl⟩ := List.mem_map.mp h
      have := picks_len hq
      simp only [List.length_cons]
      omega
/-- by the chain that the first one's end leads to: itself, or another one -/
def closesF (m : Nat) : Nat → List Nat → Nat
  | _, [] => 1
  | 0, _ :: _ => 0
  | f + 1, x :: l => (if x ≤ m then closesF m f l else 0) + ((picks l).map fun p => closesF m f ((x + p.1) :: p.2)).sum
def cl (m : Nat) (l : List Nat) : Nat := closesF m l.length l
theorem map_sum_congr {α : Type} {l : List α} {f g : α → Nat} (h : ∀ a ∈ l, f a = g a) : (l.map f).sum = (l.map g).sum := by
  rw [List.map_congr_left h]
theorem map_sum_add {α : Type} (f g : α → Nat) : ∀ l : List α, (l.map fun a => f a + g a).sum = (l.map f).sum + (l.map g).sum
  | [] => rfl
  | a :: l => by
    simp only [List.map_cons, List.sum_cons, map_sum_add f g l]
    omega
theorem map_sum_if {α : Type} (p : Prop) [Decidable p] (f : α → Nat) (l : List α) : (l.map fun a => if p then f a else 0).sum = if p then (l.map f).sum else 0 := by
  by_cases h : p
  · rw [if_pos h]
    exact map_sum_congr fun a _ => if_pos h
  · rw [if_neg h, map_sum_congr (g := fun _ => 0) fun a _ => if_neg h]
    induction l with
    | nil => rfl
    | cons a l ih => simpa using ih
theorem cl_nil (m : Nat) : cl m [] = 1 := rfl
theorem cl_cons (m x : Nat) (l : List Nat) : cl m (x :: l) = (if x ≤ m then cl m l else 0) + ((picks l).map fun p => cl m ((x + p.1) :: p.2)).sum := by
  show closesF m (l.length + 1) (x :: l) = _
  unfold closesF
  congr 1
  apply map_sum_congr
  intro p hp
  have := picks_len hp
  unfold cl
  rw [List.length_cons, this]
/-- two picked, one behind the other: in any turn -/
theorem picks_two (g : Nat → Nat → List Nat → Nat) : ∀ l : List Nat, ((picks l).map fun p => ((picks p.2).map fun q => g p.1 q.1 q.2).sum).sum = ((picks l).map fun p => ((picks p.2).map fun q => g q.1 p.1 q.2).sum).sum := by
  intro l
  induction l generalizing g with
  | nil => rfl
  | cons a l ih =>
    have key : ∀ g : Nat → Nat → List Nat → Nat, ((picks (a :: l)).map fun p => ((picks p.2).map fun q => g p.1 q.1 q.2).sum).sum = ((picks l).map fun q => g a q.1 q.2).sum + (((picks l).map fun p => g p.1 a p.2).sum + ((picks l).map fun p => ((picks p.2).map fun q => g p.1 q.1 (a :: q.2)).sum).sum) := fun g => by
      simp only [picks, List.map_cons, List.sum_cons, List.map_map, Function.comp_def]
      rw [map_sum_add]
    rw [key g, key fun x y r => g y x r, ih fun x y r => g x y (a :: r)]
    omega
theorem picks_perm {l l' : List Nat} (h : l.Perm l') (f : Nat × List Nat → Nat) (hf : ∀ y r r', r.length + 1 = l.length → r.Perm r' → f (y, r) = f (y, r')) : ((picks l).map f).sum = ((picks l').map f).sum := by
  induction h generalizing f with
  | nil => rfl
  | cons x h ih =>
    simp only [picks, List.map_cons, List.sum_cons, List.map_map, Function.comp_def]
    rw [hf x _ _ (by simp) h]
    congr 1
    exact ih (fun p => f (p.1, x :: p.2)) fun y r r' hl hr => hf y _ _ (by simp only [List.length_cons]; omega) (hr.cons x)
  | swap x y l =>
    simp only [picks, List.map_cons, List.sum_cons, List.map_map, Function.comp_def]
    have e : ((picks l).map fun p => f (p.1, y :: x :: p.2)).sum = ((picks l).map fun p => f (p.1, x :: y :: p.2)).sum := map_sum_congr fun p hp => hf _ _ _ (by have := picks_len hp; simp only [List.length_cons]; omega) (.swap ..)
    rw [e]
    omega
  | trans h1 h2 ih1 ih2 =>
    rw [ih1 f hf]
    exact ih2 f fun y r r' hl hr => hf y r r' (by rw [h1.length_eq]; exact hl) hr
theorem cl_swap_of {m n : Nat} (ih : ∀ l l' : List Nat, l.length < n → l.Perm l' → cl m l = cl m l') (x y : Nat) (l : List Nat) (hl : l.length + 2 = n) : cl m (x :: y :: l) = cl m (y :: x :: l) := by
  have key : ∀ x y : Nat, cl m (x :: y :: l) = (if x ≤ m then if y ≤ m then cl m l else 0 else 0) + (if x ≤ m then ((picks l).map fun p => cl m ((y + p.1) :: p.2)).sum else 0) + cl m ((x + y) :: l)
      + (if y ≤ m then ((picks l).map fun p => cl m ((x + p.1) :: p.2)).sum else 0) + ((picks l).map fun p => cl m ((x + y + p.1) :: p.2)).sum + ((picks l).map fun p => ((picks p.2).map fun q => cl m ((x + p.1) :: (y + q.1) :: q.2)).sum).sum := fun x y => by
    rw [cl_cons]
    have e1 : (if x ≤ m then cl m (y :: l) else 0) = (if x ≤ m then if y ≤ m then cl m l else 0 else 0) + (if x ≤ m then ((picks l).map fun p => cl m ((y + p.1) :: p.2)).sum else 0) := by
      by_cases h : x ≤ m
      · rw [if_pos h, if_pos h, if_pos h, cl_cons]
      · rw [if_neg h, if_neg h, if_neg h]
    have e2 : ((picks (y :: l)).map fun p => cl m ((x + p.1) :: p.2)).sum = cl m ((x + y) :: l) + ((picks l).map fun p => cl m ((x + p.1) :: y :: p.2)).sum := by
      simp only [picks, List.map_cons, List.sum_cons, List.map_map, Function.comp_def]
    have e3 : ((picks l).map fun p => cl m ((x + p.1) :: y :: p.2)).sum = ((picks l).map fun p => ((if y ≤ m then cl m ((x + p.1) :: p.2) else 0) + cl m ((x + y + p.1) :: p.2)) + ((picks p.2).map fun q => cl m ((x + p.1) :: (y + q.1) :: q.2)).sum).sum := by
      apply map_sum_congr
      intro p hp
      have hpl := picks_len hp
      rw [ih (_ :: y :: p.2) (y :: (x + p.1) :: p.2) (by simp only [List.length_cons]; omega) (.swap ..), cl_cons]
      have e4 : ((picks ((x + p.1) :: p.2)).map fun q => cl m ((y + q.1) :: q.2)).sum = cl m ((x + y + p.1) :: p.2) + ((picks p.2).map fun q => cl m ((x + p.1) :: (y + q.1) :: q.2)).sum := by
        simp only [picks, List.map_cons, List.sum_cons, List.map_map, Function.comp_def]
        rw [show y + (x + p.1) = x + y + p.1 by omega]
        congr 1
        apply map_sum_congr
        intro q hq
        have hql := picks_len hq
        exact ih _ _ (by simp only [List.length_cons]; omega) (.swap ..)
      rw [e4]
      omega
    rw [e1, e2, e3, map_sum_add, map_sum_add, map_sum_if]
    omega
  rw [key x y, key y x]
  have e6 : ((picks l).map fun p => ((picks p.2).map fun q => cl m ((x + p.1) :: (y + q.1) :: q.2)).sum).sum = ((picks l).map fun p => ((picks p.2).map fun q => cl m ((y + p.1) :: (x + q.1) :: q.2)).sum).sum := by
    rw [picks_two fun a b r => cl m ((x + a) :: (y + b) :: r)]
    apply map_sum_congr
    intro p hp
    apply map_sum_congr
    intro q hq
    have hpl := picks_len hp
    have hql := picks_len hq
    exact ih _ _ (by simp only [List.length_cons]; omega) (.swap ..)
  rw [e6, Nat.add_comm x y]
  by_cases h1 : x ≤ m <;> by_cases h2 : y ≤ m <;> simp only [if_pos, if_neg, h1, h2, not_false_eq_true] <;> omega
/-- the turn of the chains doesn't matter -/
theorem cl_perm {m : Nat} {l l' : List Nat} (h : l.Perm l') : cl m l = cl m l' := by
  suffices H : ∀ n (l l' : List Nat), l.length ≤ n → l.Perm l' → cl m l = cl m l' from H _ l l' (Nat.le_refl _) h
  intro n
  induction n with
  | zero =>
    intro l l' hl h
    have e1 : l = [] := List.length_eq_zero_iff.mp (by omega)
    subst e1
    rw [h.nil_eq]
  | succ n ih =>
    intro l l' hl h
    induction h with
    | nil => rfl
    | cons x h _ =>
      have hl' := hl
      rw [List.length_cons] at hl'
      rw [cl_cons, cl_cons, ih _ _ (by omega) h]
      congr 1
      refine picks_perm h _ fun y r r' hr hp => ih _ _ (by simp only [List.length_cons]; omega) (hp.cons _)
    | swap x y l => exact cl_swap_of (fun l l' hl h => ih l l' (by simp only [List.length_cons] at *; omega) h) y x l rfl
    | trans h1 h2 ih1 ih2 => exact (ih1 hl).trans (ih2 (by rw [← h1.length_eq]; exact hl))

/-! ### the same by the ring of one chain: all choices of others go with it -/
/-- the sum over all partings of a list: what is taken, what is left -/
def spl : List Nat → (List Nat → List Nat → Nat) → Nat
  | [], f => f [] []
  | y :: l, f => spl l (fun T R => f T (y :: R)) + spl l (fun T R => f (y :: T) R)
theorem spl_congr : ∀ {l : List Nat} {f g : List Nat → List Nat → Nat}, (∀ T R, T.length + R.length = l.length → f T R = g T R) → spl l f = spl l g
  | [], f, g, h => h [] [] rfl
  | y :: l, f, g, h => by
    unfold spl
    rw [spl_congr (l := l) fun T R e => h T (y :: R) (by simp only [List.length_cons]; omega), spl_congr (l := l) fun T R e => h (y :: T) R (by simp only [List.length_cons]; omega)]
theorem spl_add : ∀ (l : List Nat) (f g : List Nat → List Nat → Nat), spl l (fun T R => f T R + g T R) = spl l f + spl l g
  | [], f, g => rfl
  | y :: l, f, g => by
    show spl l (fun T R => f T (y :: R) + g T (y :: R)) + spl l (fun T R => f (y :: T) R + g (y :: T) R) = (spl l (fun T R => f T (y :: R)) + spl l (fun T R => f (y :: T) R)) + (spl l (fun T R => g T (y :: R)) + spl l (fun T R => g (y :: T) R))
    rw [spl_add l (fun T R => f T (y :: R)) (fun T R => g T (y :: R)), spl_add l (fun T R => f (y :: T) R) (fun T R => g (y :: T) R)]
    omega
theorem spl_none : ∀ (l : List Nat) (e : List Nat → Nat), spl l (fun T R => if T = [] then e R else 0) = e l
  | [], e => rfl
  | y :: l, e => by
    unfold spl
    rw [spl_none l fun R => e (y :: R)]
    have : ∀ l : List Nat, spl l (fun T R => if y :: T = [] then e R else 0) = 0 := fun l => by
      have z : ∀ l : List Nat, spl l (fun _ _ => 0) = 0 := fun l => by
        induction l with
        | nil => rfl
        | cons a l ih => unfold spl; rw [ih]
      rw [spl_congr (g := fun _ _ => 0) fun T R _ => if_neg (by simp), z]
    rw [this]
    omega
theorem spl_picks (k : List Nat → List Nat → Nat) (hk : ∀ T T' R, T.Perm T' → k T R = k T' R) : ∀ l : List Nat, ((picks l).map fun p => spl p.2 fun T R => k (p.1 :: T) R).sum = spl l fun T R => T.length * k T R := by
  intro l
  induction l generalizing k with
  | nil => simp [picks, spl]
  | cons a l ih =>
    simp only [picks, List.map_cons, List.sum_cons, List.map_map, Function.comp_def, spl]
    rw [map_sum_add, ih (fun T R => k T (a :: R)) fun T T' R h => hk T T' _ h]
    have e : ((picks l).map fun p => spl p.2 fun T R => k (p.1 :: a :: T) R).sum = ((picks l).map fun p => spl p.2 fun T R => k (a :: p.1 :: T) R).sum :=
      map_sum_congr fun p _ => spl_congr fun T R _ => hk _ _ R (.swap ..)
    rw [e, ih (fun T R => k (a :: T) R) fun T T' R h => hk _ _ _ (h.cons a)]
    have e2 : spl l (fun T R => (a :: T).length * k (a :: T) R) = spl l (fun T R => k (a :: T) R) + spl l (fun T R => T.length * k (a :: T) R) := by
      rw [← spl_add]
      apply spl_congr
      intro T R _
      rw [List.length_cons, Nat.add_mul, Nat.one_mul, Nat.add_comm]
    rw [e2]
    omega
def fact : Nat → Nat
  | 0 => 1
  | n + 1 => (n + 1) * fact n
theorem cl_spl (m : Nat) : ∀ (n : Nat) (x : Nat) (l : List Nat), l.length = n → cl m (x :: l) = spl l fun T R => if x + T.sum ≤ m then fact T.length * cl m R else 0 := by
  intro n
  induction n with
  | zero =>
    intro x l hl
    have e : l = [] := List.length_eq_zero_iff.mp hl
    subst e
    rw [cl_cons]
    simp [picks, spl, fact, cl_nil]
  | succ n ih =>
    intro x l hl
    rw [cl_cons]
    have e1 : ((picks l).map fun p => cl m ((x + p.1) :: p.2)).sum = ((picks l).map fun p => spl p.2 fun T R => (fun T R => if x + T.sum ≤ m then fact (T.length - 1) * cl m R else 0) (p.1 :: T) R).sum := by
      apply map_sum_congr
      intro p hp
      have := picks_len hp
      rw [ih (x + p.1) p.2 (by omega)]
      apply spl_congr
      intro T R _
      simp only [List.sum_cons, List.length_cons, Nat.add_sub_cancel, Nat.add_assoc]
    rw [e1, spl_picks (fun T R => if x + T.sum ≤ m then fact (T.length - 1) * cl m R else 0) (fun T T' R h => by simp only [h.sum_nat, h.length_eq])]
    rw [← spl_none l fun R => if x ≤ m then cl m R else 0, ← spl_add]
    apply spl_congr
    intro T R _
    cases T with
    | nil => simp [fact]
    | cons y T =>
      rw [if_neg (by simp), Nat.zero_add, List.length_cons, Nat.add_sub_cancel]
      by_cases h : x + (y :: T).sum ≤ m
      · rw [if_pos h, if_pos h]
        show _ = (T.length + 1) * fact T.length * cl m R
        rw [Nat.mul_assoc]
      · rw [if_neg h, if_neg h, Nat.mul_zero]
end Sb

namespace Sb

/-! ### some slips laid: chains that are open, rings that are closed -/
def begins (n : Nat) (p : List Nat) : List Nat := (List.range n).filter fun b => decide (b ∉ p)
theorem mem_begins {n b : Nat} {p : List Nat} : b ∈ begins n p ↔ b < n ∧ b ∉ p := by
  unfold begins
  rw [List.mem_filter, List.mem_range, decide_eq_true_iff]
theorem begins_pw (n : Nat) (p : List Nat) : (begins n p).Pairwise (· < ·) := List.Pairwise.filter _ List.pairwise_lt_range
theorem begins_nd (n : Nat) (p : List Nat) : (begins n p).Nodup := (begins_pw n p).imp fun h => Nat.ne_of_lt h
theorem begins_snoc (n : Nat) (p : List Nat) (s : Nat) : begins n (p ++ [s]) = (begins n p).erase s := by
  rw [(begins_nd n p).erase_eq_filter]
  unfold begins
  rw [List.filter_filter]
  apply List.filter_congr
  intro b _
  rw [Bool.eq_iff_iff]
  simp
  exact And.comm
structure Path (p : List Nat) (b : Nat) (q : List Nat) : Prop where
  head : q[0]? = some b
  step : ∀ i x y, q[i]? = some x → q[i + 1]? = some y → p[x]? = some y
  last : ∀ x, q[q.length - 1]? = some x → p.length ≤ x
structure Round (p c : List Nat) : Prop where
  pos : 0 < c.length
  step : ∀ i x, c[i]? = some x → p[x]? = c[(i + 1) % c.length]?
structure Lay (n : Nat) (p : List Nat) (P : Nat → List Nat) (C : List (List Nat)) : Prop where
  nd : p.Nodup
  lt : ∀ x ∈ p, x < n
  path : ∀ b ∈ begins n p, Path p b (P b)
  round : ∀ c ∈ C, Round p c
  all : ((begins n p).flatMap P ++ C.flatten).Perm (List.range n)
theorem Path.pos {p : List Nat} {b : Nat} {q : List Nat} (h : Path p b q) : 0 < q.length := (List.getElem?_eq_some_iff.mp h.head).1
theorem Lay.len {n : Nat} {p : List Nat} {P : Nat → List Nat} {C : List (List Nat)} (L : Lay n p P C) : p.length ≤ n := nodup_le L.nd L.lt
theorem Lay.start (n : Nat) : Lay n [] (fun b => [b]) [] where
  nd := List.nodup_nil
  lt := fun x h => by cases h
  path := fun b _ => ⟨rfl, fun i x y _ h => by simp at h, fun x _ => Nat.zero_le _⟩
  round := fun c h => by cases h
  all := by
    have e : begins n [] = List.range n := by
      unfold begins
      rw [List.filter_eq_self]
      intro a _
      simp
    have e2 : ∀ l : List Nat, l.flatMap (fun b => [b]) = l := fun l => by
      induction l with
      | nil => rfl
      | cons a l ih => rw [List.flatMap_cons, ih]; rfl
    rw [e, e2]
    simp
theorem last_of {q : List Nat} {x : Nat} (h : q[q.length - 1]? = some x) : ∃ a, q = a ++ [x] := by
  have hl := (List.getElem?_eq_some_iff.mp h).1
  have hne : q ≠ [] := fun e => by rw [e] at hl; simp at hl
  refine ⟨q.dropLast, ?_⟩
  have := List.dropLast_concat_getLast hne
  rw [List.getLast_eq_getElem] at this
  rw [List.getElem?_eq_getElem hl] at h
  rw [Option.some.inj h] at this
  exact this.symm
theorem get_snoc {p : List Nat} {x y s : Nat} (h : p[x]? = some y) : (p ++ [s])[x]? = some y := by
  rw [List.getElem?_append_left (List.getElem?_eq_some_iff.mp h).1]
  exact h
/-- where the next box stands: behind an open chain -/
theorem Lay.open_ {n : Nat} {p : List Nat} {P : Nat → List Nat} {C : List (List Nat)} (L : Lay n p P C) (hk : p.length < n) : ∃ A, A ∈ begins n p ∧ (P A)[(P A).length - 1]? = some p.length := by
  have hm : p.length ∈ (begins n p).flatMap P ++ C.flatten := L.all.mem_iff.mpr (List.mem_range.mpr hk)
  have hnone : p[p.length]? = none := List.getElem?_eq_none (Nat.le_refl _)
  rcases List.mem_append.mp hm with h | h
  · obtain ⟨A, hA, hx⟩ := List.mem_flatMap.mp h
    refine ⟨A, hA, ?_⟩
    obtain ⟨i, hi⟩ := List.mem_iff_getElem?.mp hx
    have hil := (List.getElem?_eq_some_iff.mp hi).1
    by_cases hlast : i + 1 < (P A).length
    · have := (L.path A hA).step i _ _ hi (List.getElem?_eq_getElem hlast)
      rw [hnone] at this
      cases this
    · rw [show (P A).length - 1 = i by omega]
      exact hi
  · obtain ⟨c, hc, hx⟩ := List.mem_flatten.mp h
    obtain ⟨i, hi⟩ := List.mem_iff_getElem?.mp hx
    have R := L.round c hc
    have := R.step i _ hi
    rw [hnone, List.getElem?_eq_getElem (Nat.mod_lt _ R.pos)] at this
    cases this
theorem Lay.nodup {n : Nat} {p : List Nat} {P : Nat → List Nat} {C : List (List Nat)} (L : Lay n p P C) : ((begins n p).flatMap P ++ C.flatten).Nodup := L.all.nodup_iff.mpr List.nodup_range
theorem Lay.apart {n : Nat} {p : List Nat} {P : Nat → List Nat} {C : List (List Nat)} (L : Lay n p P C) {a b x : Nat} (ha : a ∈ begins n p) (hb : b ∈ begins n p) (h1 : x ∈ P a) (h2 : x ∈ P b) : a = b := by
  by_cases e : a = b
  · exact e
  exfalso
  have nd := (List.nodup_append.mp L.nodup).1
  have p1 : (begins n p).Perm (a :: (begins n p).erase a) := List.perm_cons_erase ha
  have nd2 := (p1.flatMap_right P).nodup_iff.mp nd
  rw [List.flatMap_cons] at nd2
  refine (List.nodup_append.mp nd2).2.2 x h1 x ?_ rfl
  exact List.mem_flatMap.mpr ⟨b, (List.mem_erase_of_ne fun z => e z.symm).mpr hb, h2⟩
def Pn (P : Nat → List Nat) (A s : Nat) : Nat → List Nat := if s = A then P else fun b => if b = A then P A ++ P s else P b
def Cn (P : Nat → List Nat) (C : List (List Nat)) (A s : Nat) : List (List Nat) := if s = A then P s :: C else C
theorem Lay.next {n : Nat} {p : List Nat} {P : Nat → List Nat} {C : List (List Nat)} (L : Lay n p P C) {A : Nat} (hA : A ∈ begins n p) (he : (P A)[(P A).length - 1]? = some p.length) {s : Nat} (hs : s ∈ begins n p) :
    Lay n (p ++ [s]) (Pn P A s) (Cn P C A s) := by
  have hsn := mem_begins.mp hs
  have nd' : (p ++ [s]).Nodup := by
    rw [List.nodup_append]
    refine ⟨L.nd, by simp, fun a ha b hb => ?_⟩
    simp at hb
    subst hb
    exact fun e => hsn.2 (e ▸ ha)
  have lt' : ∀ x ∈ p ++ [s], x < n := fun x hx => by
    rcases List.mem_append.mp hx with h | h
    · exact L.lt x h
    · simp at h; subst h; exact hsn.1
  have other : ∀ b ∈ begins n p, b ≠ A → Path (p ++ [s]) b (P b) := fun b hb hbA => by
    have h := L.path b hb
    refine ⟨h.head, fun i x y hx hy => get_snoc (h.step i x y hx hy), fun x hx => ?_⟩
    have h1 := h.last x hx
    have h2 : x ≠ p.length := fun e => hbA (L.apart hb hA (List.mem_of_getElem? hx) (by rw [e]; exact List.mem_of_getElem? he))
    rw [List.length_append]
    show p.length + 1 ≤ x
    omega
  have round' : ∀ c ∈ C, Round (p ++ [s]) c := fun c hc => by
    have R := L.round c hc
    refine ⟨R.pos, fun i x hx => ?_⟩
    have h := R.step i x hx
    have hl := Nat.mod_lt (i + 1) R.pos
    rw [List.getElem?_eq_getElem hl] at h ⊢
    exact get_snoc h
  have p1 : (begins n p).Perm (s :: (begins n p).erase s) := List.perm_cons_erase hs
  have hk : (p ++ [s])[p.length]? = some s := by
    rw [List.getElem?_append_right (Nat.le_refl _), Nat.sub_self]; rfl
  by_cases e : s = A
  · unfold Pn Cn
    rw [if_pos e, if_pos e]
    subst e
    refine ⟨nd', lt', fun b hb => ?_, fun c hc => ?_, ?_⟩
    · rw [begins_snoc, (begins_nd n p).mem_erase_iff] at hb
      exact other b hb.2 hb.1
    · rcases List.mem_cons.mp hc with rfl | hc
      · have h := L.path s hs
        refine ⟨h.pos, fun i x hx => ?_⟩
        have hi := (List.getElem?_eq_some_iff.mp hx).1
        by_cases hl : i + 1 < (P s).length
        · rw [Nat.mod_eq_of_lt hl, List.getElem?_eq_getElem hl]
          exact get_snoc (h.step i x _ hx (List.getElem?_eq_getElem hl))
        · have ei : i = (P s).length - 1 := by omega
          rw [ei, he] at hx
          cases hx
          rw [show i + 1 = (P s).length by omega, Nat.mod_self, h.head]
          exact hk
      · exact round' c hc
    · rw [begins_snoc, List.flatten_cons]
      refine .trans ?_ L.all
      have h2 := (p1.flatMap_right P).append_right C.flatten
      rw [List.flatMap_cons] at h2
      refine .trans ?_ h2.symm
      rw [← List.append_assoc]
      exact List.perm_append_comm.append_right _
  · unfold Pn Cn
    rw [if_neg e, if_neg e]
    refine ⟨nd', lt', fun b hb => ?_, round', ?_⟩
    · rw [begins_snoc, (begins_nd n p).mem_erase_iff] at hb
      by_cases hbA : b = A
      · subst hbA
        show Path _ _ (if b = b then P b ++ P s else P b)
        rw [if_pos rfl]
        have h1 := L.path b hA
        have h2 := other s hs e
        have hp1 := h1.pos
        have hp2 := h2.pos
        refine ⟨?_, fun i x y hx hy => ?_, fun x hx => ?_⟩
        · rw [List.getElem?_append_left hp1]
          exact h1.head
        · by_cases hi : i + 1 < (P b).length
          · rw [List.getElem?_append_left (by omega)] at hx
            rw [List.getElem?_append_left hi] at hy
            exact get_snoc (h1.step i x y hx hy)
          · by_cases hi2 : i + 1 = (P b).length
            · rw [List.getElem?_append_left (by omega), show i = (P b).length - 1 by omega, he] at hx
              rw [List.getElem?_append_right (by omega), hi2, Nat.sub_self, h2.head] at hy
              cases hx
              cases hy
              exact hk
            · rw [List.getElem?_append_right (by omega)] at hx hy
              rw [show i + 1 - (P b).length = i - (P b).length + 1 by omega] at hy
              exact h2.step _ x y hx hy
        · rw [List.length_append, List.getElem?_append_right (by omega), show (P b).length + (P s).length - 1 - (P b).length = (P s).length - 1 by omega] at hx
          exact h2.last x hx
      · show Path _ _ (if b = A then P A ++ P s else P b)
        rw [if_neg hbA]
        exact other b hb.2 hbA
    · rw [begins_snoc]
      refine .trans ?_ L.all
      apply List.Perm.append_right
      have hA2 : A ∈ (begins n p).erase s := (List.mem_erase_of_ne fun z => e z.symm).mpr hA
      have p2 := List.perm_cons_erase hA2
      have p3 : (begins n p).Perm (s :: A :: ((begins n p).erase s).erase A) := p1.trans (p2.cons s)
      have nd3 := p3.nodup_iff.mp (begins_nd n p)
      refine (p2.flatMap_right _).trans (.trans ?_ (p3.flatMap_right P).symm)
      rw [List.flatMap_cons, List.flatMap_cons, List.flatMap_cons]
      rw [if_pos rfl]
      have e3 : (((begins n p).erase s).erase A).flatMap (fun b => if b = A then P A ++ P s else P b) = (((begins n p).erase s).erase A).flatMap P := by
        have hn : ∀ b ∈ ((begins n p).erase s).erase A, b ≠ A := fun b hb z => by
          subst z
          have := (List.nodup_cons.mp (List.nodup_cons.mp nd3).2).1
          exact this hb
        rw [List.flatMap_def, List.flatMap_def]
        congr 1
        apply List.map_congr_left
        intro b hb
        exact if_neg (hn b hb)
      rw [e3, ← List.append_assoc]
      exact List.perm_append_comm.append_right _
/-! ### how many winning settings begin with them -/
def lens (n : Nat) (p : List Nat) (P : Nat → List Nat) : List Nat := (begins n p).map fun b => (P b).length
def Small (C : List (List Nat)) (m : Nat) : Prop := ∀ c ∈ C, c.length ≤ m
instance (C : List (List Nat)) (m : Nat) : Decidable (Small C m) := inferInstanceAs (Decidable (∀ c ∈ C, c.length ≤ m))
def val (n m : Nat) (p : List Nat) (P : Nat → List Nat) (C : List (List Nat)) : Nat := if Small C m then cl m (lens n p P) else 0
theorem picks_nd : ∀ {B : List Nat}, B.Nodup → picks B = B.map fun s => (s, B.erase s)
  | [], _ => rfl
  | a :: B, h => by
    obtain ⟨h1, h2⟩ := List.nodup_cons.mp h
    unfold picks
    rw [picks_nd h2, List.map_cons, List.map_map]
    congr 1
    · simp
    · apply List.map_congr_left
      intro s hs
      have : ¬ (a == s) = true := fun z => h1 (by rw [beq_iff_eq.mp z]; exact hs)
      simp only [Function.comp_apply, List.erase_cons, if_neg this]
theorem picks_map (f : Nat → Nat) : ∀ B : List Nat, picks (B.map f) = (picks B).map fun p => (f p.1, p.2.map f)
  | [] => rfl
  | a :: B => by
    unfold picks
    rw [List.map_cons]
    simp only [picks_map f B, List.map_cons, List.map_map]
    rfl
theorem val_sum {n m : Nat} {p : List Nat} {P : Nat → List Nat} {C : List (List Nat)} {A : Nat} (hA : A ∈ begins n p) :
    ((begins n p).map fun s => val n m (p ++ [s]) (Pn P A s) (Cn P C A s)).sum = val n m p P C := by
  have nd := begins_nd n p
  have p1 : (begins n p).Perm (A :: (begins n p).erase A) := List.perm_cons_erase hA
  have ndB := nd.erase A
  have hB : ∀ s ∈ (begins n p).erase A, s ≠ A ∧ s ∈ begins n p := fun s hs => nd.mem_erase_iff.mp hs
  generalize eB : (begins n p).erase A = B at p1 ndB hB
  have e1 := (p1.map fun s => val n m (p ++ [s]) (Pn P A s) (Cn P C A s)).sum_nat
  rw [e1, List.map_cons, List.sum_cons]
  have eA : val n m (p ++ [A]) (Pn P A A) (Cn P C A A) = if Small C m then (if (P A).length ≤ m then cl m (B.map fun b => (P b).length) else 0) else 0 := by
    unfold val Cn Pn lens
    rw [if_pos rfl, if_pos rfl, begins_snoc, eB]
    by_cases h1 : Small C m
    · by_cases h2 : (P A).length ≤ m
      · rw [if_pos h1, if_pos h2, if_pos]
        intro c hc
        rcases List.mem_cons.mp hc with rfl | hc
        · exact h2
        · exact h1 c hc
      · rw [if_pos h1, if_neg h2, if_neg]
        exact fun z => h2 (z _ List.mem_cons_self)
    · rw [if_neg h1, if_neg]
      exact fun z => h1 fun c hc => z c (List.mem_cons_of_mem _ hc)
  have eS : (B.map fun s => val n m (p ++ [s]) (Pn P A s) (Cn P C A s)).sum = if Small C m then (B.map fun s => cl m (((P A).length + (P s).length) :: (B.erase s).map fun b => (P b).length)).sum else 0 := by
    rw [← map_sum_if]
    apply map_sum_congr
    intro s hs
    obtain ⟨hne, hsb⟩ := hB s hs
    unfold val Cn Pn lens
    rw [if_neg hne, if_neg hne, begins_snoc]
    by_cases h1 : Small C m
    · rw [if_pos h1, if_pos h1]
      apply cl_perm
      have hA2 : A ∈ (begins n p).erase s := (List.mem_erase_of_ne fun z => hne z.symm).mpr hA
      have p2 := List.perm_cons_erase hA2
      rw [List.erase_comm, eB] at p2
      refine (p2.map _).trans ?_
      rw [List.map_cons, if_pos rfl, List.length_append]
      refine .cons _ (.of_eq ?_)
      apply List.map_congr_left
      intro b hb
      have : b ≠ A := (hB b (List.mem_of_mem_erase hb)).1
      rw [if_neg this]
    · rw [if_neg h1, if_neg h1]
  rw [eA, eS]
  unfold val
  by_cases h1 : Small C m
  · rw [if_pos h1, if_pos h1, if_pos h1]
    have e3 : cl m (lens n p P) = cl m ((P A).length :: B.map fun b => (P b).length) := cl_perm (p1.map fun b => (P b).length)
    rw [e3, cl_cons, picks_map, picks_nd ndB, List.map_map, List.map_map]
    rfl
  · rw [if_neg h1, if_neg h1, if_neg h1]
/-- the winning settings that begin with p, in the order of lists -/
def wins (n m : Nat) : Nat → List Nat → List (List Nat)
  | 0, p => if (longOf p m).isEmpty then [p] else []
  | f + 1, p => (begins n p).flatMap fun s => wins n m f (p ++ [s])
theorem Lay.done {n : Nat} {p : List Nat} {P : Nat → List Nat} {C : List (List Nat)} (L : Lay n p P C) (h : p.length = n) : Good p ∧ begins n p = [] ∧ ∀ m, Small C m ↔ Short p m := by
  have hp : p.Perm (List.range n) := by
    refine (List.perm_ext_iff_of_nodup L.nd List.nodup_range).mpr fun x => ?_
    rw [List.mem_range]
    refine ⟨L.lt x, fun hx => ?_⟩
    by_cases hm : x ∈ p
    · exact hm
    · have nd : (p ++ [x]).Nodup := by
        rw [List.nodup_append]
        refine ⟨L.nd, by simp, fun a ha b hb e => ?_⟩
        simp at hb
        subst hb
        exact hm (e ▸ ha)
      have := nodup_le (n := n) nd fun y hy => by
        rcases List.mem_append.mp hy with h | h
        · exact L.lt y h
        · simp at h; omega
      rw [List.length_append] at this
      simp at this
      omega
  have g : Good p := ⟨by rw [h]; exact hp⟩
  have hb : begins n p = [] := by
    unfold begins
    rw [List.filter_eq_nil_iff]
    intro x hx
    rw [decide_eq_true_iff]
    exact fun z => z (hp.mem_iff.mpr hx)
  refine ⟨g, hb, fun m => ?_⟩
  have all := L.all
  rw [hb, List.flatMap_nil, List.nil_append] at all
  have ndf : C.flatten.Nodup := all.nodup_iff.mpr List.nodup_range
  have ring : ∀ c ∈ C, ∀ x ∈ c, (ringOf p x).length = c.length := fun c hc x hx => by
    have R := L.round c hc
    have ndc : c.Nodup := by
      have := List.perm_cons_erase hc
      have h2 := this.flatten.nodup_iff.mp ndf
      rw [List.flatten_cons] at h2
      exact (List.nodup_append.mp h2).1
    have lt : ∀ y ∈ c, y < p.length := fun y hy => by
      rw [h]
      exact List.mem_range.mp (all.mem_iff.mp (List.mem_flatten.mpr ⟨c, hc, hy⟩))
    obtain ⟨h0, hh0⟩ : ∃ x, c[0]? = some x := ⟨c[0]'R.pos, List.getElem?_eq_getElem R.pos⟩
    have I : IsRing p h0 c := by
      refine isRing_iff.mpr ⟨hh0, ndc, lt, fun i a b ha hb => ?_⟩
      have := R.step i a ha
      rw [hb, nxt_get? (lt a (List.mem_of_getElem? ha))] at this
      exact Option.some.inj this
    have e := I.eq g
    have hx' : x ∈ ringOf p h0 := by rw [← e]; exact hx
    rw [ringOf_len_eq g I.toChain.hlt hx', ← e]
  constructor
  · intro hS x hx
    have : x ∈ C.flatten := all.mem_iff.mpr (List.mem_range.mpr (by omega))
    obtain ⟨c, hc, hxc⟩ := List.mem_flatten.mp this
    rw [ring c hc x hxc]
    exact hS c hc
  · intro hS c hc
    have R := L.round c hc
    have hm : c[0]'R.pos ∈ c := List.getElem_mem R.pos
    rw [← ring c hc _ hm]
    refine hS _ ?_
    rw [h]
    exact List.mem_range.mp (all.mem_iff.mp (List.mem_flatten.mpr ⟨c, hc, hm⟩))
theorem wins_len {n m : Nat} : ∀ {f : Nat} {p : List Nat} {P : Nat → List Nat} {C : List (List Nat)}, Lay n p P C → p.length + f = n → (wins n m f p).length = val n m p P C := by
  intro f
  induction f with
  | zero =>
    intro p P C L h
    obtain ⟨g, hb, hs⟩ := L.done h
    unfold wins val lens
    rw [hb, List.map_nil, cl_nil]
    by_cases hS : Short p m
    · rw [if_pos ((hs m).mpr hS), if_pos (by rw [(longOf_nil g).mpr hS]; rfl)]
      rfl
    · rw [if_neg fun z => hS ((hs m).mp z), if_neg]
      · rfl
      · intro z
        exact hS ((longOf_nil g).mp (List.isEmpty_iff.mp z))
  | succ f ih =>
    intro p P C L h
    obtain ⟨A, hA, he⟩ := L.open_ (by omega)
    unfold wins
    rw [List.length_flatMap, ← val_sum hA (P := P) (C := C)]
    apply map_sum_congr
    intro s hs
    exact ih (L.next hA he hs) (by rw [List.length_append]; show p.length + 1 + f = n; omega)
end Sb

namespace Sb

/-! ### the count by the ring of the first box -/
/-- gain and ways behind s sizes -/
def gw (T : List Nat) (k : Nat) : Nat → Nat × Nat
  | 0 => (0, 1)
  | s + 1 => ((gw T k s).1 + (gw T k s).2 * T.getD (k - (s + 1)) 0, (gw T k s).2 * (k - (s + 1)))
theorem gw_succ (T : List Nat) (k s : Nat) : gw T k (s + 1) = ((gw T k s).1 + (gw T k s).2 * T.getD (k - (s + 1)) 0, (gw T k s).2 * (k - (s + 1))) := rfl
def tbl (m : Nat) : Nat → List Nat
  | 0 => [1]
  | k + 1 => tbl m k ++ [(gw (tbl m k) (k + 1) (min m (k + 1))).1]
def hm (n m : Nat) : Nat := (tbl m n).getD n 0
theorem tbl_succ (m k : Nat) : tbl m (k + 1) = tbl m k ++ [(gw (tbl m k) (k + 1) (min m (k + 1))).1] := rfl
theorem tbl_len (m : Nat) : ∀ n, (tbl m n).length = n + 1
  | 0 => rfl
  | n + 1 => by unfold tbl; rw [List.length_append, tbl_len m n]; rfl
theorem cl_far {m : Nat} : ∀ {n x : Nat} {l : List Nat}, l.length = n → m < x → cl m (x :: l) = 0 := by
  intro n
  induction n with
  | zero =>
    intro x l hl hx
    rw [List.length_eq_zero_iff.mp hl, cl_cons, if_neg (by omega)]
    rfl
  | succ n ih =>
    intro x l hl hx
    rw [cl_cons, if_neg (by omega), Nat.zero_add, map_sum_congr (g := fun _ => 0) fun p hp => ih (by have := picks_len hp; omega) (by omega)]
    generalize picks l = q
    induction q with
    | nil => rfl
    | cons a q ih => simpa using ih
theorem picks_one : ∀ j : Nat, picks (List.replicate (j + 1) 1) = List.replicate (j + 1) (1, List.replicate j 1)
  | 0 => rfl
  | j + 1 => by
    rw [List.replicate_succ (n := j + 1)]
    unfold picks
    rw [picks_one j, List.map_replicate, List.replicate_succ (n := j + 1)]
    rfl
theorem cl_ones (m c : Nat) (j : Nat) : cl m (c :: List.replicate j 1) = (if c ≤ m then cl m (List.replicate j 1) else 0) + j * cl m ((c + 1) :: List.replicate (j - 1) 1) := by
  rw [cl_cons]
  congr 1
  cases j with
  | zero => simp [picks]
  | succ j =>
    rw [picks_one, List.map_replicate, List.sum_replicate_nat]
    rfl
theorem gw_is {m k : Nat} {T : List Nat} (hT : ∀ i, i < k → T.getD i 0 = cl m (List.replicate i 1)) (hk : 1 ≤ k) : ∀ s, s ≤ k → s ≤ m → cl m (List.replicate k 1) = (gw T k s).1 + (gw T k s).2 * cl m ((s + 1) :: List.replicate (k - 1 - s) 1)
  | 0, _, _ => by
    unfold gw
    rw [Nat.zero_add, Nat.one_mul, Nat.sub_zero, Nat.zero_add, show k = (k - 1) + 1 by omega, List.replicate_succ]
    rfl
  | s + 1, h1, h2 => by
    rw [gw_is hT hk s (by omega) (by omega), gw_succ]
    rw [cl_ones, if_pos (by omega), hT _ (by omega), show k - (s + 1) = k - 1 - s by omega, show k - 1 - (s + 1) = k - 1 - s - 1 by omega, Nat.mul_add, Nat.mul_assoc]
    omega
theorem gw_end {m k : Nat} {T : List Nat} (hT : ∀ i, i < k → T.getD i 0 = cl m (List.replicate i 1)) (hk : 1 ≤ k) : (gw T k (min m k)).1 = cl m (List.replicate k 1) := by
  have h := gw_is hT hk (min m k) (Nat.min_le_right ..) (Nat.min_le_left ..)
  by_cases hm : m < k
  · rw [Nat.min_eq_left (by omega)] at h ⊢
    rw [cl_far (n := k - 1 - m) (by simp) (by omega)] at h
    omega
  · rw [Nat.min_eq_right (by omega)] at h ⊢
    have : (gw T k k).2 = 0 := by
      obtain ⟨j, rfl⟩ : ∃ j, k = j + 1 := ⟨k - 1, by omega⟩
      unfold gw
      rw [Nat.sub_self, Nat.mul_zero]
    rw [this] at h
    omega
theorem tbl_is (m : Nat) : ∀ n i, i ≤ n → (tbl m n).getD i 0 = cl m (List.replicate i 1)
  | 0, i, h => by
    have : i = 0 := by omega
    subst this
    rfl
  | n + 1, i, h => by
    unfold tbl
    rw [List.getD_eq_getElem?_getD]
    by_cases hi : i ≤ n
    · rw [List.getElem?_append_left (by rw [tbl_len]; omega), ← List.getD_eq_getElem?_getD]
      exact tbl_is m n i hi
    · have e : i = n + 1 := by omega
      subst e
      rw [List.getElem?_append_right (by rw [tbl_len]; omega), tbl_len, Nat.sub_self]
      show (gw (tbl m n) (n + 1) (min m (n + 1))).1 = _
      exact gw_end (fun i hi => tbl_is m n i (by omega)) (by omega)
theorem tbl_pre (m : Nat) : ∀ n k, k ≤ n → tbl m n = tbl m k ++ (tbl m n).drop (k + 1)
  | n, k, h => by
    induction n with
    | zero =>
      have : k = 0 := by omega
      subst this
      rfl
    | succ n ih =>
      by_cases hk : k ≤ n
      · have e := ih hk
        have hl : k + 1 ≤ (tbl m n).length := by rw [tbl_len]; omega
        rw [tbl_succ, List.drop_append_of_le_length hl, ← List.append_assoc, ← e]
      · have : k = n + 1 := by omega
        subst this
        rw [List.drop_of_length_le (by rw [tbl_len]; omega), List.append_nil]
theorem hm_is (n m : Nat) : hm n m = cl m (List.replicate n 1) := tbl_is m n n (Nat.le_refl _)
theorem hm_wins (n m : Nat) : hm n m = (wins n m n []).length := by
  rw [wins_len (Lay.start n) (by simp), hm_is]
  unfold val lens
  have hS : Small [] m := fun c hc => by cases hc
  rw [if_pos hS]
  have e : begins n [] = List.range n := by
    unfold begins
    rw [List.filter_eq_self]
    intro a _
    simp
  rw [e]
  congr 1
  show _ = (List.range n).map fun _ => 1
  rw [List.map_const', List.length_range]

/-! ### the order of lists -/
theorem app_lt {p a b : List Nat} (h : a < b) : p ++ a < p ++ b := by
  induction p with
  | nil => exact h
  | cons x p ih => exact List.cons_lt_cons_iff.mpr (.inr ⟨rfl, ih⟩)
theorem wins_pre {n m : Nat} : ∀ {f : Nat} {p x : List Nat}, x ∈ wins n m f p → ∃ r, x = p ++ r := by
  intro f
  induction f with
  | zero =>
    intro p x h
    unfold wins at h
    split at h
    · exact ⟨[], by simpa using h⟩
    · cases h
  | succ f ih =>
    intro p x h
    unfold wins at h
    obtain ⟨s, _, hs⟩ := List.mem_flatMap.mp h
    obtain ⟨r, rfl⟩ := ih hs
    exact ⟨s :: r, by simp⟩
theorem wins_pw {n m : Nat} : ∀ (f : Nat) (p : List Nat), (wins n m f p).Pairwise (· < ·) := by
  intro f
  induction f with
  | zero =>
    intro p
    unfold wins
    split <;> simp
  | succ f ih =>
    intro p
    unfold wins
    rw [List.pairwise_flatMap]
    refine ⟨fun s _ => ih _, (begins_pw n p).imp fun {s t} hst x hx y hy => ?_⟩
    obtain ⟨r, rfl⟩ := wins_pre hx
    obtain ⟨q, rfl⟩ := wins_pre hy
    rw [List.append_assoc, List.append_assoc]
    exact app_lt (List.cons_lt_cons_iff.mpr (.inl hst))
/-- each of them is a winning setting -/
theorem wins_good {n m : Nat} : ∀ {f : Nat} {p x : List Nat} {P : Nat → List Nat} {C : List (List Nat)}, Lay n p P C → p.length + f = n → x ∈ wins n m f p → x.length = n ∧ Good x ∧ Short x m := by
  intro f
  induction f with
  | zero =>
    intro p x P C L h hx
    obtain ⟨g, _, _⟩ := L.done h
    unfold wins at hx
    split at hx
    · rename_i he
      have : x = p := by simpa using hx
      subst this
      exact ⟨h, g, (longOf_nil g).mp (List.isEmpty_iff.mp he)⟩
    · cases hx
  | succ f ih =>
    intro p x P C L h hx
    unfold wins at hx
    obtain ⟨s, hs, hx⟩ := List.mem_flatMap.mp hx
    obtain ⟨A, hA, he⟩ := L.open_ (by omega)
    exact ih (L.next hA he hs) (by rw [List.length_append]; show p.length + 1 + f = n; omega) hx
theorem wins_all {n m : Nat} {x : List Nat} (h : x ∈ wins n m n []) : x.length = n ∧ Good x ∧ Short x m := wins_good (Lay.start n) (by simp) h
theorem lay_of {n : Nat} {p : List Nat} (nd : p.Nodup) (lt : ∀ x ∈ p, x < n) : ∃ P C, Lay n p P C := by
  suffices H : ∀ k, k ≤ p.length → ∃ P C, Lay n (p.take k) P C by
    have := H p.length (Nat.le_refl _)
    rwa [List.take_length] at this
  intro k
  induction k with
  | zero => exact fun _ => ⟨_, _, Lay.start n⟩
  | succ k ih =>
    intro hk
    obtain ⟨P, C, L⟩ := ih (by omega)
    have hlen : (p.take k).length = k := by rw [List.length_take]; omega
    have hpn := nodup_le nd lt
    obtain ⟨A, hA, he⟩ := L.open_ (by omega)
    have hs : p[k] ∈ begins n (p.take k) := by
      refine mem_begins.mpr ⟨lt _ (List.getElem_mem _), fun z => ?_⟩
      have e : p = p.take k ++ p.drop k := (List.take_append_drop k p).symm
      have nd2 := nd
      rw [e] at nd2
      refine (List.nodup_append.mp nd2).2.2 _ z p[k] ?_ rfl
      rw [List.drop_eq_getElem_cons (by omega)]
      exact List.mem_cons_self
    rw [List.take_add_one, List.getElem?_eq_getElem (by omega)]
    exact ⟨_, _, L.next hA he hs⟩
/-! ### the slips from j on -/
def bfrom (n : Nat) (p : List Nat) (j : Nat) : List Nat := (List.range' j (n - j)).filter fun b => decide (b ∉ p)
def rest (n m f : Nat) (p : List Nat) (j : Nat) : List (List Nat) := (bfrom n p j).flatMap fun s => wins n m f (p ++ [s])
theorem rest_zero (n m f : Nat) (p : List Nat) : rest n m f p 0 = wins n m (f + 1) p := by
  show (bfrom n p 0).flatMap _ = (begins n p).flatMap _
  unfold bfrom begins
  rw [Nat.sub_zero, ← List.range_eq_range']
theorem rest_in {n m f : Nat} {p : List Nat} {j : Nat} (hj : j < n) (hp : j ∉ p) : rest n m f p j = wins n m f (p ++ [j]) ++ rest n m f p (j + 1) := by
  unfold rest bfrom
  rw [show n - j = (n - (j + 1)) + 1 by omega, List.range'_succ, List.filter_cons_of_pos (by simpa using hp), List.flatMap_cons]
theorem rest_out {n m f : Nat} {p : List Nat} {j : Nat} (hj : j < n) (hp : j ∈ p) : rest n m f p j = rest n m f p (j + 1) := by
  unfold rest bfrom
  rw [show n - j = (n - (j + 1)) + 1 by omega, List.range'_succ, List.filter_cons_of_neg (by simpa using hp)]
theorem rest_end (n m f : Nat) (p : List Nat) : rest n m f p n = [] := by
  unfold rest bfrom
  rw [Nat.sub_self]
  rfl
/-- what stands in a list from a place on -/
def Seg (t : List (List Nat)) (o : Nat) (l : List (List Nat)) : Prop := ∀ (i : Nat) (x : List Nat), l[i]? = some x → t[o + i]? = some x
theorem Seg.left {t : List (List Nat)} {o : Nat} {a b : List (List Nat)} (h : Seg t o (a ++ b)) : Seg t o a := fun i x hx => h i x (by
  rw [List.getElem?_append_left (List.getElem?_eq_some_iff.mp hx).1]; exact hx)
theorem Seg.right {t : List (List Nat)} {o : Nat} {a b : List (List Nat)} (h : Seg t o (a ++ b)) : Seg t (o + a.length) b := fun i x hx => by
  rw [Nat.add_assoc]
  exact h _ x (by rw [List.getElem?_append_right (by omega), Nat.add_sub_cancel_left]; exact hx)
theorem wins_uniq {n m i j : Nat} {x : List Nat} (hi : (wins n m n [])[i]? = some x) (hj : (wins n m n [])[j]? = some x) : i = j := by
  have h1 := (List.getElem?_eq_some_iff.mp hi)
  have h2 := (List.getElem?_eq_some_iff.mp hj)
  obtain ⟨h1, e1⟩ := h1
  obtain ⟨h2, e2⟩ := h2
  have pw := List.pairwise_iff_getElem.mp (wins_pw (n := n) (m := m) n [])
  rcases Nat.lt_trichotomy i j with h | h | h
  · have := pw i j h1 h2 h
    rw [e1, e2] at this
    exact absurd this (List.lt_irrefl x)
  · exact h
  · have := pw j i h2 h1 h
    rw [e1, e2] at this
    exact absurd this (List.lt_irrefl x)
theorem wins_lt {n m i j : Nat} {x y : List Nat} (hi : (wins n m n [])[i]? = some x) (hj : (wins n m n [])[j]? = some y) : i < j ↔ x < y := by
  obtain ⟨h1, e1⟩ := (List.getElem?_eq_some_iff.mp hi)
  obtain ⟨h2, e2⟩ := (List.getElem?_eq_some_iff.mp hj)
  have pw := List.pairwise_iff_getElem.mp (wins_pw (n := n) (m := m) n [])
  constructor
  · intro h
    have := pw i j h1 h2 h
    rwa [e1, e2] at this
  · intro h
    rcases Nat.lt_trichotomy i j with z | z | z
    · exact z
    · subst z
      rw [hi] at hj
      cases hj
      exact absurd h (List.lt_irrefl x)
    · have := pw j i h2 h1 z
      rw [e1, e2] at this
      exact absurd (List.lt_trans h this) (List.lt_irrefl x)
/-- each winning setting is one of them -/
theorem wins_has {n m : Nat} {x : List Nat} (hl : x.length = n) (g : Good x) (hs : Short x m) : ∃ i : Nat, (wins n m n [])[i]? = some x := by
  suffices H : ∀ f k, k + f = n → x ∈ wins n m f (x.take k) by
    have := H n 0 (by omega)
    exact List.mem_iff_getElem?.mp this
  intro f
  induction f with
  | zero =>
    intro k hk
    rw [List.take_of_length_le (by omega)]
    unfold wins
    rw [if_pos (by rw [(longOf_nil g).mpr hs]; rfl)]
    exact List.mem_singleton.mpr rfl
  | succ f ih =>
    intro k hk
    unfold wins
    have hkx : k < x.length := by omega
    refine List.mem_flatMap.mpr ⟨x[k], mem_begins.mpr ⟨by have := g.lt (List.getElem_mem hkx); omega, fun z => ?_⟩, ?_⟩
    · have nd2 := g.nodup
      rw [← List.take_append_drop k x] at nd2
      refine (List.nodup_append.mp nd2).2.2 _ z x[k] ?_ rfl
      rw [List.drop_eq_getElem_cons hkx]
      exact List.mem_cons_self
    · have := ih (k + 1) (by omega)
      rw [List.take_add_one, List.getElem?_eq_getElem hkx] at this
      exact this
end Sb

namespace Sb

/-! ### counts 1, 2, and from half of the boxes on -/
theorem cl_free {m : Nat} : ∀ j c, 1 ≤ c → c + j ≤ m → cl m (c :: List.replicate j 1) = fact (j + 1)
  | 0, c, h1, h2 => by
    rw [cl_ones, if_pos (by omega), Nat.zero_mul]
    rfl
  | j + 1, c, h1, h2 => by
    rw [cl_ones, if_pos (by omega), List.replicate_succ, cl_free j 1 (by omega) (by omega), Nat.add_sub_cancel, cl_free j (c + 1) (by omega) (by omega)]
    show _ = (j + 1 + 1) * fact (j + 1)
    rw [Nat.add_mul (j + 1) 1, Nat.one_mul, Nat.add_comm]
theorem ones_free {m k : Nat} (h : k ≤ m) : cl m (List.replicate k 1) = fact k := by
  cases k with
  | zero => rfl
  | succ k =>
    rw [List.replicate_succ]
    exact cl_free k 1 (by omega) (by omega)
/-- j (j - 1) .., so many -/
def fall : Nat → Nat → Nat
  | _, 0 => 1
  | j, t + 1 => j * fall (j - 1) t
theorem fall_fact : ∀ (t j : Nat), t ≤ j → fall j t * fact (j - t) = fact j
  | 0, j, _ => by unfold fall; rw [Nat.one_mul]; rfl
  | t + 1, j, h => by
    obtain ⟨i, rfl⟩ : ∃ i, j = i + 1 := ⟨j - 1, by omega⟩
    unfold fall
    rw [Nat.add_sub_cancel, Nat.mul_assoc, show i + 1 - (t + 1) = i - t by omega, fall_fact t i (by omega)]
    rfl
theorem cl_less {m : Nat} : ∀ (d c j : Nat), c + d = m → d ≤ j → cl m (c :: List.replicate j 1) = cl m ((c + 1) :: List.replicate j 1) + fall j d * cl m (List.replicate (j - d) 1)
  | 0, c, j, h, _ => by
    rw [cl_ones, if_pos (by omega), cl_far (n := j - 1) (by simp) (by omega), cl_far (n := j) (by simp) (by omega)]
    unfold fall
    rw [Nat.mul_zero, Nat.zero_add, Nat.one_mul]
    rfl
  | d + 1, c, j, h, hj => by
    rw [cl_ones, if_pos (by omega), cl_ones m (c + 1) j, if_pos (by omega), cl_less d (c + 1) (j - 1) (by omega) (by omega)]
    rw [show fall j (d + 1) = j * fall (j - 1) d from rfl, Nat.mul_add, show j - 1 - d = j - (d + 1) by omega, Nat.mul_assoc]
    omega
theorem hm_free {n m : Nat} (h : n ≤ m) : hm n m = fact n := by rw [hm_is, ones_free h]
theorem hm_next {m k : Nat} (h1 : 1 ≤ m) (h2 : m ≤ k) (h3 : k ≤ 2 * m) : hm (k + 1) m + fact k = (k + 1) * hm k m := by
  rw [hm_is, hm_is, List.replicate_succ, cl_ones, if_pos h1]
  have hk : cl m (List.replicate k 1) = cl m (1 :: List.replicate (k - 1) 1) := by
    rw [← List.replicate_succ, show k - 1 + 1 = k by omega]
  have h := cl_less (m := m) (m - 1) 1 (k - 1) (by omega) (by omega)
  rw [← hk, show k - 1 - (m - 1) = k - m by omega, ones_free (show k - m ≤ m by omega)] at h
  have hf : k * (fall (k - 1) (m - 1) * fact (k - m)) = fact k := by
    rw [show k - m = k - 1 - (m - 1) by omega, fall_fact (m - 1) (k - 1) (by omega)]
    obtain ⟨i, rfl⟩ : ∃ i, k = i + 1 := ⟨k - 1, by omega⟩
    rfl
  rw [← hf]
  generalize fall (k - 1) (m - 1) * fact (k - m) = z at h
  generalize cl m ((1 + 1) :: List.replicate (k - 1) 1) = y at h ⊢
  rw [h, Nat.add_mul, Nat.one_mul, Nat.mul_add]
  omega
/-- those with a longer ring -/
def over (n m : Nat) : Nat → Nat
  | 0 => 0
  | j + 1 => over n m j + fact n / (m + j + 1)
theorem over_step (n m j : Nat) : over n m (j + 1) = over n m j + fact n / (m + j + 1) := rfl
theorem dvd_fact : ∀ {n s : Nat}, 1 ≤ s → s ≤ n → s ∣ fact n
  | 0, s, h1, h2 => by omega
  | n + 1, s, h1, h2 => by
    unfold fact
    by_cases h : s = n + 1
    · subst h
      exact Nat.dvd_mul_right ..
    · exact Nat.dvd_trans (dvd_fact h1 (show s ≤ n by omega)) (Nat.dvd_mul_left ..)
theorem over_succ {n m : Nat} : ∀ j, m + j ≤ n → over (n + 1) m j = (n + 1) * over n m j
  | 0, _ => rfl
  | j + 1, h => by
    unfold over
    rw [over_succ j (by omega), Nat.mul_add]
    congr 1
    show (n + 1) * fact n / _ = _
    exact Nat.mul_div_assoc _ (dvd_fact (by omega) (by omega))
theorem fact_pos : ∀ n, 0 < fact n
  | 0 => by decide
  | n + 1 => Nat.mul_pos (by omega) (fact_pos n)
theorem hm_over {m : Nat} (h1 : 1 ≤ m) : ∀ j, m + j ≤ 2 * m + 1 → hm (m + j) m + over (m + j) m j = fact (m + j)
  | 0, _ => by
    rw [Nat.add_zero, hm_free (Nat.le_refl _)]
    rfl
  | j + 1, h => by
    have ih := hm_over h1 j (by omega)
    have e := hm_next h1 (show m ≤ m + j by omega) (show m + j ≤ 2 * m by omega)
    have e2 : over (m + j + 1) m (j + 1) = (m + j + 1) * over (m + j) m j + fact (m + j) := by
      rw [over_step, over_succ j (Nat.le_refl _)]
      congr 1
      show (m + j + 1) * fact (m + j) / _ = _
      exact Nat.mul_div_cancel_left _ (by omega)
    show hm (m + j + 1) m + over (m + j + 1) m (j + 1) = (m + j + 1) * fact (m + j)
    rw [e2, ← ih, Nat.mul_add, ← e, ih]
    omega
theorem hm_zero (m : Nat) : hm 0 m = 1 := rfl
theorem hm_succ {n m : Nat} : hm (n + 1) m = (gw (tbl m n) (n + 1) (min m (n + 1))).1 := by
  unfold hm
  rw [tbl_succ, List.getD_eq_getElem?_getD, List.getElem?_append_right (by rw [tbl_len]; omega), tbl_len, Nat.sub_self]
  rfl
theorem tbl_get {n m i : Nat} (h : i ≤ n) : (tbl m n).getD i 0 = hm i m := by rw [tbl_is m n i h, hm_is]
theorem hm_one : ∀ n, hm n 1 = 1
  | 0 => rfl
  | n + 1 => by
    rw [hm_succ, Nat.min_eq_left (by omega), gw_succ]
    show 0 + 1 * (tbl 1 n).getD (n + 1 - 1) 0 = 1
    rw [Nat.add_sub_cancel, tbl_get (Nat.le_refl _), hm_one n]
theorem hm_two (n : Nat) : hm (n + 2) 2 = hm (n + 1) 2 + (n + 1) * hm n 2 := by
  rw [hm_succ, Nat.min_eq_left (by omega), gw_succ, gw_succ]
  show 0 + 1 * (tbl 2 (n + 1)).getD (n + 1 + 1 - 1) 0 + 1 * (n + 1 + 1 - 1) * (tbl 2 (n + 1)).getD (n + 1 + 1 - 2) 0 = _
  rw [Nat.add_sub_cancel, show n + 1 + 1 - 2 = n by omega, tbl_get (Nat.le_refl _), tbl_get (by omega), Nat.one_mul, Nat.one_mul, Nat.zero_add]
theorem fact_le : ∀ n k, n ≤ k → fact n ≤ fact k
  | n, 0, h => by
    have : n = 0 := by omega
    subst this
    exact Nat.le_refl _
  | n, k + 1, h => by
    by_cases e : n = k + 1
    · subst e; exact Nat.le_refl _
    · refine Nat.le_trans (fact_le n k (by omega)) ?_
      show fact k ≤ (k + 1) * fact k
      exact Nat.le_mul_of_pos_left _ (by omega)
/-- no more than all lists -/
theorem cl_le (m : Nat) : ∀ (n : Nat) (x : Nat) (l : List Nat), l.length = n → cl m (x :: l) ≤ fact (n + 1)
  | 0, x, l, h => by
    rw [List.length_eq_zero_iff.mp h, cl_cons]
    split
    · exact Nat.le_refl 1
    · exact Nat.zero_le _
  | n + 1, x, l, h => by
    rw [cl_cons]
    have h1 : (if x ≤ m then cl m l else 0) ≤ fact (n + 1) := by
      split
      · cases l with
        | nil => simp at h
        | cons y l => exact cl_le m n y l (by simpa using h)
      · exact Nat.zero_le _
    have h2 : ((picks l).map fun p => cl m ((x + p.1) :: p.2)).sum ≤ (picks l).length * fact (n + 1) := by
      have : ∀ q ∈ picks l, cl m ((x + q.1) :: q.2) ≤ fact (n + 1) := fun q hq => cl_le m n _ _ (by have := picks_len hq; omega)
      generalize picks l = ps at this
      induction ps with
      | nil => simp
      | cons a ps ih =>
        simp only [List.map_cons, List.sum_cons, List.length_cons, Nat.add_mul, Nat.one_mul]
        have a1 := this a List.mem_cons_self
        have a2 := ih fun q hq => this q (List.mem_cons_of_mem _ hq)
        omega
    have h3 : ∀ l : List Nat, (picks l).length = l.length := fun l => by
      induction l with
      | nil => rfl
      | cons y l ih => simp [picks, ih]
    rw [h3, h] at h2
    show _ ≤ (n + 1 + 1) * fact (n + 1)
    rw [Nat.add_mul (n + 1) 1, Nat.one_mul]
    omega
theorem cl_le' (m : Nat) (l : List Nat) : cl m l ≤ fact l.length := by
  cases l with
  | nil => exact Nat.le_refl _
  | cons x l => exact cl_le m _ x l rfl
theorem hm_le (n m : Nat) : hm n m ≤ fact n := by
  rw [hm_is]
  have := cl_le' m (List.replicate n 1)
  rwa [List.length_replicate] at this
/-! ### some of a list, by the figures of a number -/
def tk : List Nat → Nat → List Nat
  | [], _ => []
  | y :: l, q => (if q % 2 = 1 then [y] else []) ++ tk l (q / 2)
def lf : List Nat → Nat → List Nat
  | [], _ => []
  | y :: l, q => (if q % 2 = 0 then [y] else []) ++ lf l (q / 2)
theorem tk_snoc (y : Nat) : ∀ (l : List Nat) (q : Nat), tk (l ++ [y]) q = tk l q ++ (if q / 2 ^ l.length % 2 = 1 then [y] else [])
  | [], q => by simp [tk]
  | a :: l, q => by
    show (if q % 2 = 1 then [a] else []) ++ tk (l ++ [y]) (q / 2) = ((if q % 2 = 1 then [a] else []) ++ tk l (q / 2)) ++ _
    rw [tk_snoc y l, List.append_assoc, Nat.div_div_eq_div_mul, List.length_cons, Nat.pow_succ, Nat.mul_comm 2]
theorem lf_snoc (y : Nat) : ∀ (l : List Nat) (q : Nat), lf (l ++ [y]) q = lf l q ++ (if q / 2 ^ l.length % 2 = 0 then [y] else [])
  | [], q => by simp [lf]
  | a :: l, q => by
    show (if q % 2 = 0 then [a] else []) ++ lf (l ++ [y]) (q / 2) = ((if q % 2 = 0 then [a] else []) ++ lf l (q / 2)) ++ _
    rw [lf_snoc y l, List.append_assoc, Nat.div_div_eq_div_mul, List.length_cons, Nat.pow_succ, Nat.mul_comm 2]
theorem tk_lf : ∀ (l : List Nat) (q : Nat), (tk l q).length + (lf l q).length = l.length
  | [], _ => rfl
  | a :: l, q => by
    have := tk_lf l (q / 2)
    unfold tk lf
    rw [List.length_append, List.length_append, List.length_cons]
    rcases Nat.mod_two_eq_zero_or_one q with h | h <;> simp [h] <;> omega
theorem tk_mem : ∀ {l : List Nat} {q x : Nat}, x ∈ tk l q → x ∈ l
  | [], q, x, h => by cases h
  | a :: l, q, x, h => by
    unfold tk at h
    rcases List.mem_append.mp h with h | h
    · split at h
      · simp at h; subst h; exact List.mem_cons_self
      · cases h
    · exact List.mem_cons_of_mem _ (tk_mem h)
theorem lf_mem : ∀ {l : List Nat} {q x : Nat}, x ∈ lf l q → x ∈ l
  | [], q, x, h => by cases h
  | a :: l, q, x, h => by
    unfold lf at h
    rcases List.mem_append.mp h with h | h
    · split at h
      · simp at h; subst h; exact List.mem_cons_self
      · cases h
    · exact List.mem_cons_of_mem _ (lf_mem h)
theorem range_two (h : Nat → Nat) : ∀ N, ((List.range (2 * N)).map h).sum = ((List.range N).map fun q => h (2 * q) + h (2 * q + 1)).sum
  | 0 => rfl
  | N + 1 => by
    rw [show 2 * (N + 1) = 2 * N + 1 + 1 by omega, List.range_succ, List.range_succ, List.range_succ]
    simp only [List.map_append, List.sum_append, range_two h N, List.map_cons, List.map_nil, List.sum_cons, List.sum_nil]
    omega
theorem spl_bits : ∀ (l : List Nat) (f : List Nat → List Nat → Nat), spl l f = ((List.range (2 ^ l.length)).map fun q => f (tk l q) (lf l q)).sum
  | [], f => by simp [spl, tk, lf]
  | y :: l, f => by
    show spl l _ + spl l _ = _
    rw [← spl_add, spl_bits l, List.length_cons, Nat.pow_succ, Nat.mul_comm _ 2, range_two]
    apply map_sum_congr
    intro q _
    have e1 : 2 * q / 2 = q := by omega
    have e2 : (2 * q + 1) / 2 = q := by omega
    have e3 : 2 * q % 2 = 0 := by omega
    have e4 : (2 * q + 1) % 2 = 1 := by omega
    simp [tk, lf, e1, e2, e3, e4]
end Sb

namespace Sb

/-! ### all lists of so many boxes -/
def insAt (l : List Nat) (n i : Nat) : List Nat := l.take i ++ [n] ++ l.drop i
def ordersOf : Nat → List (List Nat)
  | 0 => [[]]
  | n + 1 => (ordersOf n).flatMap fun l => (List.range (n + 1)).map fun i => insAt l n i
theorem orders_perm : ∀ {n : Nat} {l : List Nat}, l ∈ ordersOf n → l.Perm (List.range n)
  | 0, l, h => by
    have : l = [] := by simpa [ordersOf] using h
    subst this
    exact .refl _
  | n + 1, l, h => by
    unfold ordersOf at h
    obtain ⟨q, hq, h⟩ := List.mem_flatMap.mp h
    obtain ⟨i, _, rfl⟩ := List.mem_map.mp h
    exact insert_perm (orders_perm hq)
theorem orders_good {n : Nat} {l : List Nat} (h : l ∈ ordersOf n) : Good l ∧ l.length = n := by
  have p := orders_perm h
  exact ⟨good_of_perm p, by rw [p.length_eq, List.length_range]⟩
theorem ordersOf_len : ∀ n, (ordersOf n).length = fact n
  | 0 => rfl
  | n + 1 => by
    unfold ordersOf
    rw [List.length_flatMap]
    have : ((ordersOf n).map fun l => ((List.range (n + 1)).map fun i => insAt l n i).length) = List.replicate (fact n) (n + 1) := by
      rw [← ordersOf_len n, ← List.map_const']
      apply List.map_congr_left
      intro l _
      rw [List.length_map, List.length_range]
    rw [this, List.sum_replicate_nat, Nat.mul_comm]
    rfl
/-- the winning ones -/
def due (n m : Nat) : List (List Nat) := (ordersOf n).filter fun b => (longOf b m).isEmpty
theorem due_len : ∀ n, n < 6 → ∀ m, m < 6 → 1 ≤ m → m ≤ n → (due n m).length = hm n m := by decide +kernel
theorem hm63 : hm 6 3 = 276 := by decide +kernel
end Sb

namespace Sb

/-! ### lists of numbers from 1 on with a small sum: not many -/
def cps : Nat → Nat → List (List Nat)
  | 0, _ => [[]]
  | f + 1, s => [] :: (List.range s).flatMap fun x => (cps f (s - (x + 1))).map fun l => (x + 1) :: l
theorem mem_cps : ∀ {f s : Nat} {l : List Nat}, l.length ≤ f → (∀ x ∈ l, 1 ≤ x) → l.sum ≤ s → l ∈ cps f s
  | 0, s, l, h, _, _ => by
    have : l = [] := List.length_eq_zero_iff.mp (by omega)
    subst this
    exact List.mem_singleton.mpr rfl
  | f + 1, s, [], _, _, _ => List.mem_cons_self
  | f + 1, s, x :: l, h, h1, hs => by
    have hx := h1 x List.mem_cons_self
    rw [List.sum_cons] at hs
    rw [List.length_cons] at h
    refine List.mem_cons_of_mem _ (List.mem_flatMap.mpr ⟨x - 1, List.mem_range.mpr (by omega), List.mem_map.mpr ⟨l, ?_, ?_⟩⟩)
    · rw [show x - 1 + 1 = x by omega]
      exact mem_cps (by omega) (fun y hy => h1 y (List.mem_cons_of_mem _ hy)) (by omega)
    · rw [show x - 1 + 1 = x by omega]
theorem nodup_sub : ∀ {l m : List (List Nat)}, l.Nodup → (∀ x ∈ l, x ∈ m) → l.length ≤ m.length
  | [], _, _, _ => Nat.zero_le _
  | x :: l, m, h, hm => by
    obtain ⟨h1, h2⟩ := List.nodup_cons.mp h
    have hx := hm x List.mem_cons_self
    have := nodup_sub (m := m.erase x) h2 fun y hy => (List.mem_erase_of_ne fun e => h1 (by rw [← e]; exact hy)).mpr (hm y (List.mem_cons_of_mem _ hy))
    rw [List.length_erase_of_mem hx] at this
    have hp := List.length_pos_of_mem hx
    rw [List.length_cons]
    omega
theorem cps_len : (cps 8 8).length ≤ 1000 := by decide +kernel
theorem tk_sum : ∀ (l : List Nat) (q : Nat), (tk l q).sum + (lf l q).sum = l.sum
  | [], _ => rfl
  | a :: l, q => by
    have := tk_sum l (q / 2)
    unfold tk lf
    rw [List.sum_append, List.sum_append, List.sum_cons]
    rcases Nat.mod_two_eq_zero_or_one q with h | h <;> simp [h] <;> omega
/-- what is gained behind so many choices -/
def gainTo (m x : Nat) (l : List Nat) (q : Nat) : Nat := ((List.range q).map fun q => if x + (tk l q).sum ≤ m then fact (tk l q).length * cl m (lf l q) else 0).sum
theorem gainTo_succ (m x : Nat) (l : List Nat) (q : Nat) : gainTo m x l (q + 1) = gainTo m x l q + if x + (tk l q).sum ≤ m then fact (tk l q).length * cl m (lf l q) else 0 := by
  unfold gainTo
  rw [List.range_succ, List.map_append, List.sum_append]
  simp
theorem gainTo_all (m x : Nat) (l : List Nat) : gainTo m x l (2 ^ l.length) = cl m (x :: l) := by
  rw [cl_spl m l.length x l rfl, spl_bits]
  rfl
end Sb

namespace Sb
/-! ### each slip in its own box -/
theorem range_good (n : Nat) : Good (List.range n) := ⟨by rw [List.length_range]⟩
theorem range_short {n m : Nat} (hm : 1 ≤ m) : Short (List.range n) m := fun h hh => by
  rw [List.length_range] at hh
  have hx : nxt (List.range n) h = h := by
    rw [nxt_get (by rw [List.length_range]; exact hh), List.getElem_range]
  have R : IsRing (List.range n) h [h] := ⟨Chain.one (by rw [List.length_range]; exact hh), fun x hx' => by
    have : x = h := by simpa using hx'.symm
    subst this
    exact hx⟩
  rw [← R.eq (range_good n)]
  exact hm
theorem hm_pos {n m : Nat} (hm' : 1 ≤ m) : 1 ≤ hm n m := by
  rw [hm_wins]
  obtain ⟨i, hi⟩ := wins_has (n := n) (m := m) (x := List.range n) List.length_range (range_good n) (range_short hm')
  have := (List.getElem?_eq_some_iff.mp hi).1
  omega
theorem wins_at {n m i : Nat} (h : i < hm n m) : ∃ x, (wins n m n [])[i]? = some x := by
  rw [hm_wins] at h
  exact ⟨_, List.getElem?_eq_getElem h⟩
theorem w323 : (wins 3 2 3 [])[3]? = some [2, 1, 0] := by decide +kernel
theorem w321 : (wins 3 2 3 [])[1]? = some [0, 2, 1] := by decide +kernel
theorem w110 : (wins 1 1 1 [])[0]? = some [0] := by decide +kernel
end Sb

namespace Sb

/-! ### settings by their digits -/
theorem begins_len {n : Nat} {p : List Nat} (nd : p.Nodup) (lt : ∀ x ∈ p, x < n) : (begins n p).length + p.length = n := by
  have h := List.filter_append_perm (fun b => decide (b ∉ p)) (List.range n)
  have h2 : ((List.range n).filter fun b => !decide (b ∉ p)).Perm p := by
    refine (List.perm_ext_iff_of_nodup (List.Pairwise.filter _ List.nodup_range) nd).mpr fun x => ?_
    rw [List.mem_filter, List.mem_range]
    constructor
    · rintro ⟨_, h⟩
      simpa using h
    · intro h
      exact ⟨lt x h, by simpa using h⟩
  have e := h.length_eq
  rw [List.length_append, h2.length_eq, List.length_range] at e
  exact e
theorem flat_at {α β : Type} (g : α → List β) (L : Nat) : ∀ (l : List α) (d r : Nat), (∀ a ∈ l, (g a).length = L) → r < L → (l.flatMap g)[d * L + r]? = (l[d]?).bind fun a => (g a)[r]?
  | [], d, r, _, _ => by simp
  | a :: l, 0, r, h, hr => by
    have ha := h a List.mem_cons_self
    rw [List.flatMap_cons, Nat.zero_mul, Nat.zero_add, List.getElem?_append_left (by omega)]
    rfl
  | a :: l, d + 1, r, h, hr => by
    have ha := h a List.mem_cons_self
    have ih := flat_at g L l d r (fun b hb => h b (List.mem_cons_of_mem _ hb)) hr
    rw [List.flatMap_cons, Nat.succ_mul, List.getElem?_append_right (by omega), ha, show d * L + L + r - L = d * L + r by omega, ih]
    rfl
theorem good_full {n : Nat} {p : List Nat} (nd : p.Nodup) (lt : ∀ x ∈ p, x < n) (h : p.length = n) : Good p := by
  obtain ⟨P, C, L⟩ := lay_of nd lt
  exact (L.done h).1
theorem snoc_nd' {p : List Nat} {s : Nat} (nd : p.Nodup) (h : s ∉ p) : (p ++ [s]).Nodup := by
  rw [List.nodup_append]
  refine ⟨nd, by simp, fun a ha b hb e => ?_⟩
  simp at hb
  subst hb
  exact h (e ▸ ha)
theorem snoc_lt' {p : List Nat} {s n : Nat} (lt : ∀ x ∈ p, x < n) (h : s < n) : ∀ x ∈ p ++ [s], x < n := fun x hx => by
  rcases List.mem_append.mp hx with z | z
  · exact lt x z
  · simp at z; omega
theorem sum_const {α : Type} (c : Nat) : ∀ (l : List α) (f : α → Nat), (∀ a ∈ l, f a = c) → (l.map f).sum = l.length * c
  | [], _, _ => by simp
  | a :: l, f, h => by
    rw [List.map_cons, List.sum_cons, sum_const c l f (fun b hb => h b (List.mem_cons_of_mem _ hb)), h a List.mem_cons_self, List.length_cons, Nat.succ_mul]
    omega
theorem wins_free {n m : Nat} (hm : n ≤ m) : ∀ {f : Nat} {p : List Nat}, p.Nodup → (∀ x ∈ p, x < n) → p.length + f = n → (wins n m f p).length = fact f := by
  intro f
  induction f with
  | zero =>
    intro p nd lt hl
    have g := good_full nd lt hl
    have sh : Short p m := fun h hh => by
      have := ringOf_len g hh
      omega
    unfold wins
    rw [(longOf_nil g).mpr sh]
    rfl
  | succ f ih =>
    intro p nd lt hl
    unfold wins
    rw [List.length_flatMap, sum_const (fact f)]
    · have := begins_len nd lt
      rw [show (begins n p).length = f + 1 by omega]
      rfl
    · intro s hs
      obtain ⟨h1, h2⟩ := mem_begins.mp hs
      exact ih (snoc_nd' nd h2) (snoc_lt' lt h1) (by rw [List.length_append]; show p.length + 1 + f = n; omega)
theorem eraseIdx_begins {n : Nat} {p : List Nat} {d s : Nat} (h : (begins n p)[d]? = some s) : (begins n p).eraseIdx d = begins n (p ++ [s]) := by
  rw [begins_snoc]
  obtain ⟨hd, e⟩ := List.getElem?_eq_some_iff.mp h
  have hm : s ∈ begins n p := List.mem_of_getElem? h
  have hi : (begins n p).idxOf s = d := by
    have hlt := List.idxOf_lt_length_of_mem hm
    exact (List.getElem_inj (begins_nd n p)).mp ((List.getElem_idxOf hlt).trans e.symm)
  exact (List.erase_eq_eraseIdx_of_idxOf hi).symm
theorem dig_step {p : List Nat} {f rest num : Nat} (nd : p.Nodup) (lt : ∀ x ∈ p, x < 8) (hl : p.length + (f + 1) = 8) (hr : rest < fact (f + 1)) (h : (wins 8 8 8 [])[num]? = (wins 8 8 (f + 1) p)[rest]?) :
    ∃ s, rest / fact f < f + 1 ∧ (begins 8 p).length = f + 1 ∧ (begins 8 p)[rest / fact f]? = some s ∧ s < 8 ∧ s ∉ p ∧ (begins 8 p).eraseIdx (rest / fact f) = begins 8 (p ++ [s]) ∧ rest % fact f < fact f ∧ (wins 8 8 8 [])[num]? = (wins 8 8 f (p ++ [s]))[rest % fact f]? := by
  have hp := fact_pos f
  have hb : (begins 8 p).length = f + 1 := by
    have := begins_len nd lt
    omega
  have hd : rest / fact f < f + 1 := by
    rw [Nat.div_lt_iff_lt_mul hp]
    exact hr
  have hd2 : rest / fact f < (begins 8 p).length := by omega
  have es := List.getElem?_eq_getElem hd2
  obtain ⟨h1, h2⟩ := mem_begins.mp (List.getElem_mem hd2)
  refine ⟨_, hd, hb, es, h1, h2, eraseIdx_begins es, Nat.mod_lt _ hp, ?_⟩
  rw [h]
  have := flat_at (fun s => wins 8 8 f (p ++ [s])) (fact f) (begins 8 p) (rest / fact f) (rest % fact f) (fun s hs => by
    obtain ⟨h1, h2⟩ := mem_begins.mp hs
    exact wins_free (Nat.le_refl _) (snoc_nd' nd h2) (snoc_lt' lt h1) (by rw [List.length_append]; show p.length + 1 + f = 8; omega)) (Nat.mod_lt _ hp)
  rw [Nat.div_add_mod' rest (fact f), es] at this
  exact this
theorem dig_end {p : List Nat} {rest num : Nat} (nd : p.Nodup) (lt : ∀ x ∈ p, x < 8) (hl : p.length = 8) (hr : rest < fact 0) (h : (wins 8 8 8 [])[num]? = (wins 8 8 0 p)[rest]?) : (wins 8 8 8 [])[num]? = some p ∧ Good p ∧ Short p 8 := by
  have g := good_full nd lt hl
  have sh : Short p 8 := fun h hh => by
    have := ringOf_len g hh
    omega
  have h0 : rest = 0 := by
    have : fact 0 = 1 := rfl
    omega
  subst h0
  refine ⟨?_, g, sh⟩
  rw [h]
  unfold wins
  rw [(longOf_nil g).mpr sh]
  rfl
theorem hm88 : hm 8 8 = 40320 := by decide +kernel
theorem fact8 : fact 8 = 40320 := by decide +kernel
theorem hm100 : 10 ^ 60 < hm 100 100 := by
  rw [hm_free (Nat.le_refl _)]
  decide +kernel

/-! ### boxes laid in rings of told lengths -/
theorem rot_get {R : List Nat} {i : Nat} (h : i < R.length) : (rot R)[i]? = R[(i + 1) % R.length]? := by
  unfold rot
  by_cases h1 : i + 1 < R.length
  · rw [Nat.mod_eq_of_lt h1, List.getElem?_append_left (by rw [List.length_drop]; omega), List.getElem?_drop]
    congr 1; omega
  · have e : i + 1 = R.length := by omega
    rw [e, Nat.mod_self, List.getElem?_append_right (by rw [List.length_drop]; omega), List.length_drop]
    rw [show i - (R.length - 1) = 0 by omega, List.getElem?_take, if_pos (by omega)]
/-- a ring stays, where the slips of other boxes are laid -/
theorem IsRing.laid {f : List Nat} {m : Nat} {D : List Nat} (c : IsRing f m D) {ps : List (Nat × Nat)} (h : ∀ x ∈ D, x ∉ ps.map (·.1)) : IsRing (layAll f ps) m D := by
  rw [isRing_iff] at c ⊢
  obtain ⟨h0, nd, lt, st⟩ := c
  refine ⟨h0, nd, fun x hx => by rw [layAll_len]; exact lt x hx, fun i x y hx hy => ?_⟩
  rw [layAll_out _ _ _ (h x (List.mem_of_getElem? hx))]
  exact st i x y hx hy
/-- the block itself -/
theorem ring_block {f R : List Nat} (nd : R.Nodup) (lt : ∀ x ∈ R, x < f.length) {m : Nat} (hm : R[0]? = some m) : IsRing (layAll f (R.zip (rot R))) m R := by
  have hl : R.length = (rot R).length := (rot_len R).symm
  have e := layAll_in (R.zip (rot R)) f (by rw [zip_fst hl]; exact nd) (fun p hp => lt _ (by
    rw [← zip_fst hl]
    exact List.mem_map.mpr ⟨p, hp, rfl⟩))
  rw [zip_fst hl, zip_snd hl] at e
  refine isRing_iff.mpr ⟨hm, nd, fun x hx => by rw [layAll_len]; exact lt x hx, fun i x y hx hy => ?_⟩
  have hi := (List.getElem?_eq_some_iff.mp hx).1
  rw [← rot_get hi, ← e, List.getElem?_map, hx] at hy
  exact Option.some.inj hy
/-- a list from its k-th item on, the others behind -/
theorem turn_split {R : List Nat} {k m : Nat} (h : R[k]? = some m) : R = R.take k ++ m :: R.drop (k + 1) ∧ R.drop k ++ R.take k = m :: R.drop (k + 1) ++ R.take k := by
  obtain ⟨hk, e⟩ := List.getElem?_eq_some_iff.mp h
  have e2 : R.drop k = m :: R.drop (k + 1) := by rw [List.drop_eq_getElem_cons hk, e]
  refine ⟨?_, by rw [e2]⟩
  rw [← e2, List.take_append_drop]
structure Dn (pl f : List Nat) (b : Nat) (ds : List (List Nat)) : Prop where
  laid : Laid pl f b
  perm : ds.flatten.Perm (pl.take b)
  ring : ∀ D ∈ ds, ∃ m, IsRing f m D ∧ ∀ x ∈ D, m ≤ x
theorem Dn.start {pl f : List Nat} (h : f.length = pl.length) : Dn pl f 0 [] := ⟨.start pl f h, by simp, fun D h => by cases h⟩
theorem Dn.step {pl f : List Nat} {b l : Nat} {ds : List (List Nat)} (hp : pl.Perm (List.range pl.length)) (d : Dn pl f b ds) {k m : Nat} (hk : ((pl.drop b).take l)[k]? = some m) (hm : ∀ x ∈ (pl.drop b).take l, m ≤ x) :
    Dn pl (layAll f (((pl.drop b).take l).zip (rot ((pl.drop b).take l)))) (b + l) (ds ++ [((pl.drop b).take l).drop k ++ ((pl.drop b).take l).take k]) := by
  have nd : pl.Nodup := hp.nodup_iff.mpr List.nodup_range
  have et : pl.take (b + l) = pl.take b ++ (pl.drop b).take l := List.take_add
  have nd2 : (pl.take b ++ (pl.drop b).take l).Nodup := by
    rw [← et]; exact nd.sublist (List.take_sublist _ _)
  rw [List.nodup_append] at nd2
  generalize eR : (pl.drop b).take l = R at *
  refine ⟨?_, ?_, fun D hD => ?_⟩
  · rw [← eR]; exact d.laid.step hp
  · rw [et, List.flatten_append]
    refine List.Perm.append d.perm ?_
    rw [List.flatten_cons, List.flatten_nil, List.append_nil]
    exact List.perm_append_comm.trans (by rw [List.take_append_drop])
  · have hl : R.length = (rot R).length := (rot_len R).symm
    rcases List.mem_append.mp hD with z | z
    · obtain ⟨m', c, h⟩ := d.ring D z
      refine ⟨m', c.laid fun x hx => ?_, h⟩
      rw [zip_fst hl]
      exact fun y => nd2.2.2 x (d.perm.mem_iff.mp (List.mem_flatten.mpr ⟨D, z, hx⟩)) x y rfl
    · simp only [List.mem_singleton] at z
      subst z
      obtain ⟨e1, e2⟩ := turn_split hk
      have hpos : 0 < R.length := by
        have := (List.getElem?_eq_some_iff.mp hk).1
        omega
      have c := ring_block (f := f) nd2.2.1 (fun x hx => by
        rw [d.laid.len]
        have : x ∈ pl := by
          rw [← eR] at hx
          exact List.mem_of_mem_drop (List.mem_of_mem_take hx)
        exact List.mem_range.mp (hp.mem_iff.mp this)) (List.getElem?_eq_getElem hpos)
      refine ⟨m, ?_, fun x hx => hm x ?_⟩
      · rw [e2]
        have c' : IsRing (layAll f (R.zip (rot R))) R[0] (R.take k ++ m :: R.drop (k + 1)) := by rw [← e1]; exact c
        exact c'.turn
      · have : (R.drop k ++ R.take k).Perm R := List.perm_append_comm.trans (by rw [List.take_append_drop])
        exact this.mem_iff.mp hx
theorem Dn.good {pl f : List Nat} {b : Nat} {ds : List (List Nat)} (hp : pl.Perm (List.range pl.length)) (d : Dn pl f b ds) (hb : pl.length ≤ b) : Good f := d.laid.done hp hb
theorem Dn.rings {pl f : List Nat} {b : Nat} {ds : List (List Nat)} (hp : pl.Perm (List.range pl.length)) (d : Dn pl f b ds) (hb : pl.length ≤ b) : ds.Perm (ringsOf f) := by
  have g := d.good hp hb
  have pm := d.perm
  rw [List.take_of_length_le hb] at pm
  have hlen := d.laid.len
  have ndf : ds.flatten.Nodup := (pm.trans hp).nodup_iff.mpr List.nodup_range
  have own : ∀ D ∈ ds, ∃ m, m < f.length ∧ D = ringOf f m ∧ isMin f m = true := fun D hD => by
    obtain ⟨m, c, h⟩ := d.ring D hD
    have e := c.eq g
    exact ⟨m, c.toChain.hlt, e, isMin_iff.mpr fun x hx => h x (by rw [e]; exact hx)⟩
  have ndd : ds.Nodup := by
    have h2 := (List.pairwise_flatten.mp ndf).2
    refine List.Pairwise.imp_of_mem (fun {a b} ha _ h e => ?_) h2
    subst e
    obtain ⟨m, c, _⟩ := d.ring a ha
    exact h m c.toChain.hmem m c.toChain.hmem rfl
  have ndr : (ringsOf f).Nodup := by
    unfold ringsOf ringsTo
    have hr : ((List.range f.length).filter (isMin f)).Nodup := List.Pairwise.filter _ List.nodup_range
    refine List.Pairwise.map _ (fun a b h => h) (List.Pairwise.imp_of_mem (fun {a b} ha hb h e => h ?_) hr)
    have ha' := List.mem_range.mp (List.mem_filter.mp ha).1
    have hb' := List.mem_range.mp (List.mem_filter.mp hb).1
    have h1 := (ringOf_is g ha').head
    have h2 := (ringOf_is g hb').head
    rw [e, h2] at h1
    exact (Option.some.inj h1).symm
  refine (List.perm_ext_iff_of_nodup ndd ndr).mpr fun r => ⟨fun h => ?_, fun h => ?_⟩
  · obtain ⟨m, hm, e, hi⟩ := own r h
    rw [e]
    exact mem_ringsOf hm hi
  · obtain ⟨k, hk, hi, e⟩ := ringsOf_mem h
    have hk2 : k ∈ ds.flatten := (pm.trans hp).mem_iff.mpr (List.mem_range.mpr (by omega))
    obtain ⟨D, hD, hkD⟩ := List.mem_flatten.mp hk2
    obtain ⟨m, hm, eD, hmi⟩ := own D hD
    have h1 : k ∈ ringOf f m := by rw [← eD]; exact hkD
    have h2 : m ≤ k := isMin_iff.mp hmi k h1
    have h3 : k ≤ m := isMin_iff.mp hi m (ringOf_symm g hm h1)
    have h4 : k = m := by omega
    rw [e, h4, ← eD]
    exact hD
theorem ringOf_cons {f : List Nat} (g : Good f) {h : Nat} (hh : h < f.length) : ∃ t, ringOf f h = h :: t := by
  have := (ringOf_is g hh).head
  cases e : ringOf f h with
  | nil => rw [e] at this; cases this
  | cons a t => rw [e] at this; cases this; exact ⟨t, rfl⟩
theorem ringsOf_pw {f : List Nat} (g : Good f) : (ringsOf f).Pairwise (· ≤ ·) := by
  unfold ringsOf ringsTo
  have hr : ((List.range f.length).filter (isMin f)).Pairwise (· < ·) := List.Pairwise.filter _ List.pairwise_lt_range
  rw [List.pairwise_map]
  refine List.Pairwise.imp_of_mem (fun {a b} ha hb h => ?_) hr
  obtain ⟨t, ea⟩ := ringOf_cons g (List.mem_range.mp (List.mem_filter.mp ha).1)
  obtain ⟨u, eb⟩ := ringOf_cons g (List.mem_range.mp (List.mem_filter.mp hb).1)
  rw [ea, eb]
  exact List.le_of_lt (List.cons_lt_cons_iff.mpr (.inl h))
theorem sorted_rings {f : List Nat} (g : Good f) {ds rs : List (List Nat)} (hd : ds.Perm (ringsOf f)) (hp : rs.Perm ds) (hs : rs.Pairwise (· ≤ ·)) : rs = ringsOf f :=
  (hp.trans hd).eq_of_pairwise (fun x y _ _ h1 h2 => List.le_antisymm h1 h2) hs (ringsOf_pw g)
/-- what the lengths tell -/
theorem long_lens {f ls : List Nat} {m : Nat} (h : ((ringsOf f).map List.length).Perm ls) : ((longOf f m).map List.length).Perm (ls.filter fun l => decide (m < l)) := by
  have e : (longOf f m).map List.length = ((ringsOf f).map List.length).filter fun l => decide (m < l) := by
    unfold longOf
    rw [List.filter_map]
    rfl
  rw [e]
  exact h.filter _
theorem short_lens {f ls : List Nat} {m : Nat} (g : Good f) (h : ((ringsOf f).map List.length).Perm ls) : Short f m ↔ (ls.filter fun l => decide (m < l)) = [] := by
  rw [← longOf_nil g]
  have hl := (long_lens (m := m) h).length_eq
  rw [List.length_map] at hl
  rw [← List.length_eq_zero_iff, ← List.length_eq_zero_iff, hl]
theorem can_lens {f ls : List Nat} {m mx : Nat} (g : Good f) (h1 : 1 ≤ f.length) (hm : 1 ≤ m) (h : ((ringsOf f).map List.length).Perm ls) (hx : mx ∈ ls) (hle : ∀ x ∈ ls, x ≤ mx) : Can f m ↔ (ls.filter fun l => decide (m < l)).length < 2 ∧ mx ≤ 2 * m := by
  have pl := long_lens (m := m) h
  have hl := pl.length_eq
  rw [List.length_map] at hl
  rw [can_iff g h1 hm, ← hl]
  have big : m < mx → ∃ r ∈ longOf f m, r.length = mx := fun z => by
    have : mx ∈ (longOf f m).map List.length := pl.mem_iff.mpr (List.mem_filter.mpr ⟨hx, by simpa using z⟩)
    obtain ⟨r, hr, e⟩ := List.mem_map.mp this
    exact ⟨r, hr, e⟩
  constructor
  · rintro (e | ⟨r, e, hr⟩)
    · refine ⟨by rw [e]; decide, ?_⟩
      by_cases z : m < mx
      · obtain ⟨r, hr, _⟩ := big z
        rw [e] at hr
        cases hr
      · omega
    · refine ⟨by rw [e]; simp, ?_⟩
      by_cases z : m < mx
      · obtain ⟨r', hr', e'⟩ := big z
        rw [e] at hr'
        simp at hr'
        subst hr'
        omega
      · omega
  · rintro ⟨hl2, hx2⟩
    match e : longOf f m, hl2 with
    | [], _ => exact .inl rfl
    | [r], _ =>
      refine .inr ⟨r, rfl, ?_⟩
      have : r.length ∈ ls.filter fun l => decide (m < l) := pl.mem_iff.mp (List.mem_map.mpr ⟨r, by rw [e]; simp, rfl⟩)
      have := hle _ (List.mem_filter.mp this).1
      omega
    | a :: b :: l, h => rw [List.length_cons, List.length_cons] at h; omega
end Sb

/-! ### the layer's words turned to lists of whole numbers -/
namespace Sb
open PySem PySem.Spec PyProof.Rows L2

/-- numbers from 0 on as values -/
abbrev iv (ns : List Nat) : List V := ns.map fun (n : Nat) => V.int (n : Int)
theorem iv_eq (ns : List Nat) : iv ns = (ns.map fun (n : Nat) => (n : Int)).map V.int := by
  rw [List.map_map]; rfl
theorem iv_len (ns : List Nat) : (iv ns).length = ns.length := List.length_map ..
theorem iv_get? (ns : List Nat) (i : Nat) : (iv ns)[i]? = (ns[i]?).map fun (n : Nat) => V.int (n : Int) := List.getElem?_map ..
theorem iv_at {ns : List Nat} {i x : Nat} (h : ns[i]? = some x) : atI (iv ns) (i : Int) = some (.int (x : Int)) := atI_nat (by rw [iv_get?, h]; rfl)
theorem iv_snoc (ns : List Nat) (x : Nat) : iv ns ++ [.int (x : Int)] = iv (ns ++ [x]) := by
  show _ = List.map _ _
  rw [List.map_append]; rfl
theorem iv_last {ns : List Nat} {x : Nat} (h : ns[ns.length - 1]? = some x) : atI (iv ns) (-1) = some (.int (x : Int)) := by
  have hne : ns ≠ [] := fun e => by subst e; simp at h
  have e : ns = ns.dropLast ++ [x] := by
    have := List.dropLast_concat_getLast hne
    rw [List.getLast_eq_getElem] at this
    have hl : ns.length - 1 < ns.length := by have := List.length_pos_iff.mpr hne; omega
    rw [List.getElem?_eq_getElem hl] at h
    rw [Option.some.inj h] at this
    exact this.symm
  rw [e, ← iv_snoc]
  exact atI_last _ _
theorem iv_inj {a b : List Nat} (h : iv a = iv b) : a = b := by
  induction a generalizing b with
  | nil => cases b with
    | nil => rfl
    | cons y b => cases h
  | cons x a ih => cases b with
    | nil => cases h
    | cons y b =>
      have h' : V.int (x : Int) :: iv a = V.int (y : Int) :: iv b := h
      injection h' with h1 h2
      injection h1 with h3
      rw [ih h2]
      have : x = y := by omega
      rw [this]
theorem flat_iv (ns : List Nat) : (iv ns).all flatV = true := by
  rw [List.all_eq_true]
  intro v hv
  obtain ⟨n, _, rfl⟩ := List.mem_map.mp hv
  rfl
theorem inV_iv (ns : List Nat) (x : Nat) : inV (.int (x : Int)) (iv ns) = decide (x ∈ ns) := by
  unfold inV
  rw [Bool.eq_iff_iff, List.any_eq_true, decide_eq_true_iff]
  constructor
  · rintro ⟨v, hv, e⟩
    obtain ⟨n, hn, rfl⟩ := List.mem_map.mp hv
    have : (n : Int) = (x : Int) := by
      have e' : eqV (V.int (n : Int)) (V.int (x : Int)) = true := e
      simpa [eqV] using e'
    have : n = x := by omega
    subst this; exact hn
  · intro h
    refine ⟨_, List.mem_map.mpr ⟨x, h, rfl⟩, ?_⟩
    simp [eqV]

/-! ### heaps -/
theorem same_upd {H : Hp} {p : Addr} {o : HO} (h : H p = none) : Same H (upd H p o) := fun b x e => by
  rw [upd_ne (ne_of_none e h)]
  exact e
/-- an object that H does not know is changed behind H -/
theorem same_mut {H H' : Hp} {p : Addr} {o : HO} (e : Same H H') (h : H p = none) : Same H (upd H' p o) := fun a u ha => by
  rw [upd_ne (ne_of_none ha h)]
  exact e a u ha
theorem same_t {K : PySem.W.Frag} {H H' : Hp} {a : Addr} {xs : List V} (e : Same H H') (h : SqT K H a xs) : SqT K H' a xs := by
  rcases h with (h | ⟨o, h⟩) | h
  · exact .inl (.inl (e _ _ h))
  · exact .inl (.inr ⟨o, e _ _ h⟩)
  · exact .inr h
theorem sz {n : Nat} (h : n ≤ 100000) : n ≤ sizeLine := Nat.le_trans h (by decide)
theorem szl {n : Nat} (h : n < 100000) : n < sizeLine := Nat.lt_of_lt_of_le h (by decide)

/-! ### lists of whole numbers compared -/
abbrev dI (ns : List Int) : PyData := .list (ns.map PyData.int)
abbrev dN (ns : List Nat) : PyData := .list (ns.map fun (n : Nat) => PyData.int (n : Int))
theorem canI : ∀ ns : List Int, PyData.canLayAll0 (ns.map PyData.int) = true
  | [] => by unfold PyData.canLayAll0; rfl
  | n :: r => by
    rw [List.map_cons]
    unfold PyData.canLayAll0
    rw [canI r]; unfold PyData.canLay0; rfl
theorem depI : ∀ ns : List Int, PyData.depthAll (ns.map PyData.int) ≤ 1
  | [] => by unfold PyData.depthAll; exact Nat.zero_le _
  | n :: r => by
    rw [List.map_cons]
    unfold PyData.depthAll
    have h := depI r
    have e : PyData.depth (.int n) ≤ 1 := by
      unfold PyData.depth
      omega
    exact Nat.max_le.mpr ⟨e, h⟩
theorem shapedI (ns : List Int) : SeqAt.shaped (dI ns) = true := by
  unfold SeqAt.shaped
  rw [Bool.and_eq_true_iff]
  refine ⟨by unfold PyData.canLay0; exact canI ns, decide_eq_true ?_⟩
  have h := depI ns
  unfold PyData.depth
  omega
theorem eqvI : ∀ a b : List Int, PyData.eqvAll (a.map PyData.int) (b.map PyData.int) = decide (a = b)
  | [], [] => by unfold PyData.eqvAll; rfl
  | [], y :: b => by rw [List.map_cons]; unfold PyData.eqvAll; rfl
  | x :: a, [] => by rw [List.map_cons]; unfold PyData.eqvAll; rfl
  | x :: a, y :: b => by
    rw [List.map_cons, List.map_cons]
    unfold PyData.eqvAll
    rw [eqvI a b]
    unfold PyData.eqv
    rw [Bool.eq_iff_iff]
    simp
theorem dpI {K : PySem.W.Frag} {H : Hp} : ∀ ns : List Int, DpAll K H (ns.map V.int) (ns.map PyData.int)
  | [] => .nil
  | n :: r => .cons (.int n) (dpI r)
theorem dp_ints {K : PySem.W.Frag} {H : Hp} {a : Addr} {ns : List Int} (h : SqL K H a (ns.map V.int)) : Dp K H (.ref a) (dI ns) := .lst h (dpI ns)
theorem dp_iv {K : PySem.W.Frag} {H : Hp} {a : Addr} {ns : List Nat} (h : SqL K H a (iv ns)) : Dp K H (.ref a) (dN ns) := by
  have h' : SqL K H a ((ns.map fun (n : Nat) => (n : Int)).map V.int) := by rw [← iv_eq]; exact h
  have r := dp_ints h'
  unfold dI at r
  rw [List.map_map] at r
  exact r
theorem dN_eq (ns : List Nat) : dN ns = dI (ns.map fun (n : Nat) => (n : Int)) := by
  unfold dN dI; rw [List.map_map]; rfl
theorem shapedN (ns : List Nat) : SeqAt.shaped (dN ns) = true := by rw [dN_eq]; exact shapedI _
theorem cast_inj {a b : List Nat} : a.map (fun (n : Nat) => (n : Int)) = b.map (fun (n : Nat) => (n : Int)) ↔ a = b := by
  constructor
  · intro h
    refine iv_inj ?_
    rw [iv_eq, iv_eq, h]
  · intro h; rw [h]
theorem eqvN (a b : List Nat) : PyData.eqv (dN a) (dN b) = decide (a = b) := by
  rw [dN_eq, dN_eq]
  show PyData.eqv (PyData.list _) (PyData.list _) = _
  unfold PyData.eqv
  rw [eqvI, Bool.eq_iff_iff, decide_eq_true_iff, decide_eq_true_iff]
  exact cast_inj
/-- two lists of numbers, unlike each other or not -/
theorem ne_iv {K : PySem.W.Frag} {H : Hp} {a b : Addr} {x y : List Nat} {Q : VK} (ha : SqL K H a (iv x)) (hb : SqL K H b (iv y)) (q : Q (.bl (!decide (x = y))) H) : rNeD K (.ref a) (.ref b) H Q :=
  ⟨dN x, dN y, dp_iv ha, dp_iv hb, shapedN x, shapedN y, by rw [eqvN]; exact q⟩
theorem eq_iv {K : PySem.W.Frag} {H : Hp} {a b : Addr} {x y : List Nat} {Q : VK} (ha : SqL K H a (iv x)) (hb : SqL K H b (iv y)) (q : Q (.bl (decide (x = y))) H) : rEqD K (.ref a) (.ref b) H Q :=
  ⟨dN x, dN y, dp_iv ha, dp_iv hb, shapedN x, shapedN y, by rw [eqvN]; exact q⟩

/-! ### a def of the text, and its call -/
structure Df (K : PySem.W.Frag) (mg : Str → Option Value) (x : Str) (st : Stmt) (ps : List Str) where
  f : Addr
  fd : FuncData
  F : Fun K x x st f fd
  g : mg x = some (.ref f)
  b : Binds K fd ps []
section
variable {X : Cx} {x : Str} {st : Stmt} {ps : List Str} {k : Nat} {sp : Sp} {e : Expr} {es : List Expr} {t : TA} {p pos : Pos}
theorem pe_df (D : Df X.K X.mg x st ps) (G : FnOk X.prog X.w X.K X.mg X.base CX0 k D.f D.fd ps sp) (hr : Room k X.A) (ha : PA X (e :: es) t) (hg : Gl X x := by rfl) (hdb : (x == ("__debug__" : Str)) = false := by decide)
    (he : starEach (e :: es) X.env = (false, eval e X.env) :: starEach es X.env := by rfl) (hpl : (backTo pos (starEach es X.env)).any (·.1) = false := by rfl) :
    PE X (.Call (.Name x p) (e :: es) [] pos) (tCall sp [] E0 t) := pe_call G hr hg D.g D.F.kp D.b .nil pass0 ha hdb he hpl
/-- len and an item, in a comprehension's block: the written part told -/
def rLenK (K : PySem.W.Frag) : List V → Hp → VK → Prop := fun xs H Q => ∃ p ys, xs = [.ref p] ∧ (SqL K H p ys ∨ SqT K H p ys) ∧ Q (.int ys.length) H
theorem call_lenK {K : PySem.W.Frag} (h : X.K = K) : CallR X (.builtin "len") (rLenK K) := by subst h; exact call_len_seq
theorem ix_listK {K : PySem.W.Frag} (h : X.K = K) : IxR X (rIxL K) := by subst h; exact ix_list
/-- a product of whole numbers, told by the model's own line -/
theorem op_mulX : OpR X (binaryOp .Mult) (rI (fun i j => IntMulOk i j) fun i j => .int (i * j)) := opI fun _ _ _ _ _ _ _ hc q => mul_int q hc
end
end Sb
/-! ### own classes; what a value may be; how many unlike numbers -/
namespace Sb
open PySem PySem.Spec PyProof.Rows L2
/-- a class of the text -/
structure Cs (K : PySem.W.Frag) (mg : Str → Option Value) (x : Str) where
  C : Addr
  g : mg x = some (.ref C)
  cl : Cls K C
  mks : PySem.W.makesIn K C = true
  kp : PySem.W.keepIn K (.ref C) = true
  ha : PySem.W.findIn K (.ref C) "__class__" = some (some (.builtin "object.__class__"))
  hm : PySem.W.mroIn K C (.type "object") = some true
/-- what isinstance leans on besides -/
structure Cg (K : PySem.W.Frag) : Prop where
  hn : PySem.W.specialIn K (.builtin "object.__class__") "__get__" = some (some (.builtin "getset_descriptor.__get__"))
  htk : PySem.W.takesIn K (.builtin "object.__class__") = some true
theorem Cs.ty {K : PySem.W.Frag} {mg : Str → Option Value} {x : Str} (c : Cs K mg x) (G : Cg K) {H : Hp} {a dx : Addr} {fs : List (Str × V)} (e : H a = some (.ins c.C dx fs)) : TyX K H (.ref a) (.ref c.C) :=
  .base (.ins e c.cl c.ha G.hn G.htk c.hm)
/-- a method of the class at C -/
structure Mt (K : PySem.W.Frag) (C : Addr) (x qual : Str) (st : Stmt) (ps : List Str) where
  f : Addr
  fd : FuncData
  F : Fun K x qual st f fd
  at_ : PySem.W.findIn K (.ref C) x = some (some (.ref f))
  fn : PySem.W.isFn K (.ref f) = true
  b : Binds K fd ps []
theorem Mt.meth {K : PySem.W.Frag} {C : Addr} {x qual : Str} {st : Stmt} {ps : List Str} (m : Mt K C x qual st ps) : Meth K C x m.f := ⟨m.at_, m.fn, m.F.kp⟩
theorem Cs.mak {K : PySem.W.Frag} {mg : Str → Option Value} {x qual : Str} {st : Stmt} {ps : List Str} (c : Cs K mg x) (m : Mt K c.C "__init__" qual st ps) : Mk K c.C m.f := ⟨c.mks, m.at_, m.fn, c.kp⟩
section
variable {X : Cx} {x : Str} {st : Stmt} {ps : List Str} {k : Nat} {sp : Sp} {e : Expr} {es : List Expr} {t : TA} {p pos : Pos} {C : Addr}
/-- C() of a class without an __init__ of its own -/
def tBare (C : Addr) : TE := fun _ H Q => ∀ a dx, H a = none → H dx = none → dx ≠ a → Q (.ref a) (upd (upd H dx (.own a)) a (.ins C dx []))
theorem pe_bare (cg : X.mg x = some (.ref C)) (ckp : PySem.W.keepIn X.K (.ref C) = true) (cmk : PySem.W.makesIn X.K C = true) (hi : PySem.W.findIn X.K (.ref C) "__init__" = some (some (.builtin "object.__init__"))) (hg : Gl X x := by rfl) (hdb : (x == ("__debug__" : Str)) = false := by decide) : PE X (.Call (.Name x p) [] [] pos) (tBare C) := by
  refine ⟨fun pins s σ H Q I h => ?_⟩
  refine wpAny_Call_Name_kw (ld_glob I hg cg ?_ hdb)
  refine PySem.W.callWith_K0 I.kIn ckp (wpAny_call ?_)
  have J := Inv.made (C := C) I
  have q := h (s.heap.objs.size + 1) s.heap.objs.size (I.hok.fresh (Nat.le_succ _)) (I.hok.fresh (Nat.le_refl _)) (Nat.ne_of_lt (Nat.lt_succ_self _))
  have KI := I.kIn
  have Y := PySem.W.makes_of (M := model X.prog X.w) KI cmk
  have L := PySem.W.looks_findIn (M := model X.prog X.w) KI hi
  obtain ⟨hh, gn, dr, tk, os⟩ := s
  refine PySem.W.make_core Y L (fun self => PySem.W.Looks.of_pure (PySem.W.oi_bind self)) (.inr ⟨rfl, rfl⟩) ?_
  have hx : ((hh.push PySem.W.emptyDict).push (PySem.W.instObj C hh.objs.size)).get? (hh.objs.size + 1) = some (PySem.W.instObj C hh.objs.size) := by heap_get
  have u1 : PySem.W.Looks (model X.prog X.w) ((hh.push PySem.W.emptyDict).push (PySem.W.instObj C hh.objs.size)) (typeOf (.ref (hh.objs.size + 1))) (.ref C) := (PySem.W.Looks.ld hx).andThen .now
  have u2 : PySem.W.Looks (model X.prog X.w) ((hh.push PySem.W.emptyDict).push (PySem.W.instObj C hh.objs.size)) (isInstance (.ref (hh.objs.size + 1)) (.type "object")) true :=
    u1.andThen (Y.top.keeps fun b o z => Heap.get?_push_of_some _ (Heap.get?_push_of_some _ z))
  refine codeAny_call_builtin PySem.W.oi_plain PySem.W.entry_oi (@PySem.W.check_slot (model X.prog X.w) _ _ _ "object.__init__" "object" "__init__" (.ref (hh.objs.size + 1)) [] [] _ PySem.W.oi_kind PySem.W.oi_split u2 (PySem.W.oi_args (.ref (hh.objs.size + 1))) ?_)
  show wpAny _ _ (Builtin.«object.__init__» ⟨[Value.ref (hh.objs.size + 1)], []⟩) _ _ _
  rw [PySem.W.oi_run]
  exact wpAny_pure ⟨rfl, ⟨V.ref (hh.objs.size + 1), _, J, rfl, q⟩⟩
/-- an expression with two readings: either will do -/
def tEither (t u : TE) : TE := fun σ H Q => t σ H Q ∨ u σ H Q
theorem pe_either {e : Expr} {t u : TE} (h1 : PE X e t) (h2 : PE X e u) : PE X e (tEither t u) := ⟨fun pins s σ H Q I h => h.elim (h1.run pins s σ H Q I) (h2.run pins s σ H Q I)⟩
theorem met_len (val : Nat → Int) : ∀ n, (PyProof.Rows.firstMet val n).length = n → ∀ i j, i < j → j < n → val i ≠ val j
  | 0, _, _, _, _, h => by omega
  | n + 1, h, i, j, hij, hj => by
    rw [PyProof.Rows.firstMet_succ] at h
    unfold PyProof.Rows.step_dedup at h
    have hle := PyProof.Rows.firstMet_length_le val n
    by_cases hb : (PyProof.Rows.firstMet val n).any (· == val n) = true
    · rw [if_pos hb] at h
      omega
    · rw [if_neg hb, List.length_append, List.length_singleton] at h
      by_cases hjn : j < n
      · exact met_len val n (by omega) i j hij hjn
      · have : j = n := by omega
        subst this
        intro e
        apply hb
        rw [PyProof.Rows.firstMet_any, List.any_eq_true]
        exact ⟨val i, List.mem_map.mpr ⟨i, List.mem_range.mpr hij, rfl⟩, by rw [e]; exact beq_self_eq_true _⟩
/-- len(set(xs)): as many as xs has, just where no number stands twice -/
def tLenSetG (K : PySem.W.Frag) (ta : TE) : TE := fun σ H Q => ta σ H fun x H1 => ∃ (l : Addr) (ns : List Int), x = .ref l ∧ SqL K H1 l (ns.map V.int) ∧ ns.length ≤ 4000 ∧ ∀ k : Nat, (k = ns.length ↔ ns.Nodup) → Q (.int (k : Int)) H1
theorem pe_lenSetG {a : Expr} {ta : TE} {p2 q : Pos} (hg : Gl X "len") (hm : X.mg "len" = none) (hg2 : Gl X "set") (hm2 : X.mg "set" = none) (ha : PE X a ta) (hc : X.calm = true := by rfl)
    (na : starEach [a] X.env = (false, eval a X.env) :: starEach [] X.env := by rfl) : PE X (.Call (.Name "len" p) [.Call (.Name "set" p2) [a] [] q] [] pos) (tLenSetG X.K ta) := by
  constructor
  intro pins s σ H Q I h
  apply Call_ (ld_blt I hg hm boot_len ?_)
  apply PyProof.Rows.callWith_builtin1 (PyProof.Rows.args_cons ?_ rfl) rfl rfl
  apply Call_ (ld_blt I hg2 hm2 boot_set ?_)
  apply PyProof.Rows.callWith_type1 (PyProof.Rows.args_cons (thn (ha.run pins s σ H _ I h) ?_) na) na rfl
  rintro v s1 ⟨x, H1, I1, r1, l, ns, rfl, hq, hl, q1⟩
  apply PyProof.Rows.args_nil
  cases r1
  obtain ⟨its, r, pl, hz⟩ := I1.list hq
  have en : its.toArray.size = ns.length := by rw [List.size_toArray, ← r.length, List.length_map]
  apply call_set_list (I1.ok.hd hc) pl.isList (by simpa using RZ.intsAre_vals r) (by rw [en]; unfold scanBound; omega)
  intro h' tk hS hk
  apply PyProof.Rows.args_nil
  rw [en] at hS
  have hle := PyProof.Rows.firstMet_length_le (fun i => ns.getD i 0) ns.length
  have key : (PyProof.Rows.firstMet (fun i => ns.getD i 0) ns.length).length = ns.length ↔ ns.Nodup := by
    constructor
    · intro e
      rw [List.Nodup, List.pairwise_iff_getElem]
      intro i j hi hj hij
      have z := met_len _ _ e i j hij hj
      rw [List.getD_eq_getElem?_getD, List.getD_eq_getElem?_getD, List.getElem?_eq_getElem hi, List.getElem?_eq_getElem hj] at z
      exact z
    · intro nd
      rw [RZ.firstMet_nodup nd ns.length (Nat.le_refl _), List.take_length]
  generalize PyProof.Rows.firstMet (fun i => ns.getD i 0) ns.length = fm at hS hle key
  obtain ⟨o, es, ep, tb, ho, hex, hd, _, _, _, hf, hn⟩ := hS
  have I2 : Inv X pins σ H1 { s1 with heap := h', toks := tk } := I1.kept fun b o z => hk b o (Heap.lt_size z) z
  exact call_len_set ho hex hd hf (by rw [hn] <;> omega) ⟨.int fm.length, H1, I2.tok _, ⟨_, by rw [hn]⟩, q1 _ key⟩
end
end Sb
/-! ### refusals; lambdas that are handed to a def -/
namespace Sb
open PySem PySem.Spec PyProof.Rows L2
abbrev veB : List Value := [.type "ValueError", .type "Exception", .type "BaseException", .type "object"]
/-- an exception class of the text -/
structure Ex (K : PySem.W.Frag) (mg : Str → Option Value) (x : Str) where
  C : Addr
  g : mg x = some (.ref C)
  x : PySem.W.excIn K C veB "ValueError.__new__" = true
  k : PySem.W.keepIn K (.ref C) = true
  t : PySem.W.typeIn K (.ref C) = some (.type "type")
  e : ExcC K C
/-- a def's code object and its table -/
structure Lm (K : PySem.W.Frag) (x : Str) where
  f : Addr
  c : Addr
  P : Addr
  ns : PySem.W.nsIn K mainGlobals x = some (some (.ref f))
  tab : PySem.W.tabIn K x = some (c, P)
  np : K.lookup P = none
theorem Lm.code {K : PySem.W.Frag} {x : Str} (L : Lm K x) {oc : Value} {od : Option Addr} {fd : FuncData} {osl : Array (Option Value)} (lk : K.lookup L.f = some ⟨oc, od, .func fd, osl⟩) : fd.code = .ref L.c := by
  have h := L.tab
  unfold PySem.W.tabIn at h
  rw [L.ns] at h
  dsimp only at h
  rw [lk] at h
  dsimp only at h
  split at h
  · rename_i c hc
    split at h
    · split at h
      · rw [hc]
        have := (Prod.mk.inj (Option.some.inj h)).1
        rw [this]
      · cases h
    · cases h
  · cases h
section
variable {P : Program} {w : World} {K : PySem.W.Frag} {mg : Str → Option Value} {base : Heap}
/-- a def whose code object is told -/
theorem okC {x : Str} {st : Stmt} {f : Addr} {fd : FuncData} {N ps : List Str} {k : Nat} {sp : Sp} (F : Fun K x x st f fd) (L : Lm K x) (hf : L.f = f) (S : FnScope N ps (defScope st)) (len : ∀ vs H Q E, sp vs H Q E → vs.length = ps.length)
    (body : ∀ (A : Around) (outer : List Env) (s : Shared) (H : Hp) (vs : List V) (Q : VK) (E : XK), Room k (A.deeper (envOfC x (defScope st) s.heap.objs.size f (.ref L.c))) → sp vs H Q E →
      ∃ t, PSs (cxOf CX0 P w K mg base N x (defScope st) f (.ref L.c) A outer s H E).nox (defBody st) t ∧ t { nx := fun _ H' => Q .non H', rt := Q } (L2.start N vs) H) : FnOk P w K mg base CX0 (k + 1) f fd ps sp := by
  subst hf
  obtain ⟨oc, od, kV, doc, pm, an, cdv, ct, osl, efd, lk, hcd⟩ := F.ex
  have hc := L.code lk
  subst efd
  have hc : cdv = .ref L.c := hc
  subst hc
  refine fn_of lk hcd S len fun A outer s H vs Q E hr hsp => ?_
  obtain ⟨t, h, q⟩ := body A outer s H vs Q E hr hsp
  exact ⟨t, h.nox, q⟩
/-- the number of slots is known -/
theorem PSs.len {X : Cx} {sts : List Stmt} {t : TS} (n : Nat) (hn : X.N.length = n) (h : PSs X sts t) : PSs X sts (fun D σ H => σ.length = n → t D σ H) := ⟨fun pins s σ H D I q => h.run pins s σ H D I (q (I.len.trans hn))⟩
def rIsX (K : PySem.W.Frag) (cls : Value) (d : Option Addr) (a : Addr) : List V → Hp → VK → Prop := fun xs H Q => ∃ D, cls = .ref D ∧ d = none ∧ ExcC K D ∧ rIsE K D a xs H Q
theorem call_isX {X : Cx} {a : Addr} {oe : Obj} {cls : Value} {d : Option Addr} {pn : List (Addr × Obj)} (hz : Zc cls d oe) (hf : ∃ vs, oe.data = .fields vs) : CallR (X.suite a ((a, oe) :: pn)) (.builtin "isinstance") (rIsX X.K cls d a) := by
  rintro pins s σ H xs us Q I r ⟨D, rfl, rfl, C, h⟩
  exact call_isE C hz hf pins s σ H xs us Q I r h
end
end Sb
/-! ### the text -/
namespace Sb
open PySem PySem.Spec PyProof.Rows L2
def topS (i : Nat) : Stmt := PySem.Challenge.pw_slipboxes_k09_whole_hard.main.body.getD i (.Pass ⟨0, 0, 0, 0⟩)
abbrev s_is_whole : Stmt := topS 8
abbrev s_check_boxes : Stmt := topS 9
abbrev s_ring_from : Stmt := topS 10
abbrev s_opened : Stmt := topS 11
abbrev s_rings_of : Stmt := topS 12
abbrev s_rings : Stmt := topS 13
abbrev s_exchanged : Stmt := topS 14
abbrev s_long_rings : Stmt := topS 15
abbrev s_is_ring : Stmt := topS 18
abbrev s_check_count : Stmt := topS 24
abbrev s_judged : Stmt := topS 25
abbrev s_mended : Stmt := topS 26
abbrev s_check_counts : Stmt := topS 30
abbrev s_how_many : Stmt := topS 31
abbrev s_closed_ways : Stmt := topS 32
abbrev s_ways_behind : Stmt := topS 33
abbrev s_setting_by : Stmt := topS 34
abbrev s_number_of : Stmt := topS 35
abbrev s_law_cell_at : Stmt := topS 37
abbrev s_law_draw : Stmt := topS 38
abbrev s_law_value : Stmt := topS 39
abbrev s_law_kinds : Stmt := topS 40
abbrev s_law_due : Stmt := topS 41
abbrev s_law_all_whole : Stmt := topS 42
abbrev s_law_laid : Stmt := topS 43
abbrev s_law_forty_right : Stmt := topS 44
abbrev s_law_count : Stmt := topS 45
abbrev s_law_numbers_right : Stmt := topS 46
abbrev s_law_fields_right : Stmt := topS 47
abbrev s_law_spoiled_right : Stmt := topS 48
abbrev s_law : Stmt := topS 49
abbrev s_All_shows : Stmt := inClass (topS 19) 0
abbrev s_Long___init__ : Stmt := inClass (topS 20) 0
abbrev s_Long_shows : Stmt := inClass (topS 20) 1
abbrev s_Mend___init__ : Stmt := inClass (topS 21) 0
abbrev s_Mend_shows : Stmt := inClass (topS 21) 1
abbrev s_Barred___init__ : Stmt := inClass (topS 22) 0
abbrev s_Barred_shows : Stmt := inClass (topS 22) 1
structure Tx (K : PySem.W.Frag) (mg : Str → Option Value) where
  is_whole : Df K mg "is_whole" s_is_whole ["thing"]
  check_boxes : Df K mg "check_boxes" s_check_boxes ["boxes", "most"]
  ring_from : Df K mg "ring_from" s_ring_from ["boxes", "hand"]
  opened : Df K mg "opened" s_opened ["boxes", "hand"]
  rings_of : Df K mg "rings_of" s_rings_of ["boxes"]
  rings : Df K mg "rings" s_rings ["boxes"]
  exchanged : Df K mg "exchanged" s_exchanged ["boxes", "one", "other"]
  long_rings : Df K mg "long_rings" s_long_rings ["boxes", "most"]
  is_ring : Df K mg "is_ring" s_is_ring ["boxes", "ring"]
  check_count : Df K mg "check_count" s_check_count ["boxes", "most"]
  judged : Df K mg "judged" s_judged ["boxes", "most"]
  mended : Df K mg "mended" s_mended ["boxes", "most"]
  check_counts : Df K mg "check_counts" s_check_counts ["boxes", "most", "greatest"]
  how_many : Df K mg "how_many" s_how_many ["boxes", "most"]
  closed_ways : Df K mg "closed_ways" s_closed_ways ["chains", "most", "known"]
  ways_behind : Df K mg "ways_behind" s_ways_behind ["slips", "boxes", "most", "known"]
  setting_by : Df K mg "setting_by" s_setting_by ["boxes", "most", "number"]
  number_of : Df K mg "number_of" s_number_of ["setting", "most"]
  law_cell_at : Df K mg "_law_cell_at" s_law_cell_at ["_law_script", "_law_k"]
  law_draw : Df K mg "_law_draw" s_law_draw ["_law_cell", "_law_k", "_law_many"]
  law_value : Df K mg "_law_value" s_law_value ["_law_cell", "_law_turn"]
  law_kinds : Df K mg "_law_kinds" s_law_kinds ["_law_ask"]
  law_due : Df K mg "_law_due" s_law_due ["_law_at"]
  law_all_whole : Df K mg "_law_all_whole" s_law_all_whole ["_law_things"]
  law_laid : Df K mg "_law_laid" s_law_laid ["_law_lengths", "_law_factor"]
  law_forty_right : Df K mg "_law_forty_right" s_law_forty_right ["_law_lengths", "_law_factor", "_law_most"]
  law_count : Df K mg "_law_count" s_law_count ["_law_many", "_law_most"]
  law_numbers_right : Df K mg "_law_numbers_right" s_law_numbers_right ["_law_many", "_law_most", "_law_number"]
  law_fields_right : Df K mg "_law_fields_right" s_law_fields_right []
  law_spoiled_right : Df K mg "_law_spoiled_right" s_law_spoiled_right ["_law_place", "_law_at"]
  cg : Cg K
  Answer : Cs K mg "Answer"
  i_Answer : PySem.W.findIn K (.ref Answer.C) "__init__" = some (some (.builtin "object.__init__"))
  All : Cs K mg "All"
  i_All : PySem.W.findIn K (.ref All.C) "__init__" = some (some (.builtin "object.__init__"))
  All_shows : Mt K All.C "shows" "All.shows" s_All_shows ["self", "boxes", "most"]
  Long : Cs K mg "Long"
  Long_init : Mt K Long.C "__init__" "Long.__init__" s_Long___init__ ["self", "ring"]
  Long_shows : Mt K Long.C "shows" "Long.shows" s_Long_shows ["self", "boxes", "most"]
  n_Long_ring : NoAttr K Long.C "ring"
  Mend : Cs K mg "Mend"
  Mend_init : Mt K Mend.C "__init__" "Mend.__init__" s_Mend___init__ ["self", "one", "other"]
  Mend_shows : Mt K Mend.C "shows" "Mend.shows" s_Mend_shows ["self", "boxes", "most"]
  n_Mend_one : NoAttr K Mend.C "one"
  n_Mend_other : NoAttr K Mend.C "other"
  Barred : Cs K mg "Barred"
  Barred_init : Mt K Barred.C "__init__" "Barred.__init__" s_Barred___init__ ["self", "rings"]
  Barred_shows : Mt K Barred.C "shows" "Barred.shows" s_Barred_shows ["self", "boxes", "most"]
  n_Barred_rings : NoAttr K Barred.C "rings"
  q_All_Answer : PySem.W.kitOne K (.ref All.C) (.ref Answer.C) = some true
  q_All_All : PySem.W.kitOne K (.ref All.C) (.ref All.C) = some true
  q_All_Long : PySem.W.kitOne K (.ref All.C) (.ref Long.C) = some false
  q_All_Mend : PySem.W.kitOne K (.ref All.C) (.ref Mend.C) = some false
  q_All_Barred : PySem.W.kitOne K (.ref All.C) (.ref Barred.C) = some false
  q_Long_Answer : PySem.W.kitOne K (.ref Long.C) (.ref Answer.C) = some true
  q_Long_All : PySem.W.kitOne K (.ref Long.C) (.ref All.C) = some false
  q_Long_Long : PySem.W.kitOne K (.ref Long.C) (.ref Long.C) = some true
  q_Long_Mend : PySem.W.kitOne K (.ref Long.C) (.ref Mend.C) = some false
  q_Long_Barred : PySem.W.kitOne K (.ref Long.C) (.ref Barred.C) = some false
  q_Mend_Answer : PySem.W.kitOne K (.ref Mend.C) (.ref Answer.C) = some true
  q_Mend_All : PySem.W.kitOne K (.ref Mend.C) (.ref All.C) = some false
  q_Mend_Long : PySem.W.kitOne K (.ref Mend.C) (.ref Long.C) = some false
  q_Mend_Mend : PySem.W.kitOne K (.ref Mend.C) (.ref Mend.C) = some true
  q_Mend_Barred : PySem.W.kitOne K (.ref Mend.C) (.ref Barred.C) = some false
  q_Barred_Answer : PySem.W.kitOne K (.ref Barred.C) (.ref Answer.C) = some true
  q_Barred_All : PySem.W.kitOne K (.ref Barred.C) (.ref All.C) = some false
  q_Barred_Long : PySem.W.kitOne K (.ref Barred.C) (.ref Long.C) = some false
  q_Barred_Mend : PySem.W.kitOne K (.ref Barred.C) (.ref Mend.C) = some false
  q_Barred_Barred : PySem.W.kitOne K (.ref Barred.C) (.ref Barred.C) = some true
  SlipError : Ex K mg "SlipError"
  BadBoxes : Ex K mg "BadBoxes"
  BadCount : Ex K mg "BadCount"
  BadNumber : Ex K mg "BadNumber"
  Lost : Ex K mg "Lost"
  q_BadBoxes_SlipError : PySem.W.kitOne K (.ref BadBoxes.C) (.ref SlipError.C) = some true
  q_BadBoxes_BadBoxes : PySem.W.kitOne K (.ref BadBoxes.C) (.ref BadBoxes.C) = some true
  q_BadBoxes_BadCount : PySem.W.kitOne K (.ref BadBoxes.C) (.ref BadCount.C) = some false
  q_BadBoxes_BadNumber : PySem.W.kitOne K (.ref BadBoxes.C) (.ref BadNumber.C) = some false
  q_BadBoxes_Lost : PySem.W.kitOne K (.ref BadBoxes.C) (.ref Lost.C) = some false
  qv_BadBoxes : PySem.W.kitOne K (.ref BadBoxes.C) (.type "ValueError") = some true
  sb_BadBoxes : PySem.W.subIn K (.ref BadBoxes.C) (.ref SlipError.C) = some true
  q_BadCount_SlipError : PySem.W.kitOne K (.ref BadCount.C) (.ref SlipError.C) = some true
  q_BadCount_BadBoxes : PySem.W.kitOne K (.ref BadCount.C) (.ref BadBoxes.C) = some false
  q_BadCount_BadCount : PySem.W.kitOne K (.ref BadCount.C) (.ref BadCount.C) = some true
  q_BadCount_BadNumber : PySem.W.kitOne K (.ref BadCount.C) (.ref BadNumber.C) = some false
  q_BadCount_Lost : PySem.W.kitOne K (.ref BadCount.C) (.ref Lost.C) = some false
  qv_BadCount : PySem.W.kitOne K (.ref BadCount.C) (.type "ValueError") = some true
  sb_BadCount : PySem.W.subIn K (.ref BadCount.C) (.ref SlipError.C) = some true
  q_BadNumber_SlipError : PySem.W.kitOne K (.ref BadNumber.C) (.ref SlipError.C) = some true
  q_BadNumber_BadBoxes : PySem.W.kitOne K (.ref BadNumber.C) (.ref BadBoxes.C) = some false
  q_BadNumber_BadCount : PySem.W.kitOne K (.ref BadNumber.C) (.ref BadCount.C) = some false
  q_BadNumber_BadNumber : PySem.W.kitOne K (.ref BadNumber.C) (.ref BadNumber.C) = some true
  q_BadNumber_Lost : PySem.W.kitOne K (.ref BadNumber.C) (.ref Lost.C) = some false
  qv_BadNumber : PySem.W.kitOne K (.ref BadNumber.C) (.type "ValueError") = some true
  sb_BadNumber : PySem.W.subIn K (.ref BadNumber.C) (.ref SlipError.C) = some true
  q_Lost_SlipError : PySem.W.kitOne K (.ref Lost.C) (.ref SlipError.C) = some true
  q_Lost_BadBoxes : PySem.W.kitOne K (.ref Lost.C) (.ref BadBoxes.C) = some false
  q_Lost_BadCount : PySem.W.kitOne K (.ref Lost.C) (.ref BadCount.C) = some false
  q_Lost_BadNumber : PySem.W.kitOne K (.ref Lost.C) (.ref BadNumber.C) = some false
  q_Lost_Lost : PySem.W.kitOne K (.ref Lost.C) (.ref Lost.C) = some true
  qv_Lost : PySem.W.kitOne K (.ref Lost.C) (.type "ValueError") = some true
  sb_Lost : PySem.W.subIn K (.ref Lost.C) (.ref SlipError.C) = some true
  L_law_numbers_right : Lm K "_law_numbers_right"
  L_law_spoiled_right : Lm K "_law_spoiled_right"
  lf_law_numbers_right : L_law_numbers_right.f = law_numbers_right.f
  ld_law_numbers_right_law_spoiled_right : L_law_numbers_right.P ≠ L_law_spoiled_right.P
  lf_law_spoiled_right : L_law_spoiled_right.f = law_spoiled_right.f
  t_MOST : Tok
  c_MOST : mg "MOST" = some (.int 40 t_MOST)
  t_GREATEST : Tok
  c_GREATEST : mg "GREATEST" = some (.int 100 t_GREATEST)
  t_NUMBERED : Tok
  c_NUMBERED : mg "NUMBERED" = some (.int 8 t_NUMBERED)
  m_len : mg "len" = none
  m_range : mg "range" = none
  m_list : mg "list" = none
  m_isinstance : mg "isinstance" = none
  m_all : mg "all" = none
  m_sorted : mg "sorted" = none
  m_int : mg "int" = none
  m_bool : mg "bool" = none
  m_tuple : mg "tuple" = none
  m_max : mg "max" = none
  m_min : mg "min" = none
  m_zip : mg "zip" = none
  m_enumerate : mg "enumerate" = none
  m_sum : mg "sum" = none
  m_set : mg "set" = none
  m_ValueError : mg "ValueError" = none
end Sb

namespace Sb
open PySem PySem.Spec PyProof.Rows L2
/-! ### _law_kinds: of which classes a refusal is -/
def TKinds (K : PySem.W.Frag) (CS c0 c1 c2 c3 : Addr) : (XK → Hp → VK → Prop) → Hp → VK → Prop := fun tl H Q => ∀ o, H o = none → tl (fun cls d H' => ∃ (D : Addr) (b0 b1 b2 b3 : Bool), cls = .ref D ∧ d = none ∧ ExcC K D ∧ PySem.W.exmOne K (.ref D) (.ref CS) = some true ∧
  PySem.W.kitOne K (.ref D) (.ref c0) = some b0 ∧ PySem.W.kitOne K (.ref D) (.ref c1) = some b1 ∧ PySem.W.kitOne K (.ref D) (.ref c2) = some b2 ∧ PySem.W.kitOne K (.ref D) (.ref c3) = some b3 ∧ PySem.W.kitOne K (.ref D) (.type "ValueError") = some true ∧
  ∀ H'' p, Same H' H'' → H'' p = some (.lst [.bl b0, .bl b1, .bl b2, .bl b3, .bl true]) → Q (.ref p) H'') (upd H o (.lst [])) (fun _ H' => ∃ v, (some (some (V.ref o)) : Option (Option V)) = some (some v) ∧ Q v H')
abbrev n_law_kinds : List Str := ["_law_ask", "_law_found", "error"]
theorem sc_law_kinds : FnScope n_law_kinds ["_law_ask"] (defScope s_law_kinds) := ⟨rfl, rfl, rfl, by decide +kernel, rfl, by decide +kernel, by decide +kernel⟩
theorem kinds_gives {X : Cx} {q : Str} {g : Addr} {cdg : Value} (T : Tx X.K X.mg) :
    LamX.GivesTo X n_law_kinds "_law_kinds" (defScope s_law_kinds) g cdg (defBody s_law_kinds) "_law_ask" q (TKinds X.K T.SlipError.C T.BadBoxes.C T.BadCount.C T.BadNumber.C T.Lost.C) := by
  intro f c' s H Q tl act hc h
  let Z : Cx := (cxOf C8.CX0 X.prog X.w X.K X.mg X.base n_law_kinds "_law_kinds" (defScope s_law_kinds) g cdg X.A X.stack s H C8.E0).nox
  refine ⟨_, pss_cons (ps_set (i := 1) sc_law_kinds.nd rfl (.inl rfl) (pe_lst pa_nil)) (pss_cons (ps_try_as (X := Z) (i := 2) (c := .ref T.SlipError.C)
      (tb := fun W D σ H => ∃ Ech : XK, (∀ cls d σ' H', Ech cls d H' → W cls d σ' H') ∧ σ[0]? = some (some (.ref f)) ∧ H c' = some (LamX.CodeO c' q) ∧ tl Ech H (fun _ H' => D.nx σ H'))
      rfl rfl sc_law_kinds.nd rfl rfl ⟨rfl, by decide, .inl T.SlipError.g⟩ LamX.takes0 (fun W pn xe tk _ => ?_)
      (fun a oe cls d pn hz hf => PSs.len 3 rfl (pss_cons (ps_set (i := 1) sc_law_kinds.nd rfl (.inl rfl) (pe_lst (pa_cons (pe_callB (call_isX (X := Z) (a := a) (pn := pn) hz hf) (by rfl) T.m_isinstance (by decide +kernel) (pa_cons (pv 2) (pa_cons (pe_glob (v := .ref T.BadBoxes.C) (by rfl) T.BadBoxes.g rfl) pa_nil)))
          (pa_cons (pe_callB (call_isX (X := Z) (a := a) (pn := pn) hz hf) (by rfl) T.m_isinstance (by decide +kernel) (pa_cons (pv 2) (pa_cons (pe_glob (v := .ref T.BadCount.C) (by rfl) T.BadCount.g rfl) pa_nil)))
          (pa_cons (pe_callB (call_isX (X := Z) (a := a) (pn := pn) hz hf) (by rfl) T.m_isinstance (by decide +kernel) (pa_cons (pv 2) (pa_cons (pe_glob (v := .ref T.BadNumber.C) (by rfl) T.BadNumber.g rfl) pa_nil))) pa_nil)))))
        (pss_one (ps_set (i := 1) sc_law_kinds.nd rfl (.inl rfl) (pe_op op_cat (pv 1) (pe_lst (pa_cons (pe_callB (call_isX (X := Z) (a := a) (pn := pn) hz hf) (by rfl) T.m_isinstance (by decide +kernel) (pa_cons (pv 2) (pa_cons (pe_glob (v := .ref T.Lost.C) (by rfl) T.Lost.g rfl) pa_nil)))
          (pa_cons (pe_callB (call_isX (X := Z) (a := a) (pn := pn) hz hf) (by rfl) T.m_isinstance (by decide +kernel) (pa_cons (pv 2) (pa_cons (pe_bltn (v := .ty "ValueError") (by rfl) T.m_ValueError (by decide +kernel) rfl) pa_nil))) pa_nil)))))))))
      (pss_one (ps_ret (pv 1)))), ?_⟩
  · refine ⟨fun pins s' σ H' D I h' => ?_⟩
    obtain ⟨Ech, hW, h1, h2, h3⟩ := h'
    have hp := fun p1 p2 => act W pn xe Ech p1 p2 tk hW
    exact (pss_one (ps_expr (hp _ _))).run pins s' σ H' D I ⟨h1, h2, h3⟩
  · refine ⟨Nat.zero_le _, fun o no => ⟨_, ?_, rfl, ?_, h o no⟩⟩
    · rintro cls d σ' H' ⟨D, b0, b1, b2, b3, rfl, rfl, C, ex, k0, k1, k2, k3, kv, qq⟩
      refine ⟨true, ex, fun _ a ha hlen => ?_, fun z => nomatch z⟩
      match σ', hlen with
      | [x, y, z], _ =>
        refine ⟨_, rfl, D, rfl, rfl, C, .ref T.BadBoxes.C, .ref T.BadBoxes.C, b0, rfl, (fun u e => e), k0, ?_⟩
        refine ⟨_, rfl, D, rfl, rfl, C, .ref T.BadCount.C, .ref T.BadCount.C, b1, rfl, (fun u e => e), k1, ?_⟩
        refine ⟨_, rfl, D, rfl, rfl, C, .ref T.BadNumber.C, .ref T.BadNumber.C, b2, rfl, (fun u e => e), k2, sz (by simp), fun p np => ?_⟩
        have s1 := same_upd (o := .lst [V.bl b0, V.bl b1, V.bl b2]) np
        refine ⟨_, rfl, _, rfl, D, rfl, rfl, C, .ref T.Lost.C, .ref T.Lost.C, b3, rfl, (fun u e => e), k3, ?_⟩
        refine ⟨_, rfl, D, rfl, rfl, C, .ty "ValueError", .type "ValueError", true, rfl, (fun u e => e), kv, sz (by simp), fun p2 np2 => ?_⟩
        have s2 := same_upd (o := .lst [V.bl b3, V.bl true]) np2
        refine ⟨p, p2, _, _, rfl, rfl, s2 _ _ upd_same, upd_same, sz (by simp), fun p3 np3 => ?_⟩
        exact ⟨_, rfl, qq _ p3 ((s1.trans s2).trans (same_upd np3)) upd_same⟩
    · exact (same_upd no) _ _ hc
end Sb
namespace Sb
open PySem PySem.Spec PyProof.Rows L2
section
variable {P : Program} {w : World} {K : PySem.W.Frag} {mg : Str → Option Value} {base : Heap}
/-! ### is_whole -/
/-- a thing of the type ty (no list of one's own): a number, or not -/
def spWhole (K : PySem.W.Frag) : Sp := fun vs H Q _ => ∃ (v : V) (ty : String) (b1 b2 : Bool), vs = [v] ∧ TyX K H v (.type ty) ∧ kitB ty "int" = some b1 ∧ kitB ty "bool" = some b2 ∧ Q (.bl (b1 && !b2)) H
abbrev n_is_whole : List Str := ["thing"]
theorem sc_is_whole : FnScope n_is_whole ["thing"] (defScope s_is_whole) := ⟨rfl, rfl, rfl, by decide +kernel, rfl, by decide +kernel, by decide +kernel⟩
theorem ok_is_whole (T : Tx K mg) : FnOk P w K mg base CX0 1 T.is_whole.f T.is_whole.fd ["thing"] (spWhole K) := by
  refine T.is_whole.F.ok sc_is_whole (fun vs H Q E h => ?_) (fun cdv A outer s H vs Q E hr h => ?_)
  · obtain ⟨v, ty, b1, b2, rfl, _⟩ := h
    rfl
  · obtain ⟨v, ty, b1, b2, rfl, hty, h1, h2, q⟩ := h
    refine ⟨_, (pss_one (ps_ret (pe_and (pe_callB call_isi (by rfl) T.m_isinstance (by decide +kernel) (pa_cons (pv 0) (pa_cons (pe_bltn (v := .ty "int") (by rfl) T.m_int (by decide +kernel) rfl) pa_nil))) (pe_one (pe_not (pe_callB call_isi (by rfl) T.m_isinstance (by decide +kernel) (pa_cons (pv 0) (pa_cons (pe_bltn (v := .ty "bool") (by rfl) T.m_bool (by decide +kernel) rfl) pa_nil)))))))), ?_⟩
    refine ⟨v, rfl, v, .ty "int", .type ty, .type "int", b1, rfl, .ty "int", hty, kit_ty h1, b1, rfl, ite2 (fun e => ?_) (fun e => ?_)⟩
    · refine ⟨v, rfl, v, .ty "bool", .type ty, .type "bool", b2, rfl, .ty "bool", hty, kit_ty h2, b2, rfl, ?_⟩
      rw [e] at q
      exact q
    · have e' : b1 = false := by cases b1 with
        | true => exact absurd rfl e
        | false => rfl
      rw [e'] at q
      exact q
theorem whole_int {H : Hp} {Q : VK} {E : XK} {i : Int} (q : Q (.bl true) H) : spWhole K [.int i] H Q E :=
  ⟨.int i, "int", true, false, rfl, .base (.int i), by decide +kernel, by decide +kernel, q⟩
end
end Sb
namespace Sb
open PySem PySem.Spec PyProof.Rows L2
section
variable {P : Program} {w : World} {K : PySem.W.Frag} {mg : Str → Option Value} {base : Heap}
/-! ### a new list of numbers; the boxes that a hand opens -/
/-- a new list at p: the numbers r -/
def NewL (H : Hp) (Q : VK) (r : List Nat) : Prop := ∀ (H' : Hp) (p : Addr), Same H H' → H p = none → H' p = some (.lst (iv r)) → Q (.ref p) H'
def spRing (K : PySem.W.Frag) : Sp := fun vs H Q _ => ∃ (a : Addr) (ns : List Nat) (h : Nat), vs = [.ref a, .int (h : Int)] ∧ SqL K H a (iv ns) ∧ Good ns ∧ h < ns.length ∧ ns.length ≤ 1000 ∧ NewL H Q (ringOf ns h)
end
end Sb
namespace Sb
open PySem PySem.Spec PyProof.Rows L2
section
variable {P : Program} {w : World} {K : PySem.W.Frag} {mg : Str → Option Value} {base : Heap}
/-! ### ring_from -/
abbrev n_ring_from : List Str := ["boxes", "hand", "found"]
theorem sc_ring_from : FnScope n_ring_from ["boxes", "hand"] (defScope s_ring_from) := ⟨rfl, rfl, rfl, by decide +kernel, rfl, by decide +kernel, by decide +kernel⟩
theorem ok_ring_from (T : Tx K mg) : FnOk P w K mg base CX0 1 T.ring_from.f T.ring_from.fd ["boxes", "hand"] (spRing K) := by
  refine T.ring_from.F.ok sc_ring_from (fun vs H Q E h => ?_) (fun cdv A outer s H vs Q E hr h => ?_)
  · obtain ⟨a, ns, h, rfl, _⟩ := h
    rfl
  · obtain ⟨a, ns, h, rfl, hS, g, hh, hlen, q⟩ := h
    refine ⟨_, (pss_cons (ps_set (i := 2) sc_ring_from.nd rfl (.inl rfl) (pe_lst (pa_cons (pv 1) pa_nil)))
    (pss_cons (ps_while PassesOwn.never (pt_cmpR op_ne (pe_ix ix_list (pv 0) (pe_ix ix_list (pv 2) (pe_un un_neg pe_int) (fun _ _ => rfl)) (fun _ _ => rfl)) (pv 1) (nomark _))
      (pss_one (ps_expr (pe_bm PySem.F.plainAttrs_list PySem.F.slot_list_append PySem.F.type_list_append mt_append (pv 2) (pa_cons (pe_ix ix_list (pv 0) (pe_ix ix_list (pv 2) (pe_un un_neg pe_int) (fun _ _ => rfl)) (fun _ _ => rfl)) pa_nil)))))
    (pss_one (ps_ret (pv 2))))), ?_⟩
    refine ⟨.int h, rfl, sz (by simp), fun o no => ?_⟩
    refine ⟨fun m σ H3 => ∃ r, σ = [some (.ref a), some (.int (h : Int)), some (.ref o)] ∧ Same H H3 ∧ H3 o = some (.lst (iv r)) ∧ Chain ns h r ∧ m = ns.length - r.length,
      ⟨_, [h], rfl, same_upd no, upd_same, Chain.one hh, rfl⟩, fun m σ H3 hW => ?_⟩
    obtain ⟨r, rfl, sm, eo, c, rfl⟩ := hW
    obtain ⟨x, hx, hm, hl⟩ := c.last
    have hA : SqL K H3 a (iv ns) := sm.seq hS
    have hO : SqL K H3 o (iv r) := .of eo
    have ax : atI (iv ns) ((x : Nat) : Int) = some (.int ((nxt ns x : Nat) : Int)) := iv_at (nxt_get? hl)
    refine ⟨.ref a, rfl, .ref o, rfl, 1, rfl, o, _, -1, _, rfl, rfl, hO, iv_last hx, a, _, _, _, rfl, rfl, hA, ax, .int h, rfl, rfl, _, rfl, ite2 (fun e => ?_) (fun e => ?_)⟩
    · have ne : nxt ns x ≠ h := fun z => by
        rw [z] at e
        simp at e
      have hn : nxt ns x ∉ r := fun z => ne (c.slip g hx z)
      have c' := c.more hx hn (g.nxt_lt hl)
      refine ⟨fun σ' H' => ∃ r', σ' = [some (.ref a), some (.int (h : Int)), some (.ref o)] ∧ Same H H' ∧ H' o = some (.lst (iv r')) ∧ Chain ns h r' ∧ r'.length = r.length + 1, fun σ' H' hN => ?_, ?_⟩
      · obtain ⟨r', e1, e2, e3, e4, e5⟩ := hN
        have := e4.len_le
        exact ⟨_, by omega, r', e1, e2, e3, e4, rfl⟩
      · refine ⟨.ref o, rfl, .inl ⟨rfl, _, hO⟩, .ref a, rfl, .ref o, rfl, 1, rfl, o, _, -1, _, rfl, rfl, hO, iv_last hx, a, _, _, _, rfl, rfl, hA, ax, o, _, _, rfl, rfl, eo, ?_, ?_⟩
        · rw [iv_len]
          have := c.len_le
          exact szl (by omega)
        · rw [iv_snoc]
          exact ⟨_, rfl, same_mut sm no, upd_same, c', by rw [List.length_append]; rfl⟩
    · have e2 : nxt ns x = h := by
        have : V.int ((nxt ns x : Nat) : Int) = V.int (h : Int) := by
          cases hd : decide (V.int ((nxt ns x : Nat) : Int) = V.int (h : Int)) with
          | true => exact of_decide_eq_true hd
          | false => rw [hd] at e; exact absurd rfl e
        injection this with this
        omega
      have R : IsRing ns h r := ⟨c, fun y hy => by rw [hx] at hy; cases hy; exact e2⟩
      rw [R.eq g] at eo
      exact ⟨.ref o, rfl, q H3 o sm no eo⟩
end
end Sb
namespace Sb
open PySem PySem.Spec PyProof.Rows L2
theorem ty_list {K : PySem.W.Frag} {H : Hp} {a : Addr} {xs : List V} (h : SqL K H a xs) : TyX K H (.ref a) (.type "list") := by
  rcases h with (h | ⟨o, h⟩) | ⟨o, its, n, h1, h2, _⟩
  · exact .base (.lst h)
  · exact .base (.frz h)
  · exact .kList h1 h2
/-- numbers in rising order, each below their count once: the numbers from 0 on -/
theorem sorted_range : ∀ (l m : List Nat), l.Perm m → l.Pairwise (· ≤ ·) → m.Pairwise (· ≤ ·) → l = m := fun l m p a b =>
  p.eq_of_pairwise (fun x y _ _ h1 h2 => Nat.le_antisymm h1 h2) a b
theorem range_pw (n : Nat) : (List.range n).Pairwise (· ≤ ·) := by
  refine List.Pairwise.imp ?_ (List.pairwise_lt_range (n := n))
  intro a b h
  exact Nat.le_of_lt h
theorem rgV_iv (n : Nat) : rgV 0 (n : Int) = iv (List.range n) := by
  unfold rgV
  rw [show ((n : Int) - 0).toNat = n by omega]
  apply List.map_congr_left
  intro i _
  rw [Int.zero_add]
theorem perm_int {ns' : List Int} {ns : List Nat} (p : ns'.Perm (ns.map fun (n : Nat) => (n : Int))) : ∃ ms : List Nat, ns' = ms.map (fun (n : Nat) => (n : Int)) ∧ ms.Perm ns := by
  have all : ∀ x ∈ ns', ∃ n : Nat, x = (n : Int) := fun x hx => by
    obtain ⟨n, _, e⟩ := List.mem_map.mp (p.mem_iff.mp hx)
    exact ⟨n, e.symm⟩
  have e : ns' = (ns'.map Int.toNat).map (fun (n : Nat) => (n : Int)) := by
    rw [List.map_map]
    conv => lhs; rw [← List.map_id ns']
    apply List.map_congr_left
    intro x hx
    obtain ⟨n, rfl⟩ := all x hx
    rfl
  refine ⟨ns'.map Int.toNat, e, ?_⟩
  have h := p.map Int.toNat
  rw [List.map_map] at h
  have e2 : ns.map (Int.toNat ∘ fun (n : Nat) => (n : Int)) = ns := by
    conv => rhs; rw [← List.map_id ns]
    apply List.map_congr_left
    intro x _
    rfl
  rw [e2] at h
  exact h
theorem pw_int {ms : List Nat} (h : (ms.map fun (n : Nat) => (n : Int)).Pairwise (· ≤ ·)) : ms.Pairwise (· ≤ ·) := by
  rw [List.pairwise_map] at h
  exact h.imp fun h => by omega
section
variable {P : Program} {w : World} {K : PySem.W.Frag} {mg : Str → Option Value} {base : Heap}
/-! ### check_boxes: boxes are let through -/
def spCheck (K : PySem.W.Frag) : Sp := fun vs H Q _ => ∃ (a : Addr) (ns : List Nat) (m : Int), vs = [.ref a, .int m] ∧ SqL K H a (iv ns) ∧ Good ns ∧ 1 ≤ ns.length ∧ (ns.length : Int) ≤ m ∧ ns.length < 64 ∧ ∀ H', Same H H' → Q .non H'
abbrev n_check_boxes : List Str := ["boxes", "most", "slip"]
theorem sc_check_boxes : FnScope n_check_boxes ["boxes", "most"] (defScope s_check_boxes) := ⟨rfl, rfl, rfl, by decide +kernel, rfl, by decide +kernel, by decide +kernel⟩
theorem ok_check_boxes (T : Tx K mg) : FnOk P w K mg base CX0 2 T.check_boxes.f T.check_boxes.fd ["boxes", "most"] (spCheck K) := by
  refine T.check_boxes.F.ok sc_check_boxes (fun vs H Q E h => ?_) (fun cdv A outer s H vs Q E hr h => ?_)
  · obtain ⟨a, ns, h, rfl, _⟩ := h
    rfl
  · obtain ⟨a, ns, m, rfl, hS, g, h1, hm, hlen, q⟩ := h
    refine ⟨_, (pss_cons (ps_if (PW.pt (pw_or (pt_not (pt_val (pe_callB call_isi (by rfl) T.m_isinstance (by decide +kernel) (pa_cons (pv 0) (pa_cons (pe_bltn (v := .ty "list") (by rfl) T.m_list (by decide +kernel) rfl) pa_nil))))) (pw_or (pt_not (pt_chain op_le op_le pe_int (pe_callB call_len_seq (by rfl) T.m_len (by decide +kernel) (pa_cons (pv 0) pa_nil)) (pv 1))) (pw_or1 (pt_not (pt_val (pe_callB (cr_all rfl) (by rfl) T.m_all (by decide +kernel) (pa_cons (pe_lc (own := [("slip", 2)]) (g := gName 2) rfl sc_check_boxes.nd (pi_list (pv 0)) (blkOk_by (own := [("slip", 2)]) (N := n_check_boxes) (sc := defScope s_check_boxes) (by decide +kernel)) (fun _ _ _ _ _ => (pg_name (i := 2) sc_check_boxes.nd rfl (.inl rfl))) (fun _ _ _ _ _ => pts_nil) (fun _ _ _ _ _ => (pe_df T.is_whole (ok_is_whole T) (hr.mono (by decide)) (pa_cons (pv 2) pa_nil)))) pa_nil))))))))
      (pss_one ps_never)
      pss_nil)
    (pss_one (ps_if (pt_cmpR (op_neD hr.units) (pe_callB cr_sorted (by rfl) T.m_sorted (by decide +kernel) (pa_cons (pv 0) pa_nil)) (pe_listRg rfl (by rfl) T.m_list (prg_1 (by rfl) T.m_range (pe_callB call_len_seq (by rfl) T.m_len (by decide +kernel) (pa_cons (pv 0) pa_nil)))) (nomark _))
      (pss_one ps_never)
      pss_nil))), ?_⟩
    -- isinstance(boxes, list)
    refine ⟨.ref a, rfl, _, _, _, .type "list", true, rfl, .ty "list", ty_list hS, kit_ty (by decide +kernel), true, rfl, iteF ?_⟩
    -- 1 <= len(boxes) <= most
    refine ⟨.ref a, rfl, a, _, rfl, .inl hS, 1, _, rfl, rfl, _, rfl, ?_⟩
    rw [iv_len, show decide ((1 : Int) ≤ (ns.length : Int)) = true from decide_eq_true (by omega)]
    refine iteT ⟨.int m, rfl, _, m, rfl, rfl, _, rfl, ?_⟩
    rw [show decide ((ns.length : Int) ≤ m) = true from decide_eq_true hm]
    refine iteF ?_
    -- all(..)
    refine ⟨.ref a, rfl, a, rfl, ⟨_, hS⟩, fun D nD => ?_⟩
    refine lc_list (K := K) (a := a) (xs := iv ns) (fun i H3 => Same H H3 ∧ H3 D = some (.lst ((List.replicate i true).map V.bl))) ⟨same_upd nD, upd_same⟩ (fun i H3 _ h => h.1.seq hS) (fun i x H3 hx h => ?_) (fun H3 h => ?_)
    · obtain ⟨sm, eD⟩ := h
      rw [iv_get?] at hx
      obtain ⟨n, _, rfl⟩ := Option.map_eq_some_iff.mp hx
      have hi : i < ns.length := by
        obtain ⟨h, _⟩ := List.getElem?_eq_some_iff.mp (by assumption : ns[i]? = some n); exact h
      refine ⟨rfl, .int n, rfl, .int n, "int", true, false, rfl, .base (.int _), by decide +kernel, by decide +kernel, _, eD, ?_, ?_⟩
      · rw [List.length_map, List.length_replicate]
        exact szl (by omega)
      · refine ⟨same_mut sm nD, ?_⟩
        rw [upd_same, List.replicate_succ', List.map_append]
        rfl
    · obtain ⟨sm, eD⟩ := h
      refine ⟨D, _, rfl, .of eD, _, rfl, ?_⟩
      have ea : (List.replicate (iv ns).length true).all id = true := by
        rw [List.all_eq_true]
        intro b hb
        rw [(List.mem_replicate.mp hb).2]
        rfl
      rw [ea]
      refine iteF ?_
      -- sorted(boxes) != list(range(len(boxes)))
      have hS3 : SqL K H3 a ((ns.map fun (n : Nat) => (n : Int)).map V.int) := by rw [← iv_eq]; exact sm.seq hS
      refine ⟨.ref a, rfl, a, _, rfl, hS3, by rw [List.length_map]; omega, fun ns' p pm rise np => ?_⟩
      obtain ⟨ms, rfl, pm'⟩ := perm_int pm
      have em : ms = List.range ns.length := sorted_range _ _ (pm'.trans g.perm) (pw_int rise) (range_pw _)
      have s4 : Same H3 (upd H3 p (.lst ((ms.map fun (n : Nat) => (n : Int)).map V.int))) := same_upd np
      refine ⟨.ref a, rfl, a, _, rfl, .inl (s4.seq (sm.seq hS)), (ns.length : Int), by rw [iv_len], RgOk.of_le (by omega) (by omega) (by omega) (by omega), fun p2 np2 => ?_⟩
      have s5 := same_upd (o := .lst (rgV 0 (ns.length : Int))) np2
      refine ne_iv (x := ms) (y := List.range ns.length) (s5.seq (.of (by rw [upd_same, iv_eq]))) (.of (by rw [upd_same, rgV_iv])) ⟨_, rfl, iteNS em ?_⟩
      exact q _ ((sm.trans s4).trans s5)
end
end Sb
namespace Sb
open PySem PySem.Spec PyProof.Rows L2
/-- the rows of a list of lists, at ps: new ones -/
structure Rows (H H' : Hp) (ps : List Addr) (rs : List (List Nat)) : Prop where
  len : ps.length = rs.length
  row : ∀ (i : Nat) (q : Addr) (r : List Nat), ps[i]? = some q → rs[i]? = some r → H' q = some (.lst (iv r))
  new : ∀ q ∈ ps, H q = none
  nd : ps.Nodup
theorem Rows.nil {H H' : Hp} : Rows H H' [] [] := ⟨rfl, fun i q r h _ => by simp at h, fun q h => by simp at h, List.nodup_nil⟩
theorem Rows.at {H H' : Hp} {ps : List Addr} {rs : List (List Nat)} (R : Rows H H' ps rs) {q : Addr} (h : q ∈ ps) : ∃ r, r ∈ rs ∧ H' q = some (.lst (iv r)) := by
  obtain ⟨i, hi, e⟩ := List.mem_iff_getElem.mp h
  have hr : i < rs.length := by rw [← R.len]; exact hi
  exact ⟨rs[i], List.getElem_mem hr, R.row i q _ (by rw [List.getElem?_eq_getElem hi, e]) (List.getElem?_eq_getElem hr)⟩
theorem Rows.moved {H H' H'' : Hp} {ps : List Addr} {rs : List (List Nat)} (R : Rows H H' ps rs) (k : ∀ q ∈ ps, H'' q = H' q) : Rows H H'' ps rs :=
  ⟨R.len, fun i q r h1 h2 => by rw [k q (List.mem_of_getElem? h1)]; exact R.row i q r h1 h2, R.new, R.nd⟩
theorem Rows.same {H H' H'' : Hp} {ps : List Addr} {rs : List (List Nat)} (R : Rows H H' ps rs) (s : Same H' H'') : Rows H H'' ps rs :=
  ⟨R.len, fun i q r h1 h2 => s _ _ (R.row i q r h1 h2), R.new, R.nd⟩
theorem Rows.upd {H H' : Hp} {ps : List Addr} {rs : List (List Nat)} {o : Addr} {x : HO} (R : Rows H H' ps rs) (h : o ∉ ps) : Rows H (upd H' o x) ps rs :=
  R.moved fun q hq => upd_ne fun e => h (e ▸ hq)
theorem Rows.snoc {H H' : Hp} {ps : List Addr} {rs : List (List Nat)} {p : Addr} {r : List Nat} (R : Rows H H' ps rs) (hp : H' p = some (.lst (iv r))) (hn : H p = none) (hd : p ∉ ps) : Rows H H' (ps ++ [p]) (rs ++ [r]) where
  len := by rw [List.length_append, List.length_append, R.len]; rfl
  row := fun i q r' h1 h2 => by
    by_cases hi : i < ps.length
    · rw [List.getElem?_append_left hi] at h1
      rw [List.getElem?_append_left (by rw [← R.len]; exact hi)] at h2
      exact R.row i q r' h1 h2
    · rw [List.getElem?_append_right (by omega)] at h1
      rw [List.getElem?_append_right (by rw [← R.len]; omega)] at h2
      have e : i - ps.length = 0 := by
        obtain ⟨h, _⟩ := List.getElem?_eq_some_iff.mp h1
        simpa using h
      rw [← R.len, e] at h2
      rw [e] at h1
      cases h1
      cases h2
      exact hp
  new := fun q hq => by
    rcases List.mem_append.mp hq with z | z
    · exact R.new q z
    · simp at z; subst z; exact hn
  nd := by
    rw [List.nodup_append]
    refine ⟨R.nd, by simp, fun a ha b hb => ?_⟩
    simp at hb
    subst hb
    intro e; subst e; exact hd ha
/-- a new list of new lists: the rows rs -/
def NewLL (H : Hp) (Q : VK) (rs : List (List Nat)) : Prop := ∀ (H' : Hp) (p : Addr) (ps : List Addr), Same H H' → H p = none → H' p = some (.lst (ps.map V.ref)) → Rows H H' ps rs → p ∉ ps → Q (.ref p) H'
theorem refs_last {ps : List Addr} {p : Addr} : atI ((ps ++ [p]).map V.ref) (-1) = some (.ref p) := by
  rw [List.map_append]; exact atI_last _ _
end Sb
namespace Sb
open PySem PySem.Spec PyProof.Rows L2
section
variable {P : Program} {w : World} {K : PySem.W.Frag} {mg : Str → Option Value} {base : Heap}
/-! ### rings_of -/
def spRings (K : PySem.W.Frag) : Sp := fun vs H Q _ => ∃ (a : Addr) (ns : List Nat), vs = [.ref a] ∧ SqL K H a (iv ns) ∧ Good ns ∧ ns.length ≤ 100 ∧ NewLL H Q (ringsOf ns)
abbrev n_rings_of : List Str := ["boxes", "found", "gone", "box"]
theorem sc_rings_of : FnScope n_rings_of ["boxes"] (defScope s_rings_of) := ⟨rfl, rfl, rfl, by decide +kernel, rfl, by decide +kernel, by decide +kernel⟩
theorem ok_rings_of (T : Tx K mg) : FnOk P w K mg base CX0 2 T.rings_of.f T.rings_of.fd ["boxes"] (spRings K) := by
  refine T.rings_of.F.ok sc_rings_of (fun vs H Q E h => ?_) (fun cdv A outer s H vs Q E hr h => ?_)
  · obtain ⟨a, ns, rfl, _⟩ := h
    rfl
  · obtain ⟨a, ns, rfl, hS, g, hlen, q⟩ := h
    refine ⟨_, (pss_cons (ps_par (i := 1) (j := 2) (by rfl) sc_rings_of.nd rfl rfl (by decide) rfl rfl (pa_cons (pe_lst pa_nil) (pa_cons (pe_lst pa_nil) pa_nil)) (by rfl))
    (pss_cons (ps_for PassesOwn.never rfl (pi_range1 (by rfl) T.m_range (pa_cons (pe_callB call_len_seq (by rfl) T.m_len (by decide +kernel) (pa_cons (pv 0) pa_nil)) pa_nil)) (pg_name (i := 3) sc_rings_of.nd rfl (.inl rfl))
      (pss_one (ps_if (pt_cmpR op_notIn_seq (pv 3) (pv 2) (by rfl))
        (pss_cons (ps_expr (pe_bm PySem.F.plainAttrs_list PySem.F.slot_list_append PySem.F.type_list_append mt_append (pv 1) (pa_cons (pe_df T.ring_from (ok_ring_from T) (hr.mono (by decide)) (pa_cons (pv 0) (pa_cons (pv 3) pa_nil))) pa_nil)))
        (pss_one (ps_expr (pe_bm PySem.F.plainAttrs_list PySem.F.slot_list_extend PySem.F.type_list_extend mt_extend (pv 2) (pa_cons (pe_ix ix_list (pv 1) (pe_un un_neg pe_int) (fun _ _ => rfl)) pa_nil)))))
        pss_nil)))
    (pss_one (ps_ret (pv 1))))), ?_⟩
    refine ⟨Nat.zero_le _, fun o no => ⟨Nat.zero_le _, fun z nz => ⟨_, _, rfl, ?_⟩⟩⟩
    have s1 : Same H (upd H o (.lst [])) := same_upd no
    have s2 := same_upd (o := .lst []) nz
    have nzo : z ≠ o := fun e => by
      rw [e, upd_same] at nz
      cases nz
    have nzH : H z = none := s1.free nz
    refine ⟨.ref a, rfl, a, _, rfl, .inl (s2.seq (s1.seq hS)), _, rfl, by omega, by rw [iv_len]; omega, ?_⟩
    rw [iv_len, show ((ns.length : Int)).toNat = ns.length by omega]
    refine for_range (lo := 0) (n := ns.length) (fun i σ H3 => ∃ ps v, σ = [some (.ref a), some (.ref o), some (.ref z), v] ∧ Same H H3 ∧ H3 o = some (.lst (ps.map V.ref)) ∧ H3 z = some (.lst (iv (ringsTo ns i).flatten)) ∧ Rows H H3 ps (ringsTo ns i) ∧ o ∉ ps ∧ z ∉ ps) ?_ (fun i σ H3 hi hP => ?_) (fun σ H3 hP => ?_)
    · refine ⟨[], none, rfl, s1.trans s2, ?_, upd_same, Rows.nil, by simp, by simp⟩
      rw [upd_ne nzo.symm, upd_same]
      rfl
    · obtain ⟨ps, v, rfl, sm, eo, ez, R, ho, hz⟩ := hP
      have hA : SqL K H3 a (iv ns) := sm.seq hS
      refine ⟨_, rfl, .ref z, rfl, z, _, rfl, .inl (.of ez), rfl, flat_iv _, _, rfl, ?_⟩
      rw [if_pos rfl, show (0 : Int) + ((i : Nat) : Int) = ((i : Nat) : Int) by omega, inV_iv]
      have hg := gone_iff g hi
      by_cases hmin : isMin ns i = true
      · have hd : decide (i ∈ (ringsTo ns i).flatten) = false := decide_eq_false fun z => hg.mp z hmin
        rw [hd]
        refine iteT ?_
        refine ⟨.ref o, rfl, .inl ⟨rfl, _, .of eo⟩, .ref a, rfl, _, rfl, a, ns, i, rfl, hA, g, hi, by omega, fun H4 p sm4 np ep => ?_⟩
        have eo4 := sm4 _ _ eo
        have ez4 := sm4 _ _ ez
        have nop : o ≠ p := ne_of_none eo np
        have nzp : z ≠ p := ne_of_none ez np
        have npp : p ∉ ps := fun hp => by
          obtain ⟨r, _, e⟩ := R.at hp
          rw [np] at e
          cases e
        refine ⟨o, _, _, rfl, rfl, eo4, ?_, ?_⟩
        · rw [List.length_map, R.len]
          have := ringsTo_len ns i
          exact szl (by omega)
        · have ep5 : (upd H4 o (.lst (ps.map V.ref ++ [.ref p]))) p = some (.lst (iv (ringOf ns i))) := by
            rw [upd_ne nop.symm]; exact ep
          have ez5 : (upd H4 o (.lst (ps.map V.ref ++ [.ref p]))) z = some (.lst (iv (ringsTo ns i).flatten)) := by
            rw [upd_ne nzo]; exact ez4
          have eo5 : (upd H4 o (.lst (ps.map V.ref ++ [.ref p]))) o = some (.lst ((ps ++ [p]).map V.ref)) := by
            rw [upd_same, List.map_append]; rfl
          refine ⟨.ref z, rfl, .inl ⟨rfl, _, .of ez5⟩, .ref o, rfl, 1, rfl, o, _, -1, _, rfl, rfl, .of eo5, refs_last, z, p, _, _, rfl, rfl, ez5, ep5, ?_, ?_⟩
          · rw [iv_len, iv_len]
            have h1 := ringsTo_flat g (k := i) (by omega)
            have h2 := ringOf_len g hi
            have h3 : i * ns.length ≤ 100 * 100 := Nat.mul_le_mul (by omega) hlen
            exact sz (by omega)
          · refine ⟨ps ++ [p], _, rfl, same_mut (same_mut (sm.trans sm4) no) nzH, ?_, ?_, ?_, ?_, ?_⟩
            · rw [upd_ne nzo.symm]; exact eo5
            · rw [upd_same, ringsTo_succ, if_pos hmin, List.flatten_append, ← List.map_append]
              simp
            · rw [ringsTo_succ, if_pos hmin]
              have R5 := ((R.same sm4).upd (x := .lst (ps.map V.ref ++ [.ref p])) ho).snoc ep5 (sm.free np) npp
              exact R5.upd (by
                intro h
                rcases List.mem_append.mp h with y | y
                · exact hz y
                · simp at y; exact nzp y)
            · intro h
              rcases List.mem_append.mp h with y | y
              · exact ho y
              · simp at y; exact nop y
            · intro h
              rcases List.mem_append.mp h with y | y
              · exact hz y
              · simp at y; exact nzp y
      · have hd : decide (i ∈ (ringsTo ns i).flatten) = true := decide_eq_true (hg.mpr hmin)
        rw [hd]
        refine iteF ?_
        refine ⟨ps, _, rfl, sm, eo, ?_, ?_, ho, hz⟩
        · rw [ringsTo_succ, if_neg hmin]; exact ez
        · rw [ringsTo_succ, if_neg hmin]; exact R
    · obtain ⟨ps, v, rfl, sm, eo, ez, R, ho, hz⟩ := hP
      exact ⟨.ref o, rfl, q H3 o ps sm no eo R ho⟩
end
end Sb
namespace Sb
open PySem PySem.Spec PyProof.Rows L2
/-! ### lists of lists compared -/
abbrev dNN (rs : List (List Nat)) : PyData := .list (rs.map dN)
theorem canN (ns : List Nat) : PyData.canLay0 (dN ns) = true := by
  rw [dN_eq]; unfold PyData.canLay0; exact canI _
theorem canNN : ∀ rs : List (List Nat), PyData.canLayAll0 (rs.map dN) = true
  | [] => by unfold PyData.canLayAll0; rfl
  | n :: r => by
    rw [List.map_cons]
    unfold PyData.canLayAll0
    rw [canNN r, canN n]; rfl
theorem depN (ns : List Nat) : PyData.depth (dN ns) ≤ 3 := by
  rw [dN_eq]
  have h := depI (ns.map fun (n : Nat) => (n : Int))
  unfold PyData.depth
  omega
theorem depNN : ∀ rs : List (List Nat), PyData.depthAll (rs.map dN) ≤ 3
  | [] => by unfold PyData.depthAll; exact Nat.zero_le _
  | n :: r => by
    rw [List.map_cons]
    unfold PyData.depthAll
    exact Nat.max_le.mpr ⟨depN n, depNN r⟩
theorem shapedNN (rs : List (List Nat)) : SeqAt.shaped (dNN rs) = true := by
  unfold SeqAt.shaped
  rw [Bool.and_eq_true_iff]
  refine ⟨by unfold PyData.canLay0; exact canNN rs, decide_eq_true ?_⟩
  have h := depNN rs
  unfold PyData.depth
  omega
theorem eqvNN : ∀ a b : List (List Nat), PyData.eqvAll (a.map dN) (b.map dN) = decide (a = b)
  | [], [] => by unfold PyData.eqvAll; rfl
  | [], y :: b => by rw [List.map_cons]; unfold PyData.eqvAll; rfl
  | x :: a, [] => by rw [List.map_cons]; unfold PyData.eqvAll; rfl
  | x :: a, y :: b => by
    rw [List.map_cons, List.map_cons]
    unfold PyData.eqvAll
    rw [eqvNN a b, eqvN, Bool.eq_iff_iff]
    simp
/-- a list of lists of numbers that is read -/
structure Sees (K : PySem.W.Frag) (H : Hp) (p : Addr) (rs : List (List Nat)) : Prop where
  ex : ∃ ps : List Addr, SqL K H p (ps.map V.ref) ∧ ps.length = rs.length ∧ ∀ (i : Nat) (q : Addr) (r : List Nat), ps[i]? = some q → rs[i]? = some r → SqL K H q (iv r)
theorem dpAll_rows {K : PySem.W.Frag} {H : Hp} : ∀ (ps : List Addr) (rs : List (List Nat)), ps.length = rs.length → (∀ (i : Nat) (q : Addr) (r : List Nat), ps[i]? = some q → rs[i]? = some r → SqL K H q (iv r)) → DpAll K H (ps.map V.ref) (rs.map dN)
  | [], [], _, _ => .nil
  | [], _ :: _, h, _ => by simp at h
  | _ :: _, [], h, _ => by simp at h
  | p :: ps, r :: rs, h, f => .cons (dp_iv (f 0 p r rfl rfl)) (dpAll_rows ps rs (by simpa using h) fun i q r' h1 h2 => f (i + 1) q r' (by simpa using h1) (by simpa using h2))
theorem Sees.dp {K : PySem.W.Frag} {H : Hp} {p : Addr} {rs : List (List Nat)} (S : Sees K H p rs) : Dp K H (.ref p) (dNN rs) := by
  obtain ⟨ps, h1, h2, h3⟩ := S.ex
  exact .lst h1 (dpAll_rows ps rs h2 h3)
theorem Rows.sees {K : PySem.W.Frag} {H H' : Hp} {p : Addr} {ps : List Addr} {rs : List (List Nat)} (R : Rows H H' ps rs) (hp : H' p = some (.lst (ps.map V.ref))) : Sees K H' p rs :=
  ⟨ps, .of hp, R.len, fun i q r h1 h2 => .of (R.row i q r h1 h2)⟩
theorem Sees.same {K : PySem.W.Frag} {H H' : Hp} {p : Addr} {rs : List (List Nat)} (S : Sees K H p rs) (s : Same H H') : Sees K H' p rs := by
  obtain ⟨ps, h1, h2, h3⟩ := S.ex
  exact ⟨ps, s.seq h1, h2, fun i q r a b => s.seq (h3 i q r a b)⟩
theorem ne_rows {K : PySem.W.Frag} {H : Hp} {a b : Addr} {x y : List (List Nat)} {Q : VK} (ha : Sees K H a x) (hb : Sees K H b y) (q : Q (.bl (!decide (x = y))) H) : rNeD K (.ref a) (.ref b) H Q :=
  ⟨dNN x, dNN y, ha.dp, hb.dp, shapedNN x, shapedNN y, by unfold PyData.eqv; rw [eqvNN]; exact q⟩
theorem eq_rows {K : PySem.W.Frag} {H : Hp} {a b : Addr} {x y : List (List Nat)} {Q : VK} (ha : Sees K H a x) (hb : Sees K H b y) (q : Q (.bl (decide (x = y))) H) : rEqD K (.ref a) (.ref b) H Q :=
  ⟨dNN x, dNN y, ha.dp, hb.dp, shapedNN x, shapedNN y, by unfold PyData.eqv; rw [eqvNN]; exact q⟩
/-! ### slices of any list -/
theorem cut_to (xs : List V) (k : Nat) : cutV xs none (some (k : Int)) = xs.take k := by
  unfold cutV
  rw [HT.sIx_nat, HT.sIx_none, List.drop_zero, Nat.sub_zero]
  by_cases h : k ≤ xs.length
  · rw [Nat.min_eq_left h]
  · rw [Nat.min_eq_right (by omega), List.take_of_length_le (Nat.le_refl _), List.take_of_length_le (by omega)]
theorem cut_m1 (xs : List V) (x : V) : cutV (xs ++ [x]) none (some (-1)) = xs := by
  unfold cutV
  rw [HT.sIx_none, List.drop_zero, Nat.sub_zero]
  have e : HT.sIx (xs ++ [x]).length (xs ++ [x]).length (some (-1)) = xs.length := by
    unfold HT.sIx
    dsimp only
    rw [if_pos (by decide), List.length_append]
    show ((-1 : Int) + ((xs.length + 1 : Nat) : Int)).toNat = xs.length
    omega
  rw [e, List.take_left' rfl]
theorem Good.rev {ns : List Nat} (g : Good ns) : Good ns.reverse := ⟨by
  rw [List.length_reverse]
  exact (List.reverse_perm ns).trans g.perm⟩
theorem rev_iv (ns : List Nat) : (iv ns).reverse = iv ns.reverse := (List.map_reverse ..).symm
end Sb
namespace Sb
open PySem PySem.Spec PyProof.Rows L2
theorem Rows.subset {H H' : Hp} {ps : List Addr} {rs : List (List Nat)} (R : Rows H H' ps rs) {i : Nat} {p : Addr} {r : List Nat} (h1 : ps[i]? = some p) (h2 : rs[i]? = some r) : H' p = some (.lst (iv r)) := R.row i p r h1 h2
section
variable {P : Program} {w : World} {K : PySem.W.Frag} {mg : Str → Option Value} {base : Heap}
/-! ### long_rings -/
def spLong (K : PySem.W.Frag) : Sp := fun vs H Q _ => ∃ (a : Addr) (ns : List Nat) (m : Nat), vs = [.ref a, .int (m : Int)] ∧ SqL K H a (iv ns) ∧ Good ns ∧ ns.length ≤ 100 ∧ NewLL H Q (longOf ns m)
abbrev n_long_rings : List Str := ["boxes", "most", "ring"]
theorem sc_long_rings : FnScope n_long_rings ["boxes", "most"] (defScope s_long_rings) := ⟨rfl, rfl, rfl, by decide +kernel, rfl, by decide +kernel, by decide +kernel⟩
theorem ok_long_rings (T : Tx K mg) : FnOk P w K mg base CX0 3 T.long_rings.f T.long_rings.fd ["boxes", "most"] (spLong K) := by
  refine T.long_rings.F.ok sc_long_rings (fun vs H Q E h => ?_) (fun cdv A outer s H vs Q E hr h => ?_)
  · obtain ⟨a, ns, m, rfl, _⟩ := h
    rfl
  · obtain ⟨a, ns, m, rfl, hS, g, hlen, q⟩ := h
    refine ⟨_, (pss_one (ps_ret (pe_lc (own := [("ring", 2)]) (g := gName 2) rfl sc_long_rings.nd (pi_list (pe_df T.rings_of (ok_rings_of T) (hr.mono (by decide)) (pa_cons (pv 0) pa_nil))) (blkOk_by (own := [("ring", 2)]) (N := n_long_rings) (sc := defScope s_long_rings) (by decide +kernel)) (fun _ _ _ _ _ => (pg_name (i := 2) sc_long_rings.nd rfl (.inl rfl))) (fun _ _ _ _ _ => (pts_one (pt_cmpR op_gt (pe_callB (call_lenK (K := K) rfl) (by rfl) T.m_len PySem.boot_len (pa_cons (pv 2) pa_nil)) (pv 1) (nomark _)))) (fun _ _ _ _ _ => (pv 2))))), ?_⟩
    refine ⟨_, rfl, a, ns, rfl, hS, g, hlen, fun H1 pr ps s1 npr epr R hpr => ⟨pr, rfl, ⟨_, .of epr⟩, fun D nD => ?_⟩⟩
    have nDp : D ∉ ps := fun h => by
      obtain ⟨r, _, e⟩ := R.at h
      rw [nD] at e
      cases e
    have nDH : H D = none := s1.free nD
    have nDr : D ≠ pr := fun e => by rw [e, epr] at nD; cases nD
    refine lc_list (K := K) (a := pr) (xs := ps.map V.ref) (fun i H3 => ∃ qs, H3 D = some (.lst (qs.map V.ref)) ∧ Same H1 H3 ∧ Rows H H3 qs (((ringsOf ns).take i).filter fun r => decide (m < r.length)) ∧ ∀ q ∈ qs, q ∈ ps.take i) ⟨[], upd_same, same_upd nD, Rows.nil, fun q h => by simp at h⟩ (fun i H3 _ h => ?_) (fun i x H3 hx h => ?_) (fun H3 h => ?_)
    · obtain ⟨qs, _, sm, _⟩ := h
      exact .of (sm _ _ epr)
    · obtain ⟨qs, eD, sm, R3, hq⟩ := h
      rw [List.getElem?_map] at hx
      obtain ⟨p, hp, rfl⟩ := Option.map_eq_some_iff.mp hx
      have hi : i < ps.length := (List.getElem?_eq_some_iff.mp hp).1
      have hi2 : i < (ringsOf ns).length := by rw [← R.len]; exact hi
      have er1 := R.row i p _ hp (List.getElem?_eq_getElem hi2)
      have er3 := sm _ _ er1
      have et : (ringsOf ns).take (i + 1) = (ringsOf ns).take i ++ [(ringsOf ns)[i]] := by
        rw [List.take_add_one, List.getElem?_eq_getElem hi2]; rfl
      have ep : ps.take (i + 1) = ps.take i ++ [p] := by
        rw [List.take_add_one, hp]; rfl
      refine ⟨rfl, _, rfl, p, _, rfl, .inl (.of er3), _, rfl, _, _, rfl, rfl, _, rfl, ite2 (fun e => ?_) (fun e => ?_)⟩
      · have hl : m < ((ringsOf ns)[i]).length := by
          have := of_decide_eq_true e
          rw [iv_len] at this
          omega
        refine ⟨_, rfl, _, eD, ?_, ?_⟩
        · rw [List.length_map, R3.len]
          have h1 : ((ringsOf ns).take i |>.filter fun r => decide (m < r.length)).length ≤ ((ringsOf ns).take i).length := List.length_filter_le _ _
          rw [List.length_take] at h1
          have h2 : (ringsOf ns).length ≤ ns.length := ringsTo_len ns ns.length
          exact szl (by omega)
        · have npq : p ∉ qs := fun h => by
            obtain ⟨j, hj⟩ := List.mem_iff_getElem?.mp (hq p h)
            rw [List.getElem?_take] at hj
            by_cases hji : j < i
            · rw [if_pos hji] at hj
              have := nd_ix R.nd hj hp
              omega
            · rw [if_neg hji] at hj
              cases hj
          have npD : D ≠ p := fun z => nDp (by rw [z]; exact List.mem_of_getElem? hp)
          have nDq : D ∉ qs := fun h => nDp (List.mem_of_mem_take (hq D h))
          refine ⟨qs ++ [p], ?_, same_mut sm nD, ?_, fun z hz => ?_⟩
          · rw [upd_same, List.map_append]; rfl
          · rw [et, List.filter_append, List.filter_cons_of_pos (by simpa using hl)]
            refine (R3.snoc er3 (R.new p (List.mem_of_getElem? hp)) npq).upd ?_
            intro h
            rcases List.mem_append.mp h with y | y
            · exact nDq y
            · simp at y; exact npD y
          · rw [ep]
            rcases List.mem_append.mp hz with y | y
            · exact List.mem_append_left _ (hq z y)
            · exact List.mem_append_right _ y
      · have hl : ¬ m < ((ringsOf ns)[i]).length := fun z => e (decide_eq_true (by rw [iv_len]; omega))
        refine ⟨qs, eD, sm, ?_, fun z hz => ?_⟩
        · rw [et, List.filter_append, List.filter_cons_of_neg (by simpa using hl), List.filter_nil, List.append_nil]
          exact R3
        · rw [ep]; exact List.mem_append_left _ (hq z hz)
    · obtain ⟨qs, eD, sm, R3, hq⟩ := h
      rw [List.length_map, R.len, List.take_length] at R3
      refine q H3 D qs (s1.trans sm) nDH eD R3 fun h => nDp ?_
      have := hq D h
      exact List.mem_of_mem_take this
end
end Sb
namespace Sb
open PySem PySem.Spec PyProof.Rows L2
section
variable {P : Program} {w : World} {K : PySem.W.Frag} {mg : Str → Option Value} {base : Heap}
/-! ### check_count: a count is let through -/
def spCount : Sp := fun vs H Q _ => ∃ (n m : Int), vs = [.int n, .int m] ∧ 1 ≤ m ∧ m ≤ n ∧ Q .non H
abbrev n_check_count : List Str := ["boxes", "most"]
theorem sc_check_count : FnScope n_check_count ["boxes", "most"] (defScope s_check_count) := ⟨rfl, rfl, rfl, by decide +kernel, rfl, by decide +kernel, by decide +kernel⟩
theorem ok_check_count (T : Tx K mg) : FnOk P w K mg base CX0 2 T.check_count.f T.check_count.fd ["boxes", "most"] spCount := by
  refine T.check_count.F.ok sc_check_count (fun vs H Q E h => ?_) (fun cdv A outer s H vs Q E hr h => ?_)
  · obtain ⟨n, m, rfl, _⟩ := h
    rfl
  · obtain ⟨n, m, rfl, h1, h2, q⟩ := h
    refine ⟨_, (pss_one (ps_if (PW.pt (pw_or (pt_not (pt_val (pe_df T.is_whole (ok_is_whole T) (hr.mono (by decide)) (pa_cons (pv 1) pa_nil)))) (pw_or1 (pt_not (pt_chain op_le op_le pe_int (pv 1) (pv 0))))))
      (pss_one ps_never)
      pss_nil)), ?_⟩
    refine ⟨_, rfl, .int m, "int", true, false, rfl, .base (.int _), by decide +kernel, by decide +kernel, _, rfl, iteF ?_⟩
    refine ⟨_, rfl, 1, m, rfl, rfl, _, rfl, ?_⟩
    rw [decide_eq_true h1]
    refine iteT ⟨_, rfl, m, n, rfl, rfl, _, rfl, ?_⟩
    rw [decide_eq_true h2]
    exact iteF q
end
end Sb
namespace Sb
open PySem PySem.Spec PyProof.Rows L2
theorem eqv_dI (a b : List Int) : PyData.eqv (dI a) (dI b) = decide (a = b) := by
  show PyData.eqv (PyData.list _) (PyData.list _) = _
  unfold PyData.eqv
  exact eqvI a b
theorem eq_ii {K : PySem.W.Frag} {H : Hp} {a b : Addr} {x y : List Int} {Q : VK} (ha : SqL K H a (x.map V.int)) (hb : SqL K H b (y.map V.int)) (q : Q (.bl (decide (x = y))) H) : rEqD K (.ref a) (.ref b) H Q :=
  ⟨dI x, dI y, dp_ints ha, dp_ints hb, shapedI x, shapedI y, by rw [eqv_dI]; exact q⟩
theorem ne_ii {K : PySem.W.Frag} {H : Hp} {a b : Addr} {x y : List Int} {Q : VK} (ha : SqL K H a (x.map V.int)) (hb : SqL K H b (y.map V.int)) (q : Q (.bl (!decide (x = y))) H) : rNeD K (.ref a) (.ref b) H Q :=
  ⟨dI x, dI y, dp_ints ha, dp_ints hb, shapedI x, shapedI y, by rw [eqv_dI]; exact q⟩
theorem cut_from1 (xs : List V) : cutV xs (some 1) none = xs.drop 1 := by
  unfold cutV
  rw [show HT.sIx xs.length 0 (some 1) = min 1 xs.length from HT.sIx_nat _ 0 1, HT.sIx_none]
  cases xs with
  | nil => rfl
  | cons x r =>
    rw [show min 1 (x :: r).length = 1 by rw [List.length_cons]; omega]
    rw [List.take_of_length_le]
    rw [List.length_drop]
    exact Nat.le_refl _
theorem ints_at {ns : List Int} {i : Nat} {x : Int} (h : ns[i]? = some x) : (ns.map V.int)[i]? = some (.int x) := by
  rw [List.getElem?_map, h]; rfl
theorem take_zip {r q : List Int} {i : Nat} {x y : Int} (hx : r[i]? = some x) (hy : q[i]? = some y) : (r.zip q).take (i + 1) = (r.zip q).take i ++ [(x, y)] := by
  have h : (r.zip q)[i]? = some (x, y) := List.getElem?_zip_eq_some.mpr ⟨hx, hy⟩
  rw [List.take_add_one, h]; rfl
theorem dec_int (a b : Int) : decide (V.int a = V.int b) = decide (a = b) := by
  rw [Bool.eq_iff_iff, decide_eq_true_iff, decide_eq_true_iff]
  constructor
  · intro h; injection h
  · intro h; rw [h]
theorem bool_iff {b c : Bool} {p : Prop} (h1 : b = true ↔ p) (h2 : c = true ↔ p) : b = c := by
  rw [Bool.eq_iff_iff]; exact h1.trans h2.symm
section
variable {P : Program} {w : World} {K : PySem.W.Frag} {mg : Str → Option Value} {base : Heap}
/-! ### is_ring -/
def Says (H : Hp) (Q : VK) (p : Prop) : Prop := ∀ (b : Bool) (H' : Hp), Same H H' → (b = true ↔ p) → Q (.bl b) H'
def spIsRing (K : PySem.W.Frag) : Sp := fun vs H Q _ => ∃ (a l : Addr) (ns : List Nat) (r : List Int), vs = [.ref a, .ref l] ∧ SqL K H a (iv ns) ∧ SqL K H l (r.map V.int) ∧ ns.length ≤ 100 ∧ r.length ≤ 4000 ∧ Says H Q (RingI ns r)
abbrev n_is_ring : List Str := ["boxes", "ring", "box", "one", "other"]
theorem sc_is_ring : FnScope n_is_ring ["boxes", "ring"] (defScope s_is_ring) := ⟨rfl, rfl, rfl, by decide +kernel, rfl, by decide +kernel, by decide +kernel⟩
theorem ok_is_ring (T : Tx K mg) : FnOk P w K mg base CX0 2 T.is_ring.f T.is_ring.fd ["boxes", "ring"] (spIsRing K) := by
  refine T.is_ring.F.ok sc_is_ring (fun vs H Q E h => ?_) (fun cdv A outer s H vs Q E hr h => ?_)
  · obtain ⟨a, l, ns, r, rfl, _⟩ := h
    rfl
  · obtain ⟨a, l, ns, r, rfl, hA, hL, hn, hr4, q⟩ := h
    refine ⟨_, (pss_cons (ps_if (PW.pt (pw_or (pt_cmpR (op_eqD hr.units) (pv 1) (pe_lst pa_nil) (nomark _)) (pw_or1 (pt_cmpR op_ne (pe_lenSetG (by rfl) T.m_len (by rfl) T.m_set (pv 1)) (pe_callB call_len_seq (by rfl) T.m_len (by decide +kernel) (pa_cons (pv 1) pa_nil)) (nomark _)))))
      (pss_one (ps_ret pe_bl))
      pss_nil)
    (pss_cons (ps_if (pt_not (pt_val (pe_callB (cr_all rfl) (by rfl) T.m_all (by decide +kernel) (pa_cons (pe_lc (own := [("box", 2)]) (g := gName 2) rfl sc_is_ring.nd (pi_list (pv 1)) (blkOk_by (own := [("box", 2)]) (N := n_is_ring) (sc := defScope s_is_ring) (by decide +kernel)) (fun _ _ _ _ _ => (pg_name (i := 2) sc_is_ring.nd rfl (.inl rfl))) (fun _ _ _ _ _ => pts_nil) (fun _ _ _ _ _ => (pe_and (pe_df T.is_whole (ok_is_whole T) (hr.mono (by decide)) (pa_cons (pv 2) pa_nil)) (pe_one (pe_chain op_le op_lt pe_int (pv 2) (pe_callB (call_lenK (K := K) rfl) (by rfl) T.m_len PySem.boot_len (pa_cons (pv 0) pa_nil))))))) pa_nil))))
      (pss_one (ps_ret pe_bl))
      pss_nil)
    (pss_one (ps_ret (pe_callB (cr_all rfl) (by rfl) T.m_all (by decide +kernel) (pa_cons (pe_lc (own := [("one", 3), ("other", 4)]) (g := gTup K 2 (gCons (gName 3) (gCons (gName 4) gNil))) rfl sc_is_ring.nd (pi_zip (by rfl) T.m_zip (pa_cons (pv 1) (pa_cons (pe_op op_cat (pe_slice sl_list (pv 1) (po_some pe_int) po_none) (pe_slice sl_list (pv 1) po_none (po_some pe_int))) pa_nil))) (blkOk_by (own := [("one", 3), ("other", 4)]) (N := n_is_ring) (sc := defScope s_is_ring) (by decide +kernel)) (fun _ _ _ _ _ => (pg_tup rfl (pgs_cons (pg_name (i := 3) sc_is_ring.nd rfl (.inl rfl)) (pgs_cons (pg_name (i := 4) sc_is_ring.nd rfl (.inl rfl)) pgs_nil)))) (fun _ _ _ _ _ => pts_nil) (fun _ _ _ _ _ => (pe_cmpR op_eq (pe_ix (ix_listK (K := K) rfl) (pv 0) (pv 3) (fun _ _ => rfl)) (pv 4) (nomark _)))) pa_nil)))))), ?_⟩
    refine ⟨_, rfl, Nat.zero_le _, fun p np => ?_⟩
    have s1 := same_upd (o := .lst []) np
    refine eq_ii (y := []) (s1.seq hL) (.of upd_same) ⟨_, rfl, ite2 (fun e => ?_) (fun e => ?_)⟩
    · have e1 : r = [] := of_decide_eq_true e
      refine q false _ s1 ⟨fun z => Bool.noConfusion z, fun z => ?_⟩
      exact absurd e1 (ringI_steps.mp z).1
    have hne : r ≠ [] := fun z => e (decide_eq_true z)
    refine ⟨_, rfl, l, r, rfl, s1.seq hL, hr4, fun k hk => ⟨_, rfl, l, _, rfl, .inl (s1.seq hL), rfl, _, rfl, ite2 (fun e => ?_) (fun e => ?_)⟩⟩
    · refine q false _ s1 ⟨fun z => Bool.noConfusion z, fun z => ?_⟩
      have nd := (ringI_steps.mp z).2.1
      rw [hk.mpr nd, List.length_map] at e
      simp at e
    have nd : r.Nodup := by
      apply hk.mp
      have : V.int (k : Int) = V.int (((r.map V.int).length : Nat) : Int) := by
        cases hd : decide (V.int (k : Int) = V.int (((r.map V.int).length : Nat) : Int)) with
        | true => exact of_decide_eq_true hd
        | false => rw [hd] at e; exact absurd rfl e
      injection this with this
      rw [List.length_map] at this
      omega
    -- all boxes
    refine ⟨_, rfl, l, rfl, ⟨_, s1.seq hL⟩, fun D nD => ?_⟩
    refine lc_list (K := K) (a := l) (xs := r.map V.int) (fun i H3 => Same H H3 ∧ H3 D = some (.lst (((r.take i).map fun x => decide (0 ≤ x) && decide (x < (ns.length : Int))).map V.bl))) ⟨s1.trans (same_upd nD), upd_same⟩ (fun i H3 _ h => h.1.seq hL) (fun i x H3 hx h => ?_) (fun H3 h => ?_)
    · obtain ⟨sm, eD⟩ := h
      rw [List.getElem?_map] at hx
      obtain ⟨z, hz, rfl⟩ := Option.map_eq_some_iff.mp hx
      have hi : i < r.length := (List.getElem?_eq_some_iff.mp hz).1
      have nDH : H D = none := s1.free nD
      have fin : ∀ b : Bool, b = (decide (0 ≤ z) && decide (z < (ns.length : Int))) → ∃ acc, H3 D = some (.lst acc) ∧ acc.length < sizeLine ∧ (Same H (upd H3 D (.lst (acc ++ [.bl b]))) ∧ (upd H3 D (.lst (acc ++ [.bl b]))) D = some (.lst (((r.take (i + 1)).map fun x => decide (0 ≤ x) && decide (x < (ns.length : Int))).map V.bl))) := fun b hb => by
        refine ⟨_, eD, ?_, same_mut sm nDH, ?_⟩
        · rw [List.length_map, List.length_map, List.length_take]
          exact szl (by omega)
        · rw [upd_same, List.take_add_one, hz, hb, List.map_append, List.map_append]
          rfl
      refine ⟨rfl, _, rfl, .int z, "int", true, false, rfl, .base (.int _), by decide +kernel, by decide +kernel, true, rfl, ?_⟩
      rw [if_pos rfl]
      refine ⟨_, rfl, 0, z, rfl, rfl, _, rfl, ite2 (fun e => ?_) (fun e => ?_)⟩
      · refine ⟨_, rfl, a, _, rfl, .inl (sm.seq hA), z, _, rfl, rfl, fin _ ?_⟩
        rw [iv_len, show decide (0 ≤ z) = true from e, Bool.true_and]
      · refine fin _ ?_
        have e' : decide (0 ≤ z) = false := by
          cases hd : decide (0 ≤ z) with
          | true => exact absurd hd e
          | false => rfl
        rw [e', Bool.false_and]
    obtain ⟨sm, eD⟩ := h
    rw [List.length_map, List.take_length] at eD
    have eall : (r.map fun x => decide (0 ≤ x) && decide (x < (ns.length : Int))).all id = true ↔ ∀ x ∈ r, 0 ≤ x ∧ x < (ns.length : Int) := by
      rw [List.all_map, List.all_eq_true]
      constructor
      · intro h x hx
        have := h x hx
        simpa using this
      · intro h x hx
        have := h x hx
        simpa using this
    refine ⟨D, _, rfl, .of eD, _, rfl, ?_⟩
    generalize (r.map fun x => decide (0 ≤ x) && decide (x < (ns.length : Int))).all id = ball at eall
    cases ball with
    | false =>
      refine iteT ?_
      refine q false _ sm ⟨fun z => Bool.noConfusion z, fun z => ?_⟩
      have := eall.mpr (ringI_steps.mp z).2.2.1
      cases this
    | true =>
      refine iteF ?_
      have lt := eall.mp rfl
      -- zip(ring, ring[1:] + ring[:1])
      have hL3 := sm.seq hL
      refine ⟨_, rfl, _, rfl, 1, rfl, l, _, rfl, hL3, fun p1 n1 => ?_⟩
      rw [cut_from1]
      have s2 := same_upd (o := .lst ((r.map V.int).drop 1)) n1
      refine ⟨_, rfl, 1, rfl, l, _, rfl, s2.seq hL3, fun p2 n2 => ?_⟩
      rw [show (1 : Int) = ((1 : Nat) : Int) from rfl, cut_to]
      have s3 := same_upd (o := .lst ((r.map V.int).take 1)) n2
      refine ⟨p1, p2, _, _, rfl, rfl, s3 _ _ upd_same, upd_same, ?_, fun p3 n3 => ?_⟩
      · rw [List.length_drop, List.length_take, List.length_map]
        exact sz (by omega)
      rw [show (r.map V.int).drop 1 ++ (r.map V.int).take 1 = (r.drop 1 ++ r.take 1).map V.int by rw [List.map_append, List.map_drop, List.map_take]]
      have s4 := same_upd (o := .lst ((r.drop 1 ++ r.take 1).map V.int)) n3
      have sA := ((sm.trans s2).trans s3).trans s4
      have hrl : (r.drop 1 ++ r.take 1).length = r.length := by
        rw [List.length_append, List.length_drop, List.length_take]
        omega
      refine ⟨l, p3, r.map V.int, (r.drop 1 ++ r.take 1).map V.int, rfl, sA.seq hL, .of upd_same, fun D2 nD2 => ?_⟩
      refine lc_it (walk_zip (K := K) (a := l) (b := p3) (xs := r.map V.int) (ys := (r.drop 1 ++ r.take 1).map V.int) (n := r.length) (by rw [List.length_map, List.length_map, hrl, Nat.min_self]))
        (fun i H5 => Same H H5 ∧ H5 p3 = some (.lst ((r.drop 1 ++ r.take 1).map V.int)) ∧ H5 D2 = some (.lst ((((r.zip (r.drop 1 ++ r.take 1)).take i).map fun p => decide (((nxt ns p.1.toNat : Nat) : Int) = p.2)).map V.bl)))
        ⟨sA.trans (same_upd nD2), same_upd nD2 _ _ upd_same, upd_same⟩ (fun i H5 _ h => ⟨h.1.seq hL, .of h.2.1⟩) (fun i x H5 H6 hi h hy => ?_) (fun H5 h => ?_)
      · obtain ⟨sm5, ep5, eD5⟩ := h
        obtain ⟨t, x1, y1, rfl, nt, rfl, hx1, hy1⟩ := hy
        dsimp only at hx1 hy1
        rw [List.getElem?_map] at hx1 hy1
        obtain ⟨xi, hxi, rfl⟩ := Option.map_eq_some_iff.mp hx1
        obtain ⟨yi, hyi, rfl⟩ := Option.map_eq_some_iff.mp hy1
        have s6 := same_upd (o := .tup [V.int xi, V.int yi]) nt
        have hx2 := lt xi (List.mem_of_getElem? hxi)
        have nDH : H D2 = none := sA.free nD2
        have at1 : atI (iv ns) xi = some (.int ((nxt ns xi.toNat : Nat) : Int)) := by
          have : xi = ((xi.toNat : Nat) : Int) := by omega
          rw [this, Int.toNat_natCast]
          exact iv_at (nxt_get? (by omega))
        refine ⟨t, _, rfl, .of upd_same, rfl, _, _, rfl, _, _, rfl, rfl, rfl, ?_⟩
        refine ⟨_, rfl, _, rfl, a, _, xi, _, rfl, rfl, s6.seq (sm5.seq hA), at1, _, rfl, rfl, _, s6 _ _ eD5, ?_, ?_⟩
        · rw [List.length_map, List.length_map, List.length_take, List.length_zip]
          exact szl (by omega)
        · have np3 : p3 ≠ D2 := fun e => by rw [← e, upd_same] at nD2; cases nD2
          refine ⟨same_mut (sm5.trans s6) nDH, ?_, ?_⟩
          · rw [upd_ne np3]; exact s6 _ _ ep5
          · rw [upd_same, take_zip hxi hyi, List.map_append, List.map_append]
            show _ = some (HO.lst (_ ++ [V.bl (decide (((nxt ns xi.toNat : Nat) : Int) = yi))]))
            rw [dec_int]
      · obtain ⟨sm5, ep5, eD5⟩ := h
        rw [List.take_of_length_le (by rw [List.length_zip]; omega)] at eD5
        refine ⟨D2, _, rfl, .of eD5, q _ _ sm5 ?_⟩
        rw [ringI_steps, List.all_map, List.all_eq_true]
        constructor
        · intro h
          refine ⟨hne, nd, lt, fun i x y hx hy => ?_⟩
          have := h (x, y) (List.mem_of_getElem? (List.getElem?_zip_eq_some.mpr ⟨hx, hy⟩))
          simpa using this
        · rintro ⟨_, _, _, h⟩ ⟨x, y⟩ hxy
          obtain ⟨i, hi⟩ := List.mem_iff_getElem?.mp hxy
          obtain ⟨hx, hy⟩ := List.getElem?_zip_eq_some.mp hi
          have := h i x y hx hy
          simpa using this
end
end Sb
namespace Sb
open PySem PySem.Spec PyProof.Rows L2
section
variable {P : Program} {w : World} {K : PySem.W.Frag} {mg : Str → Option Value} {base : Heap}
theorem Says.back {H H1 : Hp} {Q : VK} {p : Prop} (s : Same H H1) (q : Says H Q p) : Says H1 Q p := fun b H' s' h => q b H' (s.trans s') h
/-! ### All.shows -/
def spAllS (K : PySem.W.Frag) : Sp := fun vs H Q _ => ∃ (x : V) (a : Addr) (ns : List Nat) (m : Nat), vs = [x, .ref a, .int (m : Int)] ∧ SqL K H a (iv ns) ∧ Good ns ∧ ns.length ≤ 100 ∧ Says H Q (Short ns m)
abbrev n_All_shows : List Str := ["self", "boxes", "most"]
theorem sc_All_shows : FnScope n_All_shows ["self", "boxes", "most"] (defScope s_All_shows) := ⟨rfl, rfl, rfl, by decide +kernel, rfl, by decide +kernel, by decide +kernel⟩
theorem ok_All_shows (T : Tx K mg) : FnOk P w K mg base CX0 4 T.All_shows.f T.All_shows.fd ["self", "boxes", "most"] (spAllS K) := by
  refine T.All_shows.F.ok sc_All_shows (fun vs H Q E h => ?_) (fun cdv A outer s H vs Q E hr h => ?_)
  · obtain ⟨x, a, ns, m, rfl, _⟩ := h
    rfl
  · obtain ⟨x, a, ns, m, rfl, hA, g, hn, q⟩ := h
    refine ⟨_, (pss_one (ps_ret (pe_cmpR (op_eqD hr.units) (pe_df T.long_rings (ok_long_rings T) (hr.mono (by decide)) (pa_cons (pv 1) (pa_cons (pv 2) pa_nil))) (pe_lst pa_nil) (nomark _)))), ?_⟩
    refine ⟨_, rfl, _, rfl, a, ns, m, rfl, hA, g, hn, fun H1 p ps s1 np ep R hp => ?_⟩
    refine ⟨Nat.zero_le _, fun z nz => ?_⟩
    have s2 := same_upd (o := .lst []) nz
    refine eq_rows (x := longOf ns m) (y := []) ((R.sees ep).same s2) ⟨[], .of upd_same, rfl, fun i q r h _ => by simp at h⟩ (q _ _ (s1.trans s2) ?_)
    rw [decide_eq_true_iff]
    exact longOf_nil g
/-! ### Long -/
def spLongI (C : Addr) (K : PySem.W.Frag) : Sp := fun vs H Q _ => ∃ (x l0 dx : Addr) (xs : List V), vs = [.ref x, .ref l0] ∧ H x = some (.ins C dx []) ∧ SqL K H l0 xs ∧ ∀ l, H l = none → Q .non (upd (upd H l (.lst xs)) x (.ins C dx [("ring", .ref l)]))
abbrev n_Long___init__ : List Str := ["self", "ring"]
theorem sc_Long___init__ : FnScope n_Long___init__ ["self", "ring"] (defScope s_Long___init__) := ⟨rfl, rfl, rfl, by decide +kernel, rfl, by decide +kernel, by decide +kernel⟩
theorem ok_Long_init (T : Tx K mg) : FnOk P w K mg base CX0 1 T.Long_init.f T.Long_init.fd ["self", "ring"] (spLongI T.Long.C K) := by
  refine T.Long_init.F.ok sc_Long___init__ (fun vs H Q E h => ?_) (fun cdv A outer s H vs Q E hr h => ?_)
  · obtain ⟨x, l0, dx, xs, rfl, _⟩ := h
    rfl
  · obtain ⟨x, l0, dx, xs, rfl, hx, hL, q⟩ := h
    refine ⟨_, (pss_one (ps_fld (pv 0) (pe_callTy call_list_of (by rfl) T.m_list (by decide +kernel) (pa_cons (pv 1) pa_nil)) rfl)), ?_⟩
    refine ⟨_, rfl, l0, _, rfl, .inl hL, fun l nl => ?_⟩
    have nxl : x ≠ l := ne_of_none hx nl
    exact ⟨_, rfl, x, T.Long.C, dx, [], rfl, by rw [upd_ne nxl]; exact hx, T.Long.cl, T.n_Long_ring, by decide, q l nl⟩
def spLongS (C : Addr) (K : PySem.W.Frag) : Sp := fun vs H Q _ => ∃ (x a l dx : Addr) (ns : List Nat) (r : List Int) (m : Nat), vs = [.ref x, .ref a, .int (m : Int)] ∧ H x = some (.ins C dx [("ring", .ref l)]) ∧ SqL K H l (r.map V.int) ∧ SqL K H a (iv ns) ∧ ns.length ≤ 100 ∧ r.length ≤ 4000 ∧ Says H Q (RingI ns r ∧ m < r.length)
theorem lk_ring {l : Addr} : List.lookup ("ring" : Str) [(("ring" : Str), V.ref l)] = some (V.ref l) := by simp [List.lookup]
abbrev n_Long_shows : List Str := ["self", "boxes", "most"]
theorem sc_Long_shows : FnScope n_Long_shows ["self", "boxes", "most"] (defScope s_Long_shows) := ⟨rfl, rfl, rfl, by decide +kernel, rfl, by decide +kernel, by decide +kernel⟩
theorem ok_Long_shows (T : Tx K mg) : FnOk P w K mg base CX0 3 T.Long_shows.f T.Long_shows.fd ["self", "boxes", "most"] (spLongS T.Long.C K) := by
  refine T.Long_shows.F.ok sc_Long_shows (fun vs H Q E h => ?_) (fun cdv A outer s H vs Q E hr h => ?_)
  · obtain ⟨x, a, l, dx, ns, r, m, rfl, _⟩ := h
    rfl
  · obtain ⟨x, a, l, dx, ns, r, m, rfl, hx, hL, hA, hn, hr4, q⟩ := h
    refine ⟨_, (pss_one (ps_ret (pe_and (pe_df T.is_ring (ok_is_ring T) (hr.mono (by decide)) (pa_cons (pv 1) (pa_cons (pe_fld (pv 0) rfl) pa_nil))) (pe_one (pe_cmpR op_gt (pe_callB call_len_seq (by rfl) T.m_len (by decide +kernel) (pa_cons (pe_fld (pv 0) rfl) pa_nil)) (pv 2) (nomark _)))))), ?_⟩
    refine ⟨_, rfl, _, rfl, x, T.Long.C, dx, _, _, rfl, hx, T.Long.cl, T.n_Long_ring, lk_ring, a, l, ns, r, rfl, hA, hL, hn, hr4, fun b H1 s1 hb => ⟨b, rfl, ite2 (fun e => ?_) (fun e => ?_)⟩⟩
    · refine ⟨_, rfl, x, T.Long.C, dx, _, _, rfl, s1 _ _ hx, T.Long.cl, T.n_Long_ring, lk_ring, l, _, rfl, .inl (s1.seq hL), _, rfl, _, _, rfl, rfl, q _ _ s1 ?_⟩
      rw [decide_eq_true_iff, List.length_map]
      constructor
      · intro h; exact ⟨hb.mp e, by omega⟩
      · rintro ⟨_, h⟩; omega
    · refine q _ _ s1 ⟨fun z => Bool.noConfusion z, fun z => absurd (hb.mpr z.1) e⟩
/-! ### what an All, a Long says -/
/-- at x an All, or a Long of the numbers r -/
def JAt (T : Tx K mg) (H : Hp) (x : Addr) : Option (List Int) → Prop
  | none => ∃ dx, H x = some (.ins T.All.C dx [])
  | some r => ∃ dx l, H x = some (.ins T.Long.C dx [("ring", .ref l)]) ∧ H l = some (.lst (r.map V.int)) ∧ r.length ≤ 4000
def JDue (ns : List Nat) (m : Nat) : Option (List Int) → Prop
  | none => Short ns m
  | some r => RingI ns r ∧ m < r.length
theorem JAt.same {T : Tx K mg} {H H' : Hp} {x : Addr} {o : Option (List Int)} (j : JAt T H x o) (s : Same H H') : JAt T H' x o := by
  cases o with
  | none =>
    obtain ⟨dx, e⟩ := j
    exact ⟨dx, s _ _ e⟩
  | some r =>
    obtain ⟨dx, l, e1, e2, e3⟩ := j
    exact ⟨dx, l, s _ _ e1, s _ _ e2, e3⟩
end
end Sb
namespace Sb
open PySem PySem.Spec PyProof.Rows L2
section
variable {P : Program} {w : World} {K : PySem.W.Frag} {mg : Str → Option Value} {base : Heap}
/-! ### judged -/
structure JNew (T : Tx K mg) (H H' : Hp) (ns : List Nat) (m : Nat) (x : Addr) (o : Option (List Int)) : Prop where
  same : Same H H'
  new : H x = none
  at_ : JAt T H' x o
  none_iff : o = none ↔ Short ns m
  ring : ∀ r, o = some r → (∃ h, h < ns.length ∧ r = (ringOf ns h).map fun (n : Nat) => (n : Int)) ∧ m < r.length
  fresh : ∀ dx l, H' x = some (.ins T.Long.C dx [("ring", .ref l)]) → H l = none
theorem JNew.due {T : Tx K mg} {H H' : Hp} {ns : List Nat} {m : Nat} {x : Addr} {o : Option (List Int)} (j : JNew T H H' ns m x o) (g : Good ns) : JDue ns m o := by
  cases o with
  | none => exact j.none_iff.mp rfl
  | some r =>
    obtain ⟨⟨h, hh, e⟩, hl⟩ := j.ring r rfl
    refine ⟨?_, hl⟩
    rw [e]
    exact ringOf_ringI g hh
def spJudged (T : Tx K mg) : Sp := fun vs H Q _ => ∃ (a : Addr) (ns : List Nat) (m : Nat), vs = [.ref a, .int (m : Int)] ∧ SqL K H a (iv ns) ∧ Good ns ∧ 1 ≤ m ∧ m ≤ ns.length ∧ ns.length ≤ 40 ∧ ∀ H' x o, JNew T H H' ns m x o → Q (.ref x) H'
abbrev n_judged : List Str := ["boxes", "most", "found"]
theorem sc_judged : FnScope n_judged ["boxes", "most"] (defScope s_judged) := ⟨rfl, rfl, rfl, by decide +kernel, rfl, by decide +kernel, by decide +kernel⟩
theorem ok_judged (T : Tx K mg) : FnOk P w K mg base CX0 5 T.judged.f T.judged.fd ["boxes", "most"] (spJudged T) := by
  refine T.judged.F.ok sc_judged (fun vs H Q E h => ?_) (fun cdv A outer s H vs Q E hr h => ?_)
  · obtain ⟨a, ns, m, rfl, _⟩ := h
    rfl
  · obtain ⟨a, ns, m, rfl, hA, g, h1, h2, h3, q⟩ := h
    refine ⟨_, (pss_cons (ps_expr (pe_df T.check_boxes (ok_check_boxes T) (hr.mono (by decide)) (pa_cons (pv 0) (pa_cons (pe_glob (v := .int 40) rfl T.c_MOST ⟨_, rfl⟩) pa_nil))))
    (pss_cons (ps_expr (pe_df T.check_count (ok_check_count T) (hr.mono (by decide)) (pa_cons (pe_callB call_len_seq (by rfl) T.m_len (by decide +kernel) (pa_cons (pv 0) pa_nil)) (pa_cons (pv 1) pa_nil))))
    (pss_cons (ps_set (i := 2) sc_judged.nd rfl (.inl rfl) (pe_df T.long_rings (ok_long_rings T) (hr.mono (by decide)) (pa_cons (pv 0) (pa_cons (pv 1) pa_nil))))
    (pss_one (ps_ret (pe_ifExp (pt_cmpR (op_eqD hr.units) (pv 2) (pe_lst pa_nil) (nomark _)) (pe_bare T.All.g T.All.kp T.All.mks T.i_All) (pe_make (T.Long.mak T.Long_init) (ok_Long_init T) (hr.mono (by decide)) (by rfl) T.Long.g T.Long_init.b .nil pass0 (pa_cons (pe_ix ix_list (pv 2) pe_int (fun _ _ => rfl)) pa_nil)))))))), ?_⟩
    refine ⟨_, rfl, a, ns, 40, rfl, hA, g, by omega, by omega, by omega, fun H1 s1 => ?_⟩
    refine ⟨_, rfl, a, _, rfl, .inl (s1.seq hA), _, rfl, _, m, rfl, by omega, by rw [iv_len]; omega, ?_⟩
    refine ⟨_, rfl, _, rfl, a, ns, m, rfl, s1.seq hA, g, by omega, fun H2 p ps s2 np ep R hp => ?_⟩
    refine ⟨_, rfl, Nat.zero_le _, fun z nz => ?_⟩
    have s3 := same_upd (o := .lst []) nz
    have sA := (s1.trans s2).trans s3
    refine eq_rows (x := longOf ns m) (y := []) ((R.sees ep).same s3) ⟨[], .of upd_same, rfl, fun i q r h _ => by simp at h⟩ ⟨_, rfl, ite2 (fun e => ?_) (fun e => ?_)⟩
    · have sh : Short ns m := (longOf_nil g).mp (of_decide_eq_true e)
      refine fun x dx nx ndx hne => q _ x none ⟨?_, sA.free nx, ⟨dx, upd_same⟩, ⟨fun _ => sh, fun _ => rfl⟩, fun r hr => (nomatch hr), fun dx l z => ?_⟩
      · intro b o hb
        rw [upd_ne (ne_of_none (sA _ _ hb) nx), upd_ne (ne_of_none (sA _ _ hb) ndx)]
        exact sA _ _ hb
      · rw [upd_same] at z
        injection z with z
        injection z with _ _ z
        cases z
    · have hne : longOf ns m ≠ [] := fun z => e (decide_eq_true z)
      obtain ⟨r0, rest, er⟩ := List.exists_cons_of_ne_nil hne
      have hps : ps ≠ [] := fun z => by
        have := R.len
        rw [z, er] at this
        simp at this
      obtain ⟨p0, prest, epp⟩ := List.exists_cons_of_ne_nil hps
      obtain ⟨k, hk, _, e0, hl⟩ := longOf_mem (r := r0) (by rw [er]; exact List.mem_cons_self)
      have er0 := R.row 0 p0 r0 (by rw [epp]; rfl) (by rw [er]; rfl)
      refine ⟨_, rfl, p, _, 0, .ref p0, rfl, rfl, .of (s3 _ _ ep), by rw [epp]; exact atI_nat (j := 0) rfl, fun x dx nx ndx hne => ?_⟩
      have sx : Same H (upd (upd (upd H2 z (.lst [])) dx (.own x)) x (.ins T.Long.C dx [])) := by
        intro b o hb
        rw [upd_ne (ne_of_none (sA _ _ hb) nx), upd_ne (ne_of_none (sA _ _ hb) ndx)]
        exact sA _ _ hb
      have ep0 : (upd (upd (upd H2 z (.lst [])) dx (.own x)) x (.ins T.Long.C dx [])) p0 = some (.lst (iv r0)) := by
        have z0 := s3 _ _ er0
        rw [upd_ne (ne_of_none z0 nx), upd_ne (ne_of_none z0 ndx)]
        exact z0
      refine ⟨x, p0, dx, _, rfl, upd_same, .of ep0, fun l nl => ⟨rfl, ?_⟩⟩
      have nxl : l ≠ x := fun e => by rw [e, upd_same] at nl; cases nl
      rw [e0] at hl
      have hk4 : ((ringOf ns k).map fun (n : Nat) => (n : Int)).length ≤ 4000 := by
        rw [List.length_map]
        have := ringOf_len g hk
        omega
      refine q _ x (some ((ringOf ns k).map fun (n : Nat) => (n : Int))) ⟨?_, sA.free nx, ⟨dx, l, upd_same, ?_, hk4⟩, ⟨fun z => (nomatch z), fun z => ?_⟩, fun r hr => ?_, fun dx2 l2 z => ?_⟩
      · exact same_mut (sx.trans (same_upd nl)) (sA.free nx)
      · rw [upd_ne nxl, upd_same, e0, iv_eq]
      · have := z k hk
        omega
      · cases hr
        exact ⟨⟨k, hk, rfl⟩, by rw [List.length_map]; exact hl⟩
      · rw [upd_same] at z
        injection z with z
        injection z with _ _ z
        injection z with z _
        injection z with _ z
        injection z with z
        rw [← z]
        exact sx.free nl
end
end Sb
namespace Sb
open PySem PySem.Spec PyProof.Rows L2
/-! ### rules in a comprehension's block: the written part told -/
section
variable {X : Cx} {K : PySem.W.Frag} {e : Expr} {ta : TE} {f : Str} {pos : Pos}
theorem pe_fldK (h : X.K = K) (he : PE X e ta) (hb : attributeBase e f X.env (eval e X.env) = eval e X.env) : PE X (.Attribute e f pos) (tFld K ta f) := by subst h; exact pe_fld he hb
theorem op_in_seqK (h : X.K = K) : OpR X (compareOp .In) (rIn K false) := by subst h; exact op_in_seq
theorem op_notIn_seqK (h : X.K = K) : OpR X (compareOp .NotIn) (rIn K true) := by subst h; exact op_notIn_seq
theorem sl_listK (h : X.K = K) : SlR X (rSlL K) := by subst h; exact sl_list
end
end Sb
namespace Sb
open PySem PySem.Spec PyProof.Rows L2
theorem ixN_nat {n i : Nat} (h : i < n) : ixN n (i : Int) = some i := by
  unfold ixN
  rw [if_pos (by omega), if_pos (by omega), Int.toNat_natCast]
theorem set_iv (ns : List Nat) (i x : Nat) : (iv ns).set i (.int (x : Int)) = iv (ns.set i x) := (List.map_set ..).symm
section
variable {P : Program} {w : World} {K : PySem.W.Frag} {mg : Str → Option Value} {base : Heap}
/-! ### exchanged -/
def spExch (K : PySem.W.Frag) : Sp := fun vs H Q _ => ∃ (a : Addr) (ns : List Nat) (i j : Nat), vs = [.ref a, .int (i : Int), .int (j : Int)] ∧ SqL K H a (iv ns) ∧ i < ns.length ∧ j < ns.length ∧ NewL H Q (exch ns i j)
abbrev n_exchanged : List Str := ["boxes", "one", "other", "found"]
theorem sc_exchanged : FnScope n_exchanged ["boxes", "one", "other"] (defScope s_exchanged) := ⟨rfl, rfl, rfl, by decide +kernel, rfl, by decide +kernel, by decide +kernel⟩
theorem ok_exchanged (T : Tx K mg) : FnOk P w K mg base CX0 1 T.exchanged.f T.exchanged.fd ["boxes", "one", "other"] (spExch K) := by
  refine T.exchanged.F.ok sc_exchanged (fun vs H Q E h => ?_) (fun cdv A outer s H vs Q E hr h => ?_)
  · obtain ⟨a, ns, i, j, rfl, _⟩ := h
    rfl
  · obtain ⟨a, ns, i, j, rfl, hA, hi, hj, q⟩ := h
    refine ⟨_, (pss_cons (ps_set (i := 3) sc_exchanged.nd rfl (.inl rfl) (pe_callTy call_list_of (by rfl) T.m_list (by decide +kernel) (pa_cons (pv 0) pa_nil)))
    (pss_cons (ps_asg (pe_tup (pa_cons (pe_ix ix_list (pv 0) (pv 2) (fun _ _ => rfl)) (pa_cons (pe_ix ix_list (pv 0) (pv 1) (fun _ _ => rfl)) pa_nil))) (pg_tup rfl (pgs_cons (pg_sub (pv 3) (pv 1) set_list) (pgs_cons (pg_sub (pv 3) (pv 2) set_list) pgs_nil))))
    (pss_one (ps_ret (pv 3))))), ?_⟩
    refine ⟨_, rfl, a, _, rfl, .inl hA, fun p np => ?_⟩
    have s1 := same_upd (o := .lst (iv ns)) np
    have hA1 := s1.seq hA
    refine ⟨_, rfl, _, rfl, a, _, _, _, rfl, rfl, hA1, iv_at (nxt_get? hj), _, rfl, _, rfl, a, _, _, _, rfl, rfl, hA1, iv_at (nxt_get? hi), sz (by simp), fun t nt => ?_⟩
    have ntp : p ≠ t := fun e => by rw [e, upd_same] at nt; cases nt
    refine ⟨t, _, rfl, .of upd_same, rfl, _, _, rfl, _, rfl, _, rfl, p, _, _, i, rfl, rfl, by rw [upd_ne ntp]; exact upd_same, by rw [iv_len]; exact ixN_nat hi, ?_⟩
    refine ⟨_, _, rfl, _, rfl, _, rfl, p, _, _, j, rfl, rfl, upd_same, by rw [List.length_set, iv_len]; exact ixN_nat hj, rfl, ?_⟩
    refine ⟨_, rfl, q _ p (same_mut (same_mut (s1.trans (same_upd nt)) np) np) np ?_⟩
    rw [upd_same, set_iv, set_iv]
    rfl
end
end Sb
namespace Sb
open PySem PySem.Spec PyProof.Rows L2
theorem lk_one {v u : V} : List.lookup ("one" : Str) [(("one" : Str), v), (("other" : Str), u)] = some v := by simp [List.lookup]
theorem lk_other {v u : V} : List.lookup ("other" : Str) [(("one" : Str), v), (("other" : Str), u)] = some u := by
  have h : (("other" : Str) == ("one" : Str)) = false := by decide +kernel
  simp only [List.lookup, h]
  simp
theorem lk_rings {v : V} : List.lookup ("rings" : Str) [(("rings" : Str), v)] = some v := by simp [List.lookup]
theorem inV_ints (ns : List Int) (x : Int) : inV (.int x) (ns.map V.int) = decide (x ∈ ns) := by
  unfold inV
  rw [Bool.eq_iff_iff, List.any_eq_true, decide_eq_true_iff]
  constructor
  · rintro ⟨v, hv, e⟩
    obtain ⟨n, hn, rfl⟩ := List.mem_map.mp hv
    have : n = x := by
      have e' : eqV (V.int n) (V.int x) = true := e
      simpa [eqV] using e'
    subst this; exact hn
  · intro h
    refine ⟨_, List.mem_map.mpr ⟨x, h, rfl⟩, ?_⟩
    simp [eqV]
theorem bts2 {c : Int} (h1 : -(2 ^ 64) < c) (h2 : c < 2 ^ 64) : Builtin.Int.intBits c ≤ 64 := PySem.intBits_le_64 h1 h2
theorem flat_ints (ns : List Int) : (ns.map V.int).all flatV = true := by
  rw [List.all_eq_true]
  intro v hv
  obtain ⟨n, _, rfl⟩ := List.mem_map.mp hv
  rfl
/-- rows of whole numbers that are read, at ps -/
structure SeesI (K : PySem.W.Frag) (H : Hp) (l : Addr) (ps : List Addr) (rs : List (List Int)) : Prop where
  at_ : SqL K H l (ps.map V.ref)
  len : ps.length = rs.length
  row : ∀ (i : Nat) (q : Addr) (r : List Int), ps[i]? = some q → rs[i]? = some r → SqL K H q (r.map V.int)
theorem SeesI.same {K : PySem.W.Frag} {H H' : Hp} {l : Addr} {ps : List Addr} {rs : List (List Int)} (S : SeesI K H l ps rs) (s : Same H H') : SeesI K H' l ps rs :=
  ⟨s.seq S.at_, S.len, fun i q r a b => s.seq (S.row i q r a b)⟩
theorem SeesI.get {K : PySem.W.Frag} {H : Hp} {l : Addr} {ps : List Addr} {rs : List (List Int)} (S : SeesI K H l ps rs) {i : Nat} {r : List Int} (h : rs[i]? = some r) : ∃ q, atI (ps.map V.ref) (i : Int) = some (.ref q) ∧ SqL K H q (r.map V.int) := by
  have hi : i < ps.length := by rw [S.len]; exact (List.getElem?_eq_some_iff.mp h).1
  refine ⟨ps[i], atI_nat ?_, S.row i _ r (List.getElem?_eq_getElem hi) h⟩
  rw [List.getElem?_map, List.getElem?_eq_getElem hi]; rfl
theorem Rows.seesI {K : PySem.W.Frag} {H H' : Hp} {p : Addr} {ps : List Addr} {rs : List (List Nat)} (R : Rows H H' ps rs) (hp : H' p = some (.lst (ps.map V.ref))) : SeesI K H' p ps (rs.map castN) := by
  refine ⟨.of hp, by rw [List.length_map]; exact R.len, fun i q r h1 h2 => ?_⟩
  rw [List.getElem?_map] at h2
  obtain ⟨r0, h0, rfl⟩ := Option.map_eq_some_iff.mp h2
  have := R.row i q r0 h1 h0
  rw [iv_eq] at this
  exact .of this
section
variable {P : Program} {w : World} {K : PySem.W.Frag} {mg : Str → Option Value} {base : Heap}
/-- list(..) in a comprehension's block: the written part told -/
def rListK (K : PySem.W.Frag) : List V → Hp → VK → Prop := fun xs H Q => ∃ p ys, xs = [V.ref p] ∧ (SqL K H p ys ∨ SqT K H p ys) ∧ ∀ l : Addr, H l = none → Q (V.ref l) (upd H l (HO.lst ys))
theorem call_list_ofK {X : Cx} {K : PySem.W.Frag} (h : X.K = K) : CallR X (.type "list") (rListK K) := by subst h; exact call_list_of
/-! ### Mend -/
def spMendI (C : Addr) : Sp := fun vs H Q _ => ∃ (x dx : Addr) (u v : V), vs = [.ref x, u, v] ∧ H x = some (.ins C dx []) ∧ ∀ H', H' x = some (.ins C dx [("one", u), ("other", v)]) → (∀ b, b ≠ x → H' b = H b) → Q .non H'
abbrev n_Mend___init__ : List Str := ["self", "one", "other"]
theorem sc_Mend___init__ : FnScope n_Mend___init__ ["self", "one", "other"] (defScope s_Mend___init__) := ⟨rfl, rfl, rfl, by decide +kernel, rfl, by decide +kernel, by decide +kernel⟩
theorem ok_Mend_init (T : Tx K mg) : FnOk P w K mg base CX0 1 T.Mend_init.f T.Mend_init.fd ["self", "one", "other"] (spMendI T.Mend.C) := by
  refine T.Mend_init.F.ok sc_Mend___init__ (fun vs H Q E h => ?_) (fun cdv A outer s H vs Q E hr h => ?_)
  · obtain ⟨x, dx, u, v, rfl, _⟩ := h
    rfl
  · obtain ⟨x, dx, u, v, rfl, hx, q⟩ := h
    refine ⟨_, (pss_cons (ps_fld (pv 0) (pv 1) rfl)
    (pss_one (ps_fld (pv 0) (pv 2) rfl))), ?_⟩
    refine ⟨_, rfl, _, rfl, x, T.Mend.C, dx, [], rfl, hx, T.Mend.cl, T.n_Mend_one, by decide, ?_⟩
    refine ⟨_, rfl, _, rfl, x, T.Mend.C, dx, [("one", u)], rfl, upd_same, T.Mend.cl, T.n_Mend_other, by simp, ?_⟩
    refine q _ upd_same fun b hb => ?_
    rw [upd_ne hb, upd_ne hb]
def spMendS (C : Addr) (K : PySem.W.Frag) : Sp := fun vs H Q _ => ∃ (x a dx : Addr) (ns : List Nat) (i j : Int) (m : Nat), vs = [.ref x, .ref a, .int (m : Int)] ∧ H x = some (.ins C dx [("one", .int i), ("other", .int j)]) ∧ SqL K H a (iv ns) ∧ Good ns ∧ ns.length ≤ 100 ∧ Says H Q (MendD ns m i j)
abbrev n_Mend_shows : List Str := ["self", "boxes", "most"]
theorem sc_Mend_shows : FnScope n_Mend_shows ["self", "boxes", "most"] (defScope s_Mend_shows) := ⟨rfl, rfl, rfl, by decide +kernel, rfl, by decide +kernel, by decide +kernel⟩
theorem ok_Mend_shows (T : Tx K mg) : FnOk P w K mg base CX0 4 T.Mend_shows.f T.Mend_shows.fd ["self", "boxes", "most"] (spMendS T.Mend.C K) := by
  refine T.Mend_shows.F.ok sc_Mend_shows (fun vs H Q E h => ?_) (fun cdv A outer s H vs Q E hr h => ?_)
  · obtain ⟨x, a, dx, ns, i, j, m, rfl, _⟩ := h
    rfl
  · obtain ⟨x, a, dx, ns, i, j, m, rfl, hx, hA, g, hn, q⟩ := h
    refine ⟨_, (pss_cons (ps_if (PW.pt (pw_or (pt_not (pt_chain op_le op_lt pe_int (pe_fld (pv 0) rfl) (pe_callB call_len_seq (by rfl) T.m_len (by decide +kernel) (pa_cons (pv 1) pa_nil)))) (pw_or1 (pt_not (pt_chain op_le op_lt pe_int (pe_fld (pv 0) rfl) (pe_callB call_len_seq (by rfl) T.m_len (by decide +kernel) (pa_cons (pv 1) pa_nil)))))))
      (pss_one (ps_ret pe_bl))
      pss_nil)
    (pss_one (ps_ret (pe_cmpR (op_eqD hr.units) (pe_df T.long_rings (ok_long_rings T) (hr.mono (by decide)) (pa_cons (pe_df T.exchanged (ok_exchanged T) (hr.mono (by decide)) (pa_cons (pv 1) (pa_cons (pe_fld (pv 0) rfl) (pa_cons (pe_fld (pv 0) rfl) pa_nil)))) (pa_cons (pv 2) pa_nil))) (pe_lst pa_nil) (nomark _))))), ?_⟩
    have no : ¬ MendD ns m i j → Q (.bl false) H := fun z => q false H (.refl _) ⟨fun y => Bool.noConfusion y, fun y => absurd y z⟩
    refine ⟨_, rfl, x, T.Mend.C, dx, _, _, rfl, hx, T.Mend.cl, T.n_Mend_one, lk_one, 0, i, rfl, rfl, _, rfl, ite2 (fun e1 => ?_) (fun e1 => ⟨_, rfl, no fun z => e1 (decide_eq_true z.1.1)⟩)⟩
    refine ⟨_, rfl, a, _, rfl, .inl hA, i, _, rfl, rfl, _, rfl, ?_⟩
    rw [iv_len]
    by_cases e2 : i < (ns.length : Int)
    case neg => rw [decide_eq_false e2]; exact iteT (no fun z => e2 z.1.2)
    rw [decide_eq_true e2]
    refine iteF ?_
    refine ⟨_, rfl, x, T.Mend.C, dx, _, _, rfl, hx, T.Mend.cl, T.n_Mend_other, lk_other, 0, j, rfl, rfl, _, rfl, ite2 (fun e3 => ?_) (fun e3 => ⟨_, rfl, no fun z => e3 (decide_eq_true z.2.1.1)⟩)⟩
    refine ⟨_, rfl, a, _, rfl, .inl hA, j, _, rfl, rfl, _, rfl, ?_⟩
    rw [iv_len]
    by_cases e4 : j < (ns.length : Int)
    case neg => rw [decide_eq_false e4]; exact iteT (no fun z => e4 z.2.1.2)
    rw [decide_eq_true e4]
    refine iteF ?_
    have h1 : 0 ≤ i := of_decide_eq_true e1
    have h3 : 0 ≤ j := of_decide_eq_true e3
    have ei : i = ((i.toNat : Nat) : Int) := by omega
    have ej : j = ((j.toNat : Nat) : Int) := by omega
    have hil : i.toNat < ns.length := by omega
    have hjl : j.toNat < ns.length := by omega
    refine ⟨_, rfl, _, rfl, x, T.Mend.C, dx, _, _, rfl, hx, T.Mend.cl, T.n_Mend_one, lk_one, _, rfl, x, T.Mend.C, dx, _, _, rfl, hx, T.Mend.cl, T.n_Mend_other, lk_other, a, ns, i.toNat, j.toNat, by rw [← ei, ← ej]; rfl, hA, hil, hjl, fun H1 p s1 np ep => ?_⟩
    refine ⟨_, rfl, p, exch ns i.toNat j.toNat, m, rfl, .of ep, exch_good g hil hjl, by rw [exch_len]; exact hn, fun H2 p2 ps s2 np2 ep2 R hp => ?_⟩
    refine ⟨Nat.zero_le _, fun z nz => ?_⟩
    have s3 := same_upd (o := .lst []) nz
    refine eq_rows (x := longOf (exch ns i.toNat j.toNat) m) (y := []) ((R.sees ep2).same s3) ⟨[], .of upd_same, rfl, fun i q r h _ => by simp at h⟩ (q _ _ ((s1.trans s2).trans s3) ?_)
    rw [decide_eq_true_iff, longOf_nil (exch_good g hil hjl)]
    exact ⟨fun z => ⟨⟨h1, e2⟩, ⟨h3, e4⟩, z⟩, fun z => z.2.2⟩
/-! ### Barred -/
/-- new rows of whole numbers at ps -/
structure RowsI (H H' : Hp) (ps : List Addr) (rs : List (List Int)) : Prop where
  len : ps.length = rs.length
  row : ∀ (i : Nat) (q : Addr) (r : List Int), ps[i]? = some q → rs[i]? = some r → H' q = some (.lst (r.map V.int))
  new : ∀ q ∈ ps, H q = none
  nd : ps.Nodup
theorem RowsI.nil {H H' : Hp} : RowsI H H' [] [] := ⟨rfl, fun i q r h _ => by simp at h, fun q h => by simp at h, List.nodup_nil⟩
theorem RowsI.at {H H' : Hp} {ps : List Addr} {rs : List (List Int)} (R : RowsI H H' ps rs) {q : Addr} (h : q ∈ ps) : ∃ r, r ∈ rs ∧ H' q = some (.lst (r.map V.int)) := by
  obtain ⟨i, hi, e⟩ := List.mem_iff_getElem.mp h
  have hr : i < rs.length := by rw [← R.len]; exact hi
  exact ⟨rs[i], List.getElem_mem hr, R.row i q _ (by rw [List.getElem?_eq_getElem hi, e]) (List.getElem?_eq_getElem hr)⟩
theorem RowsI.moved {H H' H'' : Hp} {ps : List Addr} {rs : List (List Int)} (R : RowsI H H' ps rs) (k : ∀ q ∈ ps, H'' q = H' q) : RowsI H H'' ps rs :=
  ⟨R.len, fun i q r h1 h2 => by rw [k q (List.mem_of_getElem? h1)]; exact R.row i q r h1 h2, R.new, R.nd⟩
theorem RowsI.same {H H' H'' : Hp} {ps : List Addr} {rs : List (List Int)} (R : RowsI H H' ps rs) (s : Same H' H'') : RowsI H H'' ps rs :=
  ⟨R.len, fun i q r h1 h2 => s _ _ (R.row i q r h1 h2), R.new, R.nd⟩
theorem RowsI.snoc {H H' : Hp} {ps : List Addr} {rs : List (List Int)} {p : Addr} {r : List Int} (R : RowsI H H' ps rs) (hp : H' p = some (.lst (r.map V.int))) (hn : H p = none) (hd : p ∉ ps) : RowsI H H' (ps ++ [p]) (rs ++ [r]) where
  len := by rw [List.length_append, List.length_append, R.len]; rfl
  row := fun i q r' h1 h2 => by
    by_cases hi : i < ps.length
    · rw [List.getElem?_append_left hi] at h1
      rw [List.getElem?_append_left (by rw [← R.len]; exact hi)] at h2
      exact R.row i q r' h1 h2
    · rw [List.getElem?_append_right (by omega)] at h1
      rw [List.getElem?_append_right (by rw [← R.len]; omega)] at h2
      have e : i - ps.length = 0 := by
        obtain ⟨h, _⟩ := List.getElem?_eq_some_iff.mp h1
        simpa using h
      rw [← R.len, e] at h2
      rw [e] at h1
      cases h1
      cases h2
      exact hp
  new := fun q hq => by
    rcases List.mem_append.mp hq with z | z
    · exact R.new q z
    · simp at z; subst z; exact hn
  nd := by
    rw [List.nodup_append]
    refine ⟨R.nd, by simp, fun a ha b hb => ?_⟩
    simp at hb
    subst hb
    intro e; subst e; exact hd ha
theorem RowsI.seesI {H H' : Hp} {l : Addr} {ps : List Addr} {rs : List (List Int)} (R : RowsI H H' ps rs) (hl : H' l = some (.lst (ps.map V.ref))) : SeesI K H' l ps rs :=
  ⟨.of hl, R.len, fun i q r h1 h2 => .of (R.row i q r h1 h2)⟩
def spBarI (C : Addr) (K : PySem.W.Frag) : Sp := fun vs H Q _ => ∃ (x dx l0 : Addr) (ps0 : List Addr) (rs : List (List Int)), vs = [.ref x, .ref l0] ∧ H x = some (.ins C dx []) ∧ SeesI K H l0 ps0 rs ∧ rs.length ≤ 1000 ∧
  ∀ H' l ps, H' x = some (.ins C dx [("rings", .ref l)]) → (∀ b u, b ≠ x → H b = some u → H' b = some u) → H l = none → H' l = some (.lst (ps.map V.ref)) → RowsI H H' ps rs → l ∉ ps → Q .non H'
abbrev n_Barred___init__ : List Str := ["self", "rings", "ring"]
theorem sc_Barred___init__ : FnScope n_Barred___init__ ["self", "rings"] (defScope s_Barred___init__) := ⟨rfl, rfl, rfl, by decide +kernel, rfl, by decide +kernel, by decide +kernel⟩
theorem ok_Barred_init (T : Tx K mg) : FnOk P w K mg base CX0 1 T.Barred_init.f T.Barred_init.fd ["self", "rings"] (spBarI T.Barred.C K) := by
  refine T.Barred_init.F.ok sc_Barred___init__ (fun vs H Q E h => ?_) (fun cdv A outer s H vs Q E hr h => ?_)
  · obtain ⟨x, dx, l0, ps0, rs, rfl, _⟩ := h
    rfl
  · obtain ⟨x, dx, l0, ps0, rs, rfl, hx, S, hn, q⟩ := h
    refine ⟨_, (pss_one (ps_fld (pv 0) (pe_lc (own := [("ring", 2)]) (g := gName 2) rfl sc_Barred___init__.nd (pi_list (pv 1)) (blkOk_by (own := [("ring", 2)]) (N := n_Barred___init__) (sc := defScope s_Barred___init__) (by decide +kernel)) (fun _ _ _ _ _ => (pg_name (i := 2) sc_Barred___init__.nd rfl (.inl rfl))) (fun _ _ _ _ _ => pts_nil) (fun _ _ _ _ _ => (pe_callTy (call_list_ofK (K := K) rfl) (by rfl) T.m_list (by decide +kernel) (pa_cons (pv 2) pa_nil)))) rfl)), ?_⟩
    refine ⟨_, rfl, l0, rfl, ⟨_, S.at_⟩, fun D nD => ?_⟩
    refine lc_list (K := K) (a := l0) (xs := ps0.map V.ref) (fun i H3 => ∃ ps, Same H H3 ∧ H3 D = some (.lst (ps.map V.ref)) ∧ RowsI H H3 ps (rs.take i) ∧ D ∉ ps) ⟨[], same_upd nD, upd_same, RowsI.nil, by simp⟩ (fun i H3 _ h => ?_) (fun i v H3 hv h => ?_) (fun H3 h => ?_)
    · obtain ⟨ps, sm, _⟩ := h
      exact sm.seq S.at_
    · obtain ⟨ps, sm, eD, R, hD⟩ := h
      rw [List.getElem?_map] at hv
      obtain ⟨q0, hq0, rfl⟩ := Option.map_eq_some_iff.mp hv
      have hi : i < rs.length := by rw [← S.len]; exact (List.getElem?_eq_some_iff.mp hq0).1
      have hr := S.row i q0 _ hq0 (List.getElem?_eq_getElem hi)
      refine ⟨rfl, _, rfl, q0, _, rfl, .inl (sm.seq hr), fun p np => ?_⟩
      have s2 := same_upd (o := .lst ((rs[i]).map V.int)) np
      have npp : p ∉ ps := fun h => by
        obtain ⟨r, _, e⟩ := R.at h
        rw [np] at e
        cases e
      have npD : p ≠ D := fun e => by rw [e, eD] at np; cases np
      refine ⟨_, s2 _ _ eD, ?_, ps ++ [p], same_mut (sm.trans s2) nD, ?_, ?_, ?_⟩
      · rw [List.length_map, R.len, List.length_take]
        exact szl (by omega)
      · rw [upd_same, List.map_append]; rfl
      · rw [List.take_add_one, List.getElem?_eq_getElem hi]
        have R2 := (R.same s2).snoc (p := p) (r := rs[i]) upd_same (sm.free np) npp
        exact R2.moved fun q hq => upd_ne fun e => by
          subst e
          rcases List.mem_append.mp hq with y | y
          · exact hD y
          · simp at y; exact npD y.symm
      · intro h
        rcases List.mem_append.mp h with y | y
        · exact hD y
        · simp at y; exact npD y.symm
    · obtain ⟨ps, sm, eD, R, hD⟩ := h
      have nxD : x ≠ D := ne_of_none hx nD
      rw [List.length_map, S.len, List.take_length] at R
      refine ⟨_, rfl, x, T.Barred.C, dx, [], rfl, sm _ _ hx, T.Barred.cl, T.n_Barred_rings, by decide, ?_⟩
      refine q _ D ps upd_same (fun b u hb hu => ?_) nD ?_ ?_ hD
      · rw [upd_ne hb]; exact sm _ _ hu
      · rw [upd_ne nxD.symm]; exact eD
      · exact R.moved fun y hy => upd_ne fun e => by
          rw [e] at hy
          rw [R.new x hy] at hx
          cases hx
def spBarS (C : Addr) (K : PySem.W.Frag) : Sp := fun vs H Q _ => ∃ (x a dx l : Addr) (ps : List Addr) (ns : List Nat) (rs : List (List Int)) (m : Nat), vs = [.ref x, .ref a, .int (m : Int)] ∧ H x = some (.ins C dx [("rings", .ref l)]) ∧ SeesI K H l ps rs ∧ SqL K H a (iv ns) ∧ Good ns ∧ ns.length ≤ 100 ∧ rs.length ≤ 1000 ∧ (∀ r ∈ rs, r.length ≤ 4000) ∧ Says H Q (BarD ns m rs)
abbrev n_Barred_shows : List Str := ["self", "boxes", "most", "ring"]
theorem sc_Barred_shows : FnScope n_Barred_shows ["self", "boxes", "most"] (defScope s_Barred_shows) := ⟨rfl, rfl, rfl, by decide +kernel, rfl, by decide +kernel, by decide +kernel⟩
theorem ok_Barred_shows (T : Tx K mg) : FnOk P w K mg base CX0 3 T.Barred_shows.f T.Barred_shows.fd ["self", "boxes", "most"] (spBarS T.Barred.C K) := by
  refine T.Barred_shows.F.ok sc_Barred_shows (fun vs H Q E h => ?_) (fun cdv A outer s H vs Q E hr h => ?_)
  · obtain ⟨x, a, dx, l, ps, ns, rs, m, rfl, _⟩ := h
    rfl
  · obtain ⟨x, a, dx, l, ps, ns, rs, m, rfl, hx, S, hA, g, hn, hrs, hr4, q⟩ := h
    refine ⟨_, (pss_cons (ps_if (pt_not (pt_val (pe_callB (cr_all rfl) (by rfl) T.m_all (by decide +kernel) (pa_cons (pe_lc (own := [("ring", 3)]) (g := gName 3) rfl sc_Barred_shows.nd (pi_list (pe_fld (pv 0) rfl)) (blkOk_by (own := [("ring", 3)]) (N := n_Barred_shows) (sc := defScope s_Barred_shows) (by decide +kernel)) (fun _ _ _ _ _ => (pg_name (i := 3) sc_Barred_shows.nd rfl (.inl rfl))) (fun _ _ _ _ _ => pts_nil) (fun _ _ _ _ _ => (pe_df T.is_ring (ok_is_ring T) (hr.mono (by decide)) (pa_cons (pv 1) (pa_cons (pv 3) pa_nil))))) pa_nil))))
      (pss_one (ps_ret pe_bl))
      pss_nil)
    (pss_cons (ps_if (pt_cmpR op_eq (pe_callB call_len_seq (by rfl) T.m_len (by decide +kernel) (pa_cons (pe_fld (pv 0) rfl) pa_nil)) pe_int (nomark _))
      (pss_one (ps_ret (pe_cmpR op_gt (pe_callB call_len_seq (by rfl) T.m_len (by decide +kernel) (pa_cons (pe_ix ix_list (pe_fld (pv 0) rfl) pe_int (fun _ _ => rfl)) pa_nil)) (pe_op op_mulX pe_int (pv 2)) (nomark _))))
      pss_nil)
    (pss_cons (ps_if (PW.pt (pw_or (pt_cmpR op_ne (pe_callB call_len_seq (by rfl) T.m_len (by decide +kernel) (pa_cons (pe_fld (pv 0) rfl) pa_nil)) pe_int (nomark _)) (pw_or1 (pt_cmpR op_in_seq (pe_ix ix_list (pe_ix ix_list (pe_fld (pv 0) rfl) pe_int (fun _ _ => rfl)) pe_int (fun _ _ => rfl)) (pe_ix ix_list (pe_fld (pv 0) rfl) pe_int (fun _ _ => rfl)) (by rfl)))))
      (pss_one (ps_ret pe_bl))
      pss_nil)
    (pss_one (ps_ret (pe_and (pe_cmpR op_gt (pe_callB call_len_seq (by rfl) T.m_len (by decide +kernel) (pa_cons (pe_ix ix_list (pe_fld (pv 0) rfl) pe_int (fun _ _ => rfl)) pa_nil)) (pv 2) (nomark _)) (pe_one (pe_cmpR op_gt (pe_callB call_len_seq (by rfl) T.m_len (by decide +kernel) (pa_cons (pe_ix ix_list (pe_fld (pv 0) rfl) pe_int (fun _ _ => rfl)) pa_nil)) (pv 2) (nomark _))))))))), ?_⟩
    refine ⟨_, rfl, x, T.Barred.C, dx, _, _, rfl, hx, T.Barred.cl, T.n_Barred_rings, lk_rings, l, rfl, ⟨_, S.at_⟩, fun D nD => ?_⟩
    refine lc_list (K := K) (a := l) (xs := ps.map V.ref) (fun i H3 => Same H H3 ∧ ∃ bs : List Bool, H3 D = some (.lst (bs.map V.bl)) ∧ bs.length = i ∧ (bs.all id = true ↔ ∀ r ∈ rs.take i, RingI ns r)) ⟨same_upd nD, [], upd_same, rfl, by simp⟩ (fun i H3 _ h => h.1.seq S.at_) (fun i v H3 hv h => ?_) (fun H3 h => ?_)
    · obtain ⟨sm, bs, eD, hbl, hb⟩ := h
      rw [List.getElem?_map] at hv
      obtain ⟨q0, hq0, rfl⟩ := Option.map_eq_some_iff.mp hv
      have hi : i < rs.length := by rw [← S.len]; exact (List.getElem?_eq_some_iff.mp hq0).1
      have hr := S.row i q0 _ hq0 (List.getElem?_eq_getElem hi)
      refine ⟨rfl, _, rfl, _, rfl, a, q0, ns, rs[i], rfl, sm.seq hA, sm.seq hr, hn, hr4 _ (List.getElem_mem hi), fun b H4 s4 hb4 => ?_⟩
      refine ⟨_, s4 _ _ eD, by rw [List.length_map, hbl]; exact szl (by omega), same_mut (sm.trans s4) nD, bs ++ [b], ?_, ?_, ?_⟩
      · rw [upd_same, List.map_append]; rfl
      · rw [List.length_append, hbl]; rfl
      · rw [List.take_add_one, List.getElem?_eq_getElem hi, List.all_append, Bool.and_eq_true, hb]
        simp only [Option.toList_some, List.mem_append, List.mem_singleton, List.all_cons, List.all_nil, Bool.and_true, id_eq, hb4]
        constructor
        · rintro ⟨h1, h2⟩ r (hr | rfl)
          · exact h1 r hr
          · exact h2
        · intro h
          exact ⟨fun r hr => h r (.inl hr), h _ (.inr rfl)⟩
    obtain ⟨sm, bs, eD, hbl, hb⟩ := h
    rw [List.length_map, S.len] at hbl hb
    rw [List.take_length] at hb
    have no : ¬ BarD ns m rs → Q (.bl false) H3 := fun z => q false H3 sm ⟨fun y => Bool.noConfusion y, fun y => absurd y z⟩
    refine ⟨D, bs, rfl, .of eD, _, rfl, ?_⟩
    generalize bs.all id = ball at hb
    cases ball with
    | false => exact iteT (no fun z => Bool.noConfusion (hb.mpr z.1))
    | true =>
      refine iteF ?_
      have hR := hb.mp rfl
      have hx3 := sm _ _ hx
      have S3 := S.same sm
      have hl3 := S3.at_
      refine ⟨_, rfl, x, T.Barred.C, dx, _, _, rfl, hx3, T.Barred.cl, T.n_Barred_rings, lk_rings, l, _, rfl, .inl hl3, rfl, _, rfl, ?_⟩
      rw [List.length_map, S.len, dec_int]
      by_cases h1 : rs.length = 1
      · obtain ⟨r0, e0⟩ := List.length_eq_one_iff.mp h1
        subst e0
        obtain ⟨q0, at0, hq0⟩ := S3.get (i := 0) (r := r0) rfl
        rw [decide_eq_true (by omega)]
        refine iteT ?_
        refine ⟨_, rfl, x, T.Barred.C, dx, _, _, rfl, hx3, T.Barred.cl, T.n_Barred_rings, lk_rings, l, _, 0, _, rfl, rfl, hl3, at0, q0, _, rfl, .inl hq0, _, rfl, 2, m, rfl, rfl, .of_left (bts2 (by decide) (by decide)), _, _, rfl, rfl, q _ _ sm ?_⟩
        rw [decide_eq_true_iff, List.length_map]
        constructor
        · intro h; exact ⟨hR, .inl ⟨r0, rfl, by omega⟩⟩
        · rintro ⟨_, ⟨a', e, h⟩ | ⟨a', b', e, _⟩⟩
          · cases e; omega
          · cases e
      rw [decide_eq_false (by omega)]
      refine iteF ?_
      refine ⟨_, rfl, x, T.Barred.C, dx, _, _, rfl, hx3, T.Barred.cl, T.n_Barred_rings, lk_rings, l, _, rfl, .inl hl3, rfl, _, rfl, ?_⟩
      rw [List.length_map, S.len, dec_int]
      by_cases h2 : rs.length = 2
      case neg =>
        rw [decide_eq_false (by omega)]
        refine iteT (no ?_)
        rintro ⟨_, ⟨a', e, h⟩ | ⟨a', b', e, _⟩⟩
        · subst e; exact h1 rfl
        · subst e; exact h2 rfl
      obtain ⟨ra, rb, e0⟩ : ∃ a b, rs = [a, b] := by
        match rs, h2 with
        | [a, b], _ => exact ⟨a, b, rfl⟩
      subst e0
      obtain ⟨q0, at0, hq0⟩ := S3.get (i := 0) (r := ra) rfl
      obtain ⟨q1, at1, hq1⟩ := S3.get (i := 1) (r := rb) rfl
      have Ra := hR ra (by simp)
      have Rb := hR rb (by simp)
      have hpos := ringI_pos Ra
      obtain ⟨x0, hx0⟩ : ∃ x, ra[0]? = some x := ⟨ra[0], List.getElem?_eq_getElem hpos⟩
      rw [decide_eq_true (by show (((2 : Nat) : Int)) = 2; rfl)]
      refine iteF ?_
      refine ⟨_, rfl, x, T.Barred.C, dx, _, _, rfl, hx3, T.Barred.cl, T.n_Barred_rings, lk_rings, l, _, 0, _, rfl, rfl, hl3, at0, q0, _, 0, _, rfl, rfl, hq0, atI_nat (j := 0) (ints_at hx0), ?_⟩
      refine ⟨_, rfl, x, T.Barred.C, dx, _, _, rfl, hx3, T.Barred.cl, T.n_Barred_rings, lk_rings, l, _, 1, _, rfl, rfl, hl3, at1, q1, _, rfl, .inl hq1, rfl, flat_ints _, _, rfl, ?_⟩
      rw [inV_ints]
      have hap := ringI_apart g Ra Rb hx0
      have two : BarD ns m [ra, rb] ↔ (∀ x ∈ ra, x ∉ rb) ∧ m < ra.length ∧ m < rb.length := by
        constructor
        · rintro ⟨_, ⟨a', e, h⟩ | ⟨a', b', e, h⟩⟩
          · cases e
          · cases e; exact h
        · intro h
          exact ⟨hR, .inr ⟨_, _, rfl, h⟩⟩
      by_cases hin : x0 ∈ rb
      · rw [decide_eq_true hin]
        exact iteT (no fun z => hap.mpr (two.mp z).1 hin)
      rw [decide_eq_false hin]
      refine iteF ?_
      refine ⟨_, rfl, x, T.Barred.C, dx, _, _, rfl, hx3, T.Barred.cl, T.n_Barred_rings, lk_rings, l, _, 0, _, rfl, rfl, hl3, at0, q0, _, rfl, .inl hq0, _, rfl, _, _, rfl, rfl, _, rfl, ite2 (fun e => ?_) (fun e => ?_)⟩
      · have hla : (m : Int) < (((ra.map V.int).length : Nat) : Int) := of_decide_eq_true e
        rw [List.length_map] at hla
        refine ⟨_, rfl, x, T.Barred.C, dx, _, _, rfl, hx3, T.Barred.cl, T.n_Barred_rings, lk_rings, l, _, 1, _, rfl, rfl, hl3, at1, q1, _, rfl, .inl hq1, _, rfl, _, _, rfl, rfl, q _ _ sm ?_⟩
        rw [decide_eq_true_iff, List.length_map, two]
        constructor
        · intro h; exact ⟨hap.mp hin, by omega, by omega⟩
        · rintro ⟨_, _, h⟩; omega
      · refine no fun z => e (decide_eq_true ?_)
        have := (two.mp z).2.1
        rw [List.length_map]
        show (m : Int) < _
        omega
end
end Sb
namespace Sb
open PySem PySem.Spec PyProof.Rows L2
section
variable {P : Program} {w : World} {K : PySem.W.Frag} {mg : Str → Option Value} {base : Heap}
/-! ### mended -/
/-- at x a Mend or a Barred -/
def MAt (T : Tx K mg) (H : Hp) (x : Addr) : MA → Prop
  | .mend i j => ∃ dx, H x = some (.ins T.Mend.C dx [("one", .int i), ("other", .int j)])
  | .barred rs => ∃ dx l ps, H x = some (.ins T.Barred.C dx [("rings", .ref l)]) ∧ SeesI K H l ps rs ∧ rs.length ≤ 1000 ∧ ∀ r ∈ rs, r.length ≤ 4000
theorem MAt.same {T : Tx K mg} {H H' : Hp} {x : Addr} {o : MA} (j : MAt T H x o) (s : Same H H') : MAt T H' x o := by
  cases o with
  | mend i j' =>
    obtain ⟨dx, e⟩ := j
    exact ⟨dx, s _ _ e⟩
  | barred rs =>
    obtain ⟨dx, l, ps, e1, e2, e3, e4⟩ := j
    exact ⟨dx, l, ps, s _ _ e1, e2.same s, e3, e4⟩
structure MNew (T : Tx K mg) (H H' : Hp) (ns : List Nat) (m : Nat) (x : Addr) (o : MA) : Prop where
  same : Same H H'
  new : H x = none
  at_ : MAt T H' x o
  can : o.isMend = true ↔ Can ns m
  due : MDue ns m o
  fresh : ∀ dx l, H' x = some (.ins T.Barred.C dx [("rings", .ref l)]) → H l = none ∧ ∃ ps rs, H' l = some (.lst (ps.map V.ref)) ∧ RowsI H H' ps rs ∧ o = .barred rs ∧ l ∉ ps
def spMended (T : Tx K mg) : Sp := fun vs H Q _ => ∃ (a : Addr) (ns : List Nat) (m : Nat), vs = [.ref a, .int (m : Int)] ∧ SqL K H a (iv ns) ∧ Good ns ∧ 1 ≤ m ∧ m ≤ ns.length ∧ ns.length ≤ 40 ∧ ∀ H' x o, MNew T H H' ns m x o → Q (.ref x) H'
/-- a new Mend -/
theorem new_mend (T : Tx K mg) {H H0 H' : Hp} {x dx : Addr} {ns : List Nat} {m : Nat} {i j : Int} (s0 : Same H H0) (nx : H0 x = none) (ndx : H0 dx = none)
    (e : H' x = some (.ins T.Mend.C dx [("one", .int i), ("other", .int j)])) (k : ∀ b, b ≠ x → H' b = (upd (upd H0 dx (.own x)) x (.ins T.Mend.C dx [])) b) (d : MendD ns m i j) : MNew T H H' ns m x (.mend i j) := by
  refine ⟨fun b u hb => ?_, s0.free nx, ⟨dx, e⟩, ⟨fun _ => ?_, fun _ => rfl⟩, d, fun dx2 l z => ?_⟩
  · have h0 := s0 _ _ hb
    have hx : b ≠ x := ne_of_none h0 nx
    rw [k b hx, upd_ne hx, upd_ne (ne_of_none h0 ndx)]
    exact h0
  · obtain ⟨⟨h1, h2⟩, ⟨h3, h4⟩, s⟩ := d
    exact Can.of (by omega) (by omega) s
  · rw [e] at z
    injection z with z
    injection z with _ _ z
    injection z with z _
    injection z with z _
    exact absurd z (by decide +kernel)
/-- a new Barred -/
theorem new_barred (T : Tx K mg) {H H0 H' : Hp} {x dx l : Addr} {ps : List Addr} {rs : List (List Int)} {ns : List Nat} {m : Nat} (s0 : Same H H0) (nx : H0 x = none) (ndx : H0 dx = none)
    (e : H' x = some (.ins T.Barred.C dx [("rings", .ref l)])) (k : ∀ b u, b ≠ x → (upd (upd H0 dx (.own x)) x (.ins T.Barred.C dx [])) b = some u → H' b = some u) (nl : (upd (upd H0 dx (.own x)) x (.ins T.Barred.C dx [])) l = none) (el : H' l = some (.lst (ps.map V.ref)))
    (R : RowsI (upd (upd H0 dx (.own x)) x (.ins T.Barred.C dx [])) H' ps rs) (hl : l ∉ ps) (h1 : rs.length ≤ 1000) (h2 : ∀ r ∈ rs, r.length ≤ 4000) (hc : ¬ Can ns m) (d : BarD ns m rs) : MNew T H H' ns m x (.barred rs) := by
  have sx : Same H (upd (upd H0 dx (.own x)) x (.ins T.Barred.C dx [])) := fun b u hb => by
    have h0 := s0 _ _ hb
    rw [upd_ne (ne_of_none h0 nx), upd_ne (ne_of_none h0 ndx)]
    exact h0
  refine ⟨fun b u hb => ?_, s0.free nx, ⟨dx, l, ps, e, R.seesI el, h1, h2⟩, ⟨fun z => Bool.noConfusion z, fun z => absurd z hc⟩, d, fun dx2 l2 z => ?_⟩
  · exact k b u (ne_of_none (s0 _ _ hb) nx) (sx _ _ hb)
  · rw [e] at z
    injection z with z
    injection z with _ _ z
    injection z with z _
    injection z with _ z
    injection z with z
    subst z
    exact ⟨sx.free nl, ps, rs, el, ⟨R.len, R.row, fun q hq => sx.free (R.new q hq), R.nd⟩, rfl, hl⟩
abbrev n_mended : List Str := ["boxes", "most", "found", "ring"]
theorem sc_mended : FnScope n_mended ["boxes", "most"] (defScope s_mended) := ⟨rfl, rfl, rfl, by decide +kernel, rfl, by decide +kernel, by decide +kernel⟩
theorem ok_mended (T : Tx K mg) : FnOk P w K mg base CX0 5 T.mended.f T.mended.fd ["boxes", "most"] (spMended T) := by
  refine T.mended.F.ok sc_mended (fun vs H Q E h => ?_) (fun cdv A outer s H vs Q E hr h => ?_)
  · obtain ⟨a, ns, m, rfl, _⟩ := h
    rfl
  · obtain ⟨a, ns, m, rfl, hA, g, h1, h2, h3, q⟩ := h
    refine ⟨_, (pss_cons (ps_expr (pe_df T.check_boxes (ok_check_boxes T) (hr.mono (by decide)) (pa_cons (pv 0) (pa_cons (pe_glob (v := .int 40) rfl T.c_MOST ⟨_, rfl⟩) pa_nil))))
    (pss_cons (ps_expr (pe_df T.check_count (ok_check_count T) (hr.mono (by decide)) (pa_cons (pe_callB call_len_seq (by rfl) T.m_len (by decide +kernel) (pa_cons (pv 0) pa_nil)) (pa_cons (pv 1) pa_nil))))
    (pss_cons (ps_set (i := 2) sc_mended.nd rfl (.inl rfl) (pe_df T.long_rings (ok_long_rings T) (hr.mono (by decide)) (pa_cons (pv 0) (pa_cons (pv 1) pa_nil))))
    (pss_cons (ps_if (pt_cmpR (op_eqD hr.units) (pv 2) (pe_lst pa_nil) (nomark _))
      (pss_one (ps_ret (pe_make (T.Mend.mak T.Mend_init) (ok_Mend_init T) (hr.mono (by decide)) (by rfl) T.Mend.g T.Mend_init.b .nil pass0 (pa_cons pe_int (pa_cons pe_int pa_nil)))))
      pss_nil)
    (pss_cons (ps_if (pt_cmpR op_gt (pe_callB call_len_seq (by rfl) T.m_len (by decide +kernel) (pa_cons (pv 2) pa_nil)) pe_int (nomark _))
      (pss_one (ps_ret (pe_make (T.Barred.mak T.Barred_init) (ok_Barred_init T) (hr.mono (by decide)) (by rfl) T.Barred.g T.Barred_init.b .nil pass0 (pa_cons (pe_slice sl_list (pv 2) po_none (po_some pe_int)) pa_nil))))
      pss_nil)
    (pss_cons (ps_set (i := 3) sc_mended.nd rfl (.inl rfl) (pe_ix ix_list (pv 2) pe_int (fun _ _ => rfl)))
    (pss_cons (ps_if (pt_cmpR op_gt (pe_callB call_len_seq (by rfl) T.m_len (by decide +kernel) (pa_cons (pv 3) pa_nil)) (pe_op op_mulX pe_int (pv 1)) (nomark _))
      (pss_one (ps_ret (pe_make (T.Barred.mak T.Barred_init) (ok_Barred_init T) (hr.mono (by decide)) (by rfl) T.Barred.g T.Barred_init.b .nil pass0 (pa_cons (pv 2) pa_nil))))
      pss_nil)
    (pss_one (ps_ret (pe_make (T.Mend.mak T.Mend_init) (ok_Mend_init T) (hr.mono (by decide)) (by rfl) T.Mend.g T.Mend_init.b .nil pass0 (pa_cons (pe_ix ix_list (pv 3) (pe_op op_sub (pv 1) pe_int) (fun _ _ => rfl)) (pa_cons (pe_ix ix_list (pv 3) (pe_un un_neg pe_int) (fun _ _ => rfl)) pa_nil)))))))))))), ?_⟩
    refine ⟨_, rfl, a, ns, 40, rfl, hA, g, by omega, by omega, by omega, fun H1 s1 => ?_⟩
    refine ⟨_, rfl, a, _, rfl, .inl (s1.seq hA), _, rfl, _, m, rfl, by omega, by rw [iv_len]; omega, ?_⟩
    refine ⟨_, rfl, _, rfl, a, ns, m, rfl, s1.seq hA, g, by omega, fun H2 p ps s2 np ep R hp => ?_⟩
    refine ⟨_, rfl, Nat.zero_le _, fun z nz => ?_⟩
    have s3 := same_upd (o := .lst []) nz
    have sA := (s1.trans s2).trans s3
    have ep3 := s3 _ _ ep
    have R3 := R.same s3
    have S3 : SeesI K (upd H2 z (.lst [])) p ps ((longOf ns m).map castN) := R3.seesI ep3
    refine eq_rows (x := longOf ns m) (y := []) ((R.sees ep).same s3) ⟨[], .of upd_same, rfl, fun i q r h _ => by simp at h⟩ ⟨_, rfl, ite2 (fun e => ?_) (fun e => ?_)⟩
    · have sh : Short ns m := (longOf_nil g).mp (of_decide_eq_true e)
      refine fun x dx nx ndx hne => ⟨x, dx, .int 0, .int 0, rfl, upd_same, fun H' e' k' => ⟨rfl, q _ x _ (new_mend T sA nx ndx e' k' ?_)⟩⟩
      refine ⟨⟨by omega, by omega⟩, ⟨by omega, by omega⟩, ?_⟩
      show Short (exch ns 0 0) m
      rw [exch_self (by omega)]
      exact sh
    have hne : longOf ns m ≠ [] := fun z => e (decide_eq_true z)
    refine ⟨_, rfl, p, _, rfl, .inl (.of ep3), _, _, rfl, rfl, _, rfl, ?_⟩
    rw [List.length_map, R.len]
    have hlen := longOf_len ns m
    by_cases hm : 1 < (longOf ns m).length
    · rw [show decide ((((longOf ns m).length : Nat) : Int) > 1) = true from decide_eq_true (by omega)]
      refine iteT ?_
      obtain ⟨ra, rb, rl, el⟩ : ∃ a b l, longOf ns m = a :: b :: l := by
        match e : longOf ns m, hm with
        | a :: b :: l, _ => exact ⟨a, b, l, rfl⟩
      refine ⟨_, rfl, 2, rfl, p, _, rfl, .of ep3, fun c nc => ?_⟩
      rw [show (2 : Int) = ((2 : Nat) : Int) from rfl, cut_to, ← List.map_take]
      have s4 := same_upd (o := .lst ((ps.take 2).map V.ref)) nc
      refine fun x dx nx ndx hne => ?_
      have sx : Same (upd (upd H2 z (.lst [])) c (.lst ((ps.take 2).map V.ref))) (upd (upd (upd (upd H2 z (.lst [])) c (.lst ((ps.take 2).map V.ref))) dx (.own x)) x (.ins T.Barred.C dx [])) := fun b u hb => by
        rw [upd_ne (ne_of_none hb nx), upd_ne (ne_of_none hb ndx)]
        exact hb
      have S4 : SeesI K (upd (upd (upd (upd H2 z (.lst [])) c (.lst ((ps.take 2).map V.ref))) dx (.own x)) x (.ins T.Barred.C dx [])) c (ps.take 2) [castN ra, castN rb] := by
        refine ⟨.of (sx _ _ upd_same), ?_, fun i q r hq hr => ?_⟩
        · rw [List.length_take, R.len]
          show min 2 (longOf ns m).length = 2
          omega
        · rw [List.getElem?_take] at hq
          by_cases hi : i < 2
          · rw [if_pos hi] at hq
            refine (s4.trans sx).seq (S3.row i q r hq ?_)
            rw [el]
            match i, hi with
            | 0, _ => exact hr
            | 1, _ => exact hr
          · rw [if_neg hi] at hq
            cases hq
      have la := longOf_ring g (m := m) (r := ra) (by rw [el]; simp)
      have lb := longOf_ring g (m := m) (r := rb) (by rw [el]; simp)
      refine ⟨x, dx, c, ps.take 2, [castN ra, castN rb], rfl, upd_same, S4, by simp, fun H' l2 ps2 ex2 k2 nl2 el2 R2 hl2 => ⟨rfl, q _ x _ (new_barred T (sA.trans s4) nx ndx ex2 k2 nl2 el2 R2 hl2 (by simp) ?_ ?_ (bar_two g el))⟩⟩
      · intro r hr
        simp only [List.mem_cons, List.not_mem_nil, or_false] at hr
        rcases hr with rfl | rfl <;> rw [List.length_map] <;> omega
      · rintro ⟨i, j, hij, hj, sh⟩
        exact bars_rings g hm (by omega) hj sh
    rw [show decide ((((longOf ns m).length : Nat) : Int) > 1) = false from decide_eq_false (by omega)]
    refine iteF ?_
    obtain ⟨r0, el⟩ : ∃ a, longOf ns m = [a] := by
      match e : longOf ns m, hne, hm with
      | [a], _, _ => exact ⟨a, rfl⟩
      | a :: b :: l, _, h => simp at h
    have l0 := longOf_ring g (m := m) (r := r0) (by rw [el]; simp)
    have hps : ps.length = 1 := by rw [R.len, el]; rfl
    obtain ⟨p0, epp⟩ := List.length_eq_one_iff.mp hps
    subst epp
    have er0 := R3.row 0 p0 r0 rfl (by rw [el]; rfl)
    refine ⟨_, rfl, p, _, 0, .ref p0, rfl, rfl, .of ep3, atI_nat (j := 0) rfl, ?_⟩
    refine ⟨_, rfl, p0, _, rfl, .inl (.of er0), _, rfl, 2, m, rfl, rfl, .of_left (bts2 (by decide) (by decide)), _, _, rfl, rfl, _, rfl, ?_⟩
    rw [iv_len]
    by_cases hm2 : 2 * m < r0.length
    · rw [show decide (((r0.length : Nat) : Int) > 2 * (m : Int)) = true from decide_eq_true (by omega)]
      refine iteT ?_
      refine ⟨_, rfl, fun x dx nx ndx hne => ?_⟩
      have sx : Same (upd H2 z (.lst [])) (upd (upd (upd H2 z (.lst [])) dx (.own x)) x (.ins T.Barred.C dx [])) := fun b u hb => by
        rw [upd_ne (ne_of_none hb nx), upd_ne (ne_of_none hb ndx)]
        exact hb
      have S4 := S3.same sx
      rw [el] at S4
      refine ⟨x, dx, p, [p0], [castN r0], rfl, upd_same, S4, by simp, fun H' l2 ps2 ex2 k2 nl2 el2 R2 hl2 => ⟨rfl, q _ x _ (new_barred T sA nx ndx ex2 k2 nl2 el2 R2 hl2 (by simp) ?_ ?_ (bar_one g el hm2))⟩⟩
      · intro r hr
        simp only [List.mem_cons, List.not_mem_nil, or_false] at hr
        subst hr
        rw [List.length_map]
        omega
      · rintro ⟨i, j, hij, hj, sh⟩
        obtain ⟨k, hk, _, ek, _⟩ := longOf_mem (r := r0) (m := m) (ns := ns) (by rw [el]; simp)
        rw [ek] at hm2
        exact bars_two g (by omega) hj hk hm2 sh
    rw [show decide (((r0.length : Nat) : Int) > 2 * (m : Int)) = false from decide_eq_false (by omega)]
    refine iteF ?_
    have hi : m - 1 < r0.length := by omega
    have hj : r0.length - 1 < r0.length := by omega
    have ai : atI (iv r0) ((m : Int) - 1) = some (.int ((r0[m - 1] : Nat) : Int)) := by
      rw [show (m : Int) - 1 = ((m - 1 : Nat) : Int) by omega]
      exact iv_at (List.getElem?_eq_getElem hi)
    have aj : atI (iv r0) (-1) = some (.int ((r0[r0.length - 1] : Nat) : Int)) := iv_last (List.getElem?_eq_getElem hj)
    obtain ⟨b1, b2, b3⟩ := mend_ok g h1 el (by omega) (List.getElem?_eq_getElem hi) (List.getElem?_eq_getElem hj)
    refine ⟨_, rfl, _, rfl, m, 1, rfl, rfl, p0, _, _, _, rfl, rfl, .of er0, ai, _, rfl, 1, rfl, p0, _, _, _, rfl, rfl, .of er0, aj, fun x dx nx ndx hne => ?_⟩
    refine ⟨x, dx, _, _, rfl, upd_same, fun H' e' k' => ⟨rfl, q _ x _ (new_mend T sA nx ndx e' k' ?_)⟩⟩
    exact ⟨⟨by omega, by omega⟩, ⟨by omega, by omega⟩, by rw [Int.toNat_natCast, Int.toNat_natCast]; exact b3⟩
end
end Sb
namespace Sb
open PySem PySem.Spec PyProof.Rows L2
theorem min_of_if (m n : Nat) : (if ((n : Nat) : Int) < (m : Int) then ((n : Nat) : Int) else (m : Int)) = ((min m n : Nat) : Int) := by
  by_cases h : ((n : Nat) : Int) < (m : Int)
  · rw [if_pos h, Nat.min_eq_right (by omega)]
  · rw [if_neg h, Nat.min_eq_left (by omega)]
theorem bits_of {n b : Nat} (h : n < 2 ^ b) : Builtin.Int.intBits ((n : Nat) : Int) ≤ b := PySem.intBits_le_iff.mpr (by rw [Int.natAbs_natCast]; exact h)
theorem bits_small {n : Nat} (h : n ≤ 100000) : Builtin.Int.intBits ((n : Nat) : Int) ≤ 64 := bits_of (Nat.lt_of_le_of_lt h (by decide))
theorem fact_bits {n : Nat} (h : n ≤ 100) : fact n < 2 ^ 600 := Nat.lt_of_le_of_lt (fact_le n 100 h) (by decide +kernel)
theorem gw_bits (T : List Nat) {k : Nat} (hk : k ≤ 100) : ∀ s, s ≤ 100 → (gw T k s).2 < 2 ^ 700 := by
  have h : ∀ s, (gw T k s).2 ≤ 100 ^ s := fun s => by
    induction s with
    | zero => exact Nat.le_refl _
    | succ s ih =>
      rw [gw_succ, Nat.pow_succ]
      exact Nat.mul_le_mul ih (by omega)
  intro s hs
  refine Nat.lt_of_le_of_lt (h s) (Nat.lt_of_le_of_lt (Nat.pow_le_pow_right (by decide) hs) ?_)
  decide +kernel
theorem hm_bits {n m : Nat} (h : n ≤ 100) : hm n m < 2 ^ 600 := Nat.lt_of_le_of_lt (hm_le n m) (fact_bits h)
theorem tbl_get? {n m i : Nat} (h : i ≤ n) : (tbl m n)[i]? = some (hm i m) := by
  have hl : i < (tbl m n).length := by rw [tbl_len]; omega
  rw [← tbl_get h, List.getD_eq_getElem?_getD, List.getElem?_eq_getElem hl]
  rfl
section
variable {P : Program} {w : World} {K : PySem.W.Frag} {mg : Str → Option Value} {base : Heap}
/-! ### check_counts: counts are let through -/
def spCounts : Sp := fun vs H Q _ => ∃ (n m g : Int), vs = [.int n, .int m, .int g] ∧ 1 ≤ n ∧ n ≤ g ∧ 1 ≤ m ∧ m ≤ n ∧ Q .non H
abbrev n_check_counts : List Str := ["boxes", "most", "greatest"]
theorem sc_check_counts : FnScope n_check_counts ["boxes", "most", "greatest"] (defScope s_check_counts) := ⟨rfl, rfl, rfl, by decide +kernel, rfl, by decide +kernel, by decide +kernel⟩
theorem ok_check_counts (T : Tx K mg) : FnOk P w K mg base CX0 3 T.check_counts.f T.check_counts.fd ["boxes", "most", "greatest"] spCounts := by
  refine T.check_counts.F.ok sc_check_counts (fun vs H Q E h => ?_) (fun cdv A outer s H vs Q E hr h => ?_)
  · obtain ⟨n, m, g, rfl, _⟩ := h
    rfl
  · obtain ⟨n, m, g, rfl, h1, h2, h3, h4, q⟩ := h
    refine ⟨_, (pss_cons (ps_if (PW.pt (pw_or (pt_not (pt_val (pe_df T.is_whole (ok_is_whole T) (hr.mono (by decide)) (pa_cons (pv 0) pa_nil)))) (pw_or1 (pt_not (pt_chain op_le op_le pe_int (pv 0) (pv 2))))))
      (pss_one ps_never)
      pss_nil)
    (pss_one (ps_expr (pe_df T.check_count (ok_check_count T) (hr.mono (by decide)) (pa_cons (pv 0) (pa_cons (pv 1) pa_nil)))))), ?_⟩
    refine ⟨_, rfl, .int n, "int", true, false, rfl, .base (.int _), by decide +kernel, by decide +kernel, _, rfl, iteF ?_⟩
    refine ⟨_, rfl, 1, n, rfl, rfl, _, rfl, ?_⟩
    rw [decide_eq_true h1]
    refine iteT ⟨_, rfl, n, g, rfl, rfl, _, rfl, ?_⟩
    rw [decide_eq_true h2]
    exact iteF ⟨_, rfl, _, rfl, n, m, rfl, h3, h4, q⟩
/-! ### how_many -/
def spMany : Sp := fun vs H Q _ => ∃ (n m : Nat), vs = [.int (n : Int), .int (m : Int)] ∧ 1 ≤ n ∧ n ≤ 100 ∧ 1 ≤ m ∧ m ≤ n ∧ ∀ H', Same H H' → Q (.int ((hm n m : Nat) : Int)) H'
abbrev n_how_many : List Str := ["boxes", "most", "found", "many", "gain", "ways", "size"]
theorem sc_how_many : FnScope n_how_many ["boxes", "most"] (defScope s_how_many) := ⟨rfl, rfl, rfl, by decide +kernel, rfl, by decide +kernel, by decide +kernel⟩
theorem ok_how_many (T : Tx K mg) : FnOk P w K mg base CX0 4 T.how_many.f T.how_many.fd ["boxes", "most"] spMany := by
  refine T.how_many.F.ok sc_how_many (fun vs H Q E h => ?_) (fun cdv A outer s H vs Q E hr h => ?_)
  · obtain ⟨n, m, rfl, _⟩ := h
    rfl
  · obtain ⟨n, m, rfl, h1, h2, h3, h4, q⟩ := h
    refine ⟨_, (pss_cons (ps_expr (pe_df T.check_counts (ok_check_counts T) (hr.mono (by decide)) (pa_cons (pv 0) (pa_cons (pv 1) (pa_cons (pe_glob (v := .int 100) rfl T.c_GREATEST ⟨_, rfl⟩) pa_nil)))))
    (pss_cons (ps_set (i := 2) sc_how_many.nd rfl (.inl rfl) (pe_lst (pa_cons pe_int pa_nil)))
    (pss_cons (ps_for PassesOwn.never rfl (pi_range2 (by rfl) T.m_range (pa_cons pe_int (pa_cons (pe_op op_add (pv 0) pe_int) pa_nil))) (pg_name (i := 3) sc_how_many.nd rfl (.inl rfl))
      (pss_cons (ps_asg (pe_tup (pa_cons pe_int (pa_cons pe_int pa_nil))) (pg_tup rfl (pgs_cons (pg_name (i := 4) sc_how_many.nd rfl (.inl rfl)) (pgs_cons (pg_name (i := 5) sc_how_many.nd rfl (.inl rfl)) pgs_nil))))
      (pss_cons (ps_for PassesOwn.never rfl (pi_range2 (by rfl) T.m_range (pa_cons pe_int (pa_cons (pe_op op_add (pe_callB (call_min2 rfl) (by rfl) T.m_min (by decide +kernel) (pa_cons (pv 1) (pa_cons (pv 3) pa_nil))) pe_int) pa_nil))) (pg_name (i := 6) sc_how_many.nd rfl (.inl rfl))
        (pss_cons (ps_set (i := 4) sc_how_many.nd rfl (.inl rfl) (pe_op op_add (pv 4) (pe_op op_mulX (pv 5) (pe_ix ix_list (pv 2) (pe_op op_sub (pv 3) (pv 6)) (fun _ _ => rfl)))))
        (pss_one (ps_set (i := 5) sc_how_many.nd rfl (.inl rfl) (pe_op op_mulX (pv 5) (pe_op op_sub (pv 3) (pv 6)))))))
      (pss_one (ps_expr (pe_bm PySem.F.plainAttrs_list PySem.F.slot_list_append PySem.F.type_list_append mt_append (pv 2) (pa_cons (pv 4) pa_nil)))))))
    (pss_one (ps_ret (pe_ix ix_list (pv 2) (pv 0) (fun _ _ => rfl))))))), ?_⟩
    refine ⟨_, rfl, _, rfl, n, m, 100, rfl, by omega, by omega, by omega, by omega, ?_⟩
    refine ⟨sz (by simp), fun o no => ?_⟩
    refine ⟨_, rfl, n, 1, rfl, rfl, 1, _, rfl, ⟨by omega, by omega, by omega, by omega⟩, ?_⟩
    rw [show ((n : Int) + 1 - 1).toNat = n by omega]
    refine for_range (lo := 1) (n := n) (fun i σ H3 => ∃ w3 w4 w5 w6, σ = [some (.int (n : Int)), some (.int (m : Int)), some (.ref o), w3, w4, w5, w6] ∧ Same H H3 ∧ H3 o = some (.lst (iv (tbl m i)))) ⟨_, _, _, _, rfl, same_upd no, upd_same⟩ (fun i σ H3 hi hP => ?_) (fun σ H3 hP => ?_)
    · obtain ⟨w3, w4, w5, w6, rfl, sm, eo⟩ := hP
      refine ⟨sz (by simp), fun t nt => ⟨t, _, rfl, .of upd_same, rfl, _, _, rfl, _, _, rfl, rfl, ?_⟩⟩
      have st := same_upd (o := .tup [V.int 0, V.int 1]) nt
      refine ⟨_, rfl, _, rfl, _, _, rfl, _, 1, rfl, rfl, 1, _, rfl, ?_⟩
      rw [show (1 : Int) + ((i : Nat) : Int) = ((i + 1 : Nat) : Int) by omega, min_of_if]
      refine ⟨⟨by omega, by omega, by omega, by omega⟩, ?_⟩
      rw [show (((min m (i + 1) : Nat) : Int) + 1 - 1).toNat = min m (i + 1) by omega]
      refine for_range (lo := 1) (n := min m (i + 1)) (fun s σ H4 => ∃ w6, σ = [some (.int (n : Int)), some (.int (m : Int)), some (.ref o), some (.int ((i + 1 : Nat) : Int)), some (.int (((gw (tbl m i) (i + 1) s).1 : Nat) : Int)), some (.int (((gw (tbl m i) (i + 1) s).2 : Nat) : Int)), w6] ∧ Same H H4 ∧ H4 o = some (.lst (iv (tbl m i)))) ⟨_, rfl, sm.trans st, st _ _ eo⟩ (fun s σ H4 hs hP => ?_) (fun σ H4 hP => ?_)
      · obtain ⟨w6, rfl, s4, eo4⟩ := hP
        have ea : atI (iv (tbl m i)) (((i + 1 : Nat) : Int) - (1 + ((s : Nat) : Int))) = some (.int ((hm (i - s) m : Nat) : Int)) := by
          rw [show ((i + 1 : Nat) : Int) - (1 + ((s : Nat) : Int)) = ((i - s : Nat) : Int) by omega]
          exact iv_at (tbl_get? (by omega))
        have b1 : Builtin.Int.intBits (((gw (tbl m i) (i + 1) s).2 : Nat) : Int) ≤ 700 := bits_of (gw_bits _ (by omega) s (by omega))
        have b2 : Builtin.Int.intBits ((hm (i - s) m : Nat) : Int) ≤ 600 := bits_of (hm_bits (by omega))
        have b3 : Builtin.Int.intBits (((i + 1 : Nat) : Int) - (1 + ((s : Nat) : Int))) ≤ 64 := by
          rw [show ((i + 1 : Nat) : Int) - (1 + ((s : Nat) : Int)) = ((i - s : Nat) : Int) by omega]
          exact bits_small (by omega)
        refine ⟨_, rfl, _, rfl, _, rfl, _, rfl, _, rfl, _, _, rfl, rfl, o, _, _, _, rfl, rfl, .of eo4, ea, _, _, rfl, rfl, PySem.IntMulOk.of_le b1 b2 (by decide), _, _, rfl, rfl, ?_⟩
        refine ⟨_, rfl, _, rfl, _, rfl, _, _, rfl, rfl, _, _, rfl, rfl, .of_right b3, ?_⟩
        refine ⟨some (.int (1 + ((s : Nat) : Int))), ?_, s4, eo4⟩
        have e1 : (((gw (tbl m i) (i + 1) (s + 1)).1 : Nat) : Int) = (((gw (tbl m i) (i + 1) s).1 : Nat) : Int) + (((gw (tbl m i) (i + 1) s).2 : Nat) : Int) * ((hm (i - s) m : Nat) : Int) := by
          rw [gw_succ, tbl_get (show i + 1 - (s + 1) ≤ i by omega), show i + 1 - (s + 1) = i - s by omega]
          push_cast
          rfl
        have e2 : (((gw (tbl m i) (i + 1) (s + 1)).2 : Nat) : Int) = (((gw (tbl m i) (i + 1) s).2 : Nat) : Int) * (((i + 1 : Nat) : Int) - (1 + ((s : Nat) : Int))) := by
          rw [gw_succ, show ((i + 1 : Nat) : Int) - (1 + ((s : Nat) : Int)) = ((i + 1 - (s + 1) : Nat) : Int) by omega, ← Int.natCast_mul]
        rw [e1, e2]
        rfl
      · obtain ⟨w6, rfl, s4, eo4⟩ := hP
        refine ⟨_, rfl, .inl ⟨rfl, _, .of eo4⟩, _, rfl, o, _, _, rfl, rfl, eo4, ?_, ?_⟩
        · rw [iv_len, tbl_len]
          exact szl (by omega)
        · refine ⟨_, _, _, _, rfl, same_mut s4 no, ?_⟩
          rw [upd_same, iv_snoc, tbl_succ]
    · obtain ⟨w3, w4, w5, w6, rfl, sm, eo⟩ := hP
      exact ⟨_, rfl, _, rfl, o, _, _, _, rfl, rfl, .of eo, iv_at (tbl_get? (Nat.le_refl _)), q _ sm⟩
end
end Sb
namespace Sb
open PySem PySem.Spec PyProof.Rows L2
section
variable {P : Program} {w : World} {K : PySem.W.Frag} {mg : Str → Option Value} {base : Heap}
/-! ### opened: of boxes and a hand -/
def spOpened (K : PySem.W.Frag) : Sp := fun vs H Q _ => ∃ (a : Addr) (ns : List Nat) (h : Nat), vs = [.ref a, .int (h : Int)] ∧ SqL K H a (iv ns) ∧ Good ns ∧ h < ns.length ∧ ns.length ≤ 40 ∧ NewL H Q (ringOf ns h)
abbrev n_opened : List Str := ["boxes", "hand"]
theorem sc_opened : FnScope n_opened ["boxes", "hand"] (defScope s_opened) := ⟨rfl, rfl, rfl, by decide +kernel, rfl, by decide +kernel, by decide +kernel⟩
theorem ok_opened (T : Tx K mg) : FnOk P w K mg base CX0 3 T.opened.f T.opened.fd ["boxes", "hand"] (spOpened K) := by
  refine T.opened.F.ok sc_opened (fun vs H Q E h => ?_) (fun cdv A outer s H vs Q E hr h => ?_)
  · obtain ⟨a, ns, h, rfl, _⟩ := h
    rfl
  · obtain ⟨a, ns, h, rfl, hS, g, hh, hlen, q⟩ := h
    refine ⟨_, (pss_cons (ps_expr (pe_df T.check_boxes (ok_check_boxes T) (hr.mono (by decide)) (pa_cons (pv 0) (pa_cons (pe_glob (v := .int 40) rfl T.c_MOST ⟨_, rfl⟩) pa_nil))))
    (pss_cons (ps_if (PW.pt (pw_or (pt_not (pt_val (pe_df T.is_whole (ok_is_whole T) (hr.mono (by decide)) (pa_cons (pv 1) pa_nil)))) (pw_or1 (pt_not (pt_chain op_le op_lt pe_int (pv 1) (pe_callB call_len_seq (by rfl) T.m_len (by decide +kernel) (pa_cons (pv 0) pa_nil)))))))
      (pss_one ps_never)
      pss_nil)
    (pss_one (ps_ret (pe_df T.ring_from (ok_ring_from T) (hr.mono (by decide)) (pa_cons (pv 0) (pa_cons (pv 1) pa_nil))))))), ?_⟩
    refine ⟨_, rfl, a, ns, 40, rfl, hS, g, by omega, by omega, by omega, fun H1 s1 => ?_⟩
    refine ⟨_, rfl, .int h, "int", true, false, rfl, .base (.int _), by decide +kernel, by decide +kernel, _, rfl, iteF ?_⟩
    refine ⟨_, rfl, 0, h, rfl, rfl, _, rfl, ?_⟩
    rw [show decide ((0 : Int) ≤ (h : Int)) = true from decide_eq_true (by omega)]
    refine iteT ⟨.ref a, rfl, a, _, rfl, .inl (s1.seq hS), _, _, rfl, rfl, _, rfl, ?_⟩
    rw [iv_len, show decide ((h : Int) < (ns.length : Int)) = true from decide_eq_true (by omega)]
    refine iteF ?_
    exact ⟨_, rfl, _, rfl, a, ns, h, rfl, s1.seq hS, g, hh, by omega, fun H2 p s2 np ep => q H2 p (s1.trans s2) (s1.free np) ep⟩
end
end Sb
namespace Sb
open PySem PySem.Spec PyProof.Rows L2
section
variable {P : Program} {w : World} {K : PySem.W.Frag} {mg : Str → Option Value} {base : Heap}
/-! ### rings: of boxes -/
theorem Rows.back {H H1 H' : Hp} {ps : List Addr} {rs : List (List Nat)} (s : Same H H1) (R : Rows H1 H' ps rs) : Rows H H' ps rs := ⟨R.len, R.row, fun q hq => s.free (R.new q hq), R.nd⟩
def spRings1 (K : PySem.W.Frag) : Sp := fun vs H Q _ => ∃ (a : Addr) (ns : List Nat), vs = [.ref a] ∧ SqL K H a (iv ns) ∧ Good ns ∧ 1 ≤ ns.length ∧ ns.length ≤ 40 ∧ NewLL H Q (ringsOf ns)
abbrev n_rings : List Str := ["boxes"]
theorem sc_rings : FnScope n_rings ["boxes"] (defScope s_rings) := ⟨rfl, rfl, rfl, by decide +kernel, rfl, by decide +kernel, by decide +kernel⟩
theorem ok_rings (T : Tx K mg) : FnOk P w K mg base CX0 3 T.rings.f T.rings.fd ["boxes"] (spRings1 K) := by
  refine T.rings.F.ok sc_rings (fun vs H Q E h => ?_) (fun cdv A outer s H vs Q E hr h => ?_)
  · obtain ⟨a, ns, rfl, _⟩ := h
    rfl
  · obtain ⟨a, ns, rfl, hS, g, h1, hlen, q⟩ := h
    refine ⟨_, (pss_cons (ps_expr (pe_df T.check_boxes (ok_check_boxes T) (hr.mono (by decide)) (pa_cons (pv 0) (pa_cons (pe_glob (v := .int 40) rfl T.c_MOST ⟨_, rfl⟩) pa_nil))))
    (pss_one (ps_ret (pe_df T.rings_of (ok_rings_of T) (hr.mono (by decide)) (pa_cons (pv 0) pa_nil))))), ?_⟩
    refine ⟨_, rfl, a, ns, 40, rfl, hS, g, by omega, by omega, by omega, fun H1 s1 => ?_⟩
    exact ⟨_, rfl, a, ns, rfl, s1.seq hS, g, by omega, fun H2 p ps s2 np ep R hp => q H2 p ps (s1.trans s2) (s1.free np) ep (R.back s1) hp⟩
end
end Sb
namespace Sb
open PySem PySem.Spec PyProof.Rows L2
/-- a new thing at p, its heap named -/
theorem gen_upd {H H' : Hp} {p : Addr} {o : HO} (np : H p = none) (h : upd H p o = H') : Same H H' ∧ H' p = some o := by
  subst h
  exact ⟨same_upd np, upd_same⟩
/-- what stands outside some places stays -/
def Keeps (A : List Addr) (H H' : Hp) : Prop := ∀ b u, b ∉ A → H b = some u → H' b = some u
theorem Keeps.of {A : List Addr} {H H' : Hp} (s : Same H H') : Keeps A H H' := fun b u _ h => s b u h
theorem Keeps.trans {A : List Addr} {H H' H'' : Hp} (s : Keeps A H H') (t : Keeps A H' H'') : Keeps A H H'' := fun b u hb h => t b u hb (s b u hb h)
theorem Keeps.upd {A : List Addr} {H H' : Hp} {p : Addr} {o : HO} (s : Keeps A H H') (h : p ∈ A) : Keeps A H (upd H' p o) := fun b u hb e => by
  rw [upd_ne fun (z : b = p) => hb (by rw [z]; exact h)]
  exact s b u hb e
theorem Keeps.same {A : List Addr} {H0 H H' : Hp} (s : Same H0 H) (k : Keeps A H H') (h : ∀ a ∈ A, H0 a = none) : Same H0 H' := fun b u e => k b u (fun z => by rw [h b z] at e; cases e) (s b u e)
theorem Keeps.seq {K : PySem.W.Frag} {d a : Addr} {H H' : Hp} {kvs : List (List Key × V)} {xs : List V} (s : Keeps [d] H H') (hd : H d = some (.dT kvs)) (h : SqL K H a xs) : SqL K H' a xs := by
  have ne : ∀ {u : HO}, H a = some u → (∀ k, u ≠ .dT k) → H' a = some u := fun {u} e hu => s a u (fun z => by
    have z : a = d := by simpa using z
    rw [z, hd] at e
    exact hu _ (Option.some.inj e).symm) e
  rcases h with (h | ⟨o, h⟩) | h
  · exact .inl (.inl (ne h fun k z => by cases z))
  · exact .inl (.inr ⟨o, ne h fun k z => by cases z⟩)
  · exact .inr h
theorem Keeps.put {d : Addr} {H H' : Hp} {o : HO} (s : Keeps [d] H H') : Keeps [d] H (L2.upd H' d o) := Keeps.upd s List.mem_cons_self
theorem Keeps.at {d a : Addr} {H H' : Hp} {u : HO} (s : Keeps [d] H H') (h : H a = some u) (hn : a ≠ d) : H' a = some u := s a u (by simpa using hn) h
end Sb
namespace Sb
open PySem PySem.Spec PyProof.Rows L2
/-! ### the dict of what is known -/
def ky (l : List Nat) : List Key := l.map fun (n : Nat) => (Sum.inl (n : Int) : Key)
theorem ky_inj {a b : List Nat} (h : ky a = ky b) : a = b := by
  induction a generalizing b with
  | nil => cases b with
    | nil => rfl
    | cons y b => cases h
  | cons x a ih => cases b with
    | nil => cases h
    | cons y b =>
      have h' : (Sum.inl (x : Int) : Key) :: ky a = Sum.inl (y : Int) :: ky b := h
      injection h' with h1 h2
      injection h1 with h3
      rw [ih h2]
      have : x = y := by omega
      rw [this]
theorem ky_kV (l : List Nat) : (ky l).map kV = iv l := by
  unfold ky
  rw [List.map_map]
  rfl
abbrev kn (m : Nat) (ls : List (List Nat)) : List (List Key × V) := ls.map fun l => (ky l, V.int ((cl m l : Nat) : Int))
theorem kn_in {m : Nat} {l : List Nat} : ∀ {ls : List (List Nat)}, l ∈ ls → valV (kn m ls) (ky l) = some (.int ((cl m l : Nat) : Int))
  | [], h => by cases h
  | x :: ls, h => by
    by_cases e : x = l
    · subst e
      exact valV_pos (p := (ky x, V.int ((cl m x : Nat) : Int))) rfl
    · have : valV (kn m (x :: ls)) (ky l) = valV (kn m ls) (ky l) := valV_neg (p := (ky x, V.int ((cl m x : Nat) : Int))) fun z => e (ky_inj z)
      rw [this]
      exact kn_in ((List.mem_cons.mp h).resolve_left fun z => e z.symm)
theorem kn_out {m : Nat} {l : List Nat} : ∀ {ls : List (List Nat)}, l ∉ ls → valV (kn m ls) (ky l) = none
  | [], _ => rfl
  | x :: ls, h => by
    have e : x ≠ l := fun z => h (by rw [z]; exact List.mem_cons_self)
    have : valV (kn m (x :: ls)) (ky l) = valV (kn m ls) (ky l) := valV_neg (p := (ky x, V.int ((cl m x : Nat) : Int))) fun z => e (ky_inj z)
    rw [this]
    exact kn_out fun z => h (List.mem_cons_of_mem _ z)
/-- at d the ways of some lengths, by these -/
structure KL (m : Nat) (H : Hp) (d : Addr) (ls : List (List Nat)) : Prop where
  at_ : H d = some (.dT (kn m ls))
  nd : ls.Nodup
  few : ∀ l ∈ ls, l ∈ cps 8 8
def KN (m : Nat) (H : Hp) (d : Addr) : Prop := ∃ ls, KL m H d ls
theorem KL.same {m : Nat} {H H' : Hp} {d : Addr} {ls : List (List Nat)} (k : KL m H d ls) (s : Same H H') : KL m H' d ls := ⟨s _ _ k.at_, k.nd, k.few⟩
theorem KN.same {m : Nat} {H H' : Hp} {d : Addr} (k : KN m H d) (s : Same H H') : KN m H' d := by
  obtain ⟨ls, k⟩ := k
  exact ⟨ls, k.same s⟩
theorem KN.seq {K : PySem.W.Frag} {m : Nat} {H H' : Hp} {d a : Addr} {xs : List V} (k : KN m H d) (s : Keeps [d] H H') (h : SqL K H a xs) : SqL K H' a xs := by
  obtain ⟨ls, k⟩ := k
  exact s.seq k.at_ h
theorem KN.ne {m : Nat} {H : Hp} {d a : Addr} {u : HO} (k : KN m H d) (h : H a = some u) (hu : ∀ z, u ≠ .dT z) : a ≠ d := fun e => by
  obtain ⟨ls, k⟩ := k
  rw [e, k.at_] at h
  exact hu _ (Option.some.inj h).symm
theorem sum_cast : ∀ l : List Nat, (l.map fun (n : Nat) => (n : Int)).sum = ((l.sum : Nat) : Int)
  | [] => rfl
  | x :: l => by
    rw [List.map_cons, List.sum_cons, List.sum_cons, sum_cast l]
    push_cast
    rfl
theorem bit_of (q i : Nat) : Builtin.bitAnd (((q : Nat) : Int) / 2 ^ ((i : Nat) : Int).toNat) 1 = ((q / 2 ^ i % 2 : Nat) : Int) := by
  rw [PyProof.Rows.bitAnd_m1, Int.toNat_natCast]
  push_cast
  rfl
theorem dec_nat (a b : Nat) : decide (V.int (a : Int) = V.int (b : Int)) = decide (a = b) := by
  rw [Bool.eq_iff_iff, decide_eq_true_iff, decide_eq_true_iff]
  constructor
  · intro h
    injection h with h
    omega
  · intro h; rw [h]
theorem dec_false {p : Prop} [Decidable p] (h : ¬ decide p = true) : ¬ p := fun z => h (decide_eq_true z)
theorem cut_iv_from1 (x : Nat) (l : List Nat) : cutV (iv (x :: l)) (some 1) none = iv l := by
  unfold cutV
  rw [show HT.sIx (iv (x :: l)).length 0 (some 1) = min 1 (iv (x :: l)).length from HT.sIx_nat _ 0 1, HT.sIx_none]
  rw [show min 1 (iv (x :: l)).length = 1 by rw [iv_len, List.length_cons]; omega]
  show List.take _ (iv l) = _
  rw [List.take_of_length_le]
  rw [iv_len, iv_len, List.length_cons]
  omega
section
variable {P : Program} {w : World} {K : PySem.W.Frag} {mg : Str → Option Value} {base : Heap}
/-! ### closed_ways -/
def spClosed (K : PySem.W.Frag) (d : Nat) : Sp := fun vs H Q _ => ∃ (a kd : Addr) (ch : List Nat) (m : Nat), vs = [.ref a, .int (m : Int), .ref kd] ∧ SqL K H a (iv ch) ∧ ch.length < d ∧ ch.length ≤ 8 ∧ (∀ x ∈ ch, 1 ≤ x) ∧ ch.sum ≤ 8 ∧ KN m H kd ∧ ∀ H', Keeps [kd] H H' → KN m H' kd → Q (.int ((cl m ch : Nat) : Int)) H'
abbrev n_closed_ways : List Str := ["chains", "most", "known", "spot", "first", "others", "found", "number", "taken", "turns", "step", "left", "at", "length"]
theorem sc_closed_ways : FnScope n_closed_ways ["chains", "most", "known"] (defScope s_closed_ways) := ⟨rfl, rfl, rfl, by decide +kernel, rfl, by decide +kernel, by decide +kernel⟩
theorem ok_closed_ways (T : Tx K mg) : ∀ d, FnOk P w K mg base CX0 (d + 1) T.closed_ways.f T.closed_ways.fd ["chains", "most", "known"] (spClosed K d) := by
  intro d
  induction d with
  | zero =>
    refine T.closed_ways.F.ok sc_closed_ways (fun vs H Q E h => ?_) (fun cdv A outer s H vs Q E hr h => ?_)
    · obtain ⟨a, kd, ch, m, rfl, _⟩ := h
      rfl
    · obtain ⟨a, kd, ch, m, rfl, _, h, _⟩ := h
      omega
  | succ d ih =>
  refine T.closed_ways.F.ok sc_closed_ways (fun vs H Q E h => ?_) (fun cdv A outer s H vs Q E hr h => ?_)
  · obtain ⟨a, kd, ch, m, rfl, _⟩ := h
    rfl
  · obtain ⟨a, kd, ch, m, rfl, hA, hd, h8, hpos, hsum, hK, q⟩ := h
    refine ⟨_, (pss_cons (ps_if (pt_cmpR (op_eqD hr.units) (pv 0) (pe_lst pa_nil) (nomark _))
      (pss_one (ps_ret pe_int))
      pss_nil)
    (pss_cons (ps_set (i := 3) sc_closed_ways.nd rfl (.inl rfl) (pe_callTy call_tuple_of (by rfl) T.m_tuple (by decide +kernel) (pa_cons (pe_callB cr_sorted (by rfl) T.m_sorted (by decide +kernel) (pa_cons (pv 0) pa_nil)) pa_nil)))
    (C8.pss_cut (ps_if (pt_cmp (pc_dnotin (hu_of hr) (pv 3) (pv 2)))
      (pss_cons (ps_par3 (i := 4) (j := 5) (l := 6) (by rfl) sc_closed_ways.nd rfl rfl rfl (by decide) (by decide) (by decide) rfl rfl rfl (pa_cons (pe_ix ix_tup (pv 3) pe_int (fun _ _ => rfl)) (pa_cons (pe_callTy call_list_of (by rfl) T.m_list (by decide +kernel) (pa_cons (pe_slice sl_tup (pv 3) (po_some pe_int) po_none) pa_nil)) (pa_cons pe_int pa_nil))) (by rfl))
      (pss_cons (ps_for PassesOwn.never rfl (pi_range1 (by rfl) T.m_range (pa_cons (pe_op op_shl pe_int (pe_callB call_len_seq (by rfl) T.m_len (by decide +kernel) (pa_cons (pv 5) pa_nil))) pa_nil)) (pg_name (i := 7) sc_closed_ways.nd rfl (.inr rfl))
        (pss_cons (ps_setLc (i := 8) (own := [("at", 12), ("length", 13)]) (g := gTup K 2 (gCons (gName 12) (gCons (gName 13) gNil))) rfl sc_closed_ways.nd rfl rfl (sw_true rfl rfl rfl (by decide +kernel)) (pi_enum (by rfl) T.m_enumerate (pa_cons (pv 5) pa_nil)) (blkOk_by (own := [("at", 12), ("length", 13)]) (N := n_closed_ways) (sc := defScope s_closed_ways) (by decide +kernel)) (fun _ _ _ _ _ => (pg_tup rfl (pgs_cons (pg_name (i := 12) sc_closed_ways.nd rfl (.inl rfl)) (pgs_cons (pg_name (i := 13) sc_closed_ways.nd rfl (.inl rfl)) pgs_nil)))) (fun _ _ _ _ _ => (pts_one (pt_cmpR op_eq (pe_op op_and (pe_op op_shr (pv 7) (pv 12)) pe_int) pe_int (nomark _)))) (fun _ _ _ _ _ => (pv 13)))
        (pss_one (ps_if (pt_cmpR op_le (pe_op op_add (pv 4) (pe_callB (cr_sum rfl) (by rfl) T.m_sum (by decide +kernel) (pa_cons (pv 8) pa_nil))) (pv 1) (nomark _))
          (pss_cons (ps_set (i := 9) sc_closed_ways.nd rfl (.inl rfl) pe_int)
          (pss_cons (ps_for PassesOwn.never rfl (pi_range2 (by rfl) T.m_range (pa_cons pe_int (pa_cons (pe_op op_add (pe_callB call_len_seq (by rfl) T.m_len (by decide +kernel) (pa_cons (pv 8) pa_nil)) pe_int) pa_nil))) (pg_name (i := 10) sc_closed_ways.nd rfl (.inl rfl))
            (pss_one (ps_set (i := 9) sc_closed_ways.nd rfl (.inl rfl) (pe_op op_mulX (pv 9) (pv 10)))))
          (pss_cons (ps_setLc (i := 11) (own := [("at", 12), ("length", 13)]) (g := gTup K 2 (gCons (gName 12) (gCons (gName 13) gNil))) rfl sc_closed_ways.nd rfl rfl (sw_true rfl rfl rfl (by decide +kernel)) (pi_enum (by rfl) T.m_enumerate (pa_cons (pv 5) pa_nil)) (blkOk_by (own := [("at", 12), ("length", 13)]) (N := n_closed_ways) (sc := defScope s_closed_ways) (by decide +kernel)) (fun _ _ _ _ _ => (pg_tup rfl (pgs_cons (pg_name (i := 12) sc_closed_ways.nd rfl (.inl rfl)) (pgs_cons (pg_name (i := 13) sc_closed_ways.nd rfl (.inl rfl)) pgs_nil)))) (fun _ _ _ _ _ => (pts_one (pt_cmpR op_eq (pe_op op_and (pe_op op_shr (pv 7) (pv 12)) pe_int) pe_int (nomark _)))) (fun _ _ _ _ _ => (pv 13)))
          (pss_one (ps_set (i := 6) sc_closed_ways.nd rfl (.inl rfl) (pe_op op_add (pv 6) (pe_op op_mulX (pv 9) (pe_df T.closed_ways ih hr (pa_cons (pv 11) (pa_cons (pv 1) (pa_cons (pv 2) pa_nil)))))))))))
          pss_nil))))
      (pss_one (ps_dput (hu_of hr) (pv 2) (pv 3) (pv 6) rfl))))
      pss_nil)
    (pss_one (ps_ret (pe_dget (hu_of hr) (pv 2) (pv 3) (fun _ _ => rfl))))))), ?_⟩
    refine ⟨_, rfl, Nat.zero_le _, fun z nz => ?_⟩
    have s1 := same_upd (o := .lst []) nz
    refine eq_iv (x := ch) (y := []) (s1.seq hA) (.of upd_same) ⟨_, rfl, ite2 (fun e => ?_) (fun e => ?_)⟩
    · have e0 : ch = [] := of_decide_eq_true e
      subst e0
      exact q _ (.of s1) (hK.same s1)
    have hne : ch ≠ [] := dec_false e
    have hA1 : SqL K (upd H z (.lst [])) a ((ch.map fun (n : Nat) => (n : Int)).map V.int) := by rw [← iv_eq]; exact s1.seq hA
    refine ⟨_, rfl, a, _, rfl, hA1, by rw [List.length_map]; omega, fun ns' ps pm rise nps => ?_⟩
    obtain ⟨ms, rfl, pm'⟩ := perm_int pm
    rw [← iv_eq]
    have s2 := same_upd (o := .lst (iv ms)) nps
    refine ⟨ps, _, rfl, .inl ⟨.of upd_same, fun t nt => ?_⟩⟩
    have s3 := same_upd (o := .tup (iv ms)) nt
    have et : (upd (upd (upd H z (.lst [])) ps (.lst (iv ms))) t (.tup (iv ms))) t = some (.tup (iv ms)) := upd_same
    have sA : Same H (upd (upd (upd H z (.lst [])) ps (.lst (iv ms))) t (.tup (iv ms))) := (s1.trans s2).trans s3
    generalize upd (upd (upd H z (.lst [])) ps (.lst (iv ms))) t (.tup (iv ms)) = H1 at *
    clear s1 s2 s3 nz nps nt hA1 pm rise
    obtain ⟨ls, kl⟩ := hK.same sA
    have hcl : cl m ms = cl m ch := cl_perm pm'
    have et' : ∀ {H5 : Hp}, H5 t = some (.tup (iv ms)) → H5 t = some (.tup ((ky ms).map kV)) := fun h => by rw [ky_kV]; exact h
    have hmsl : ms.length = ch.length := pm'.length_eq
    have hmss : ms.sum = ch.sum := pm'.sum_nat
    have hmsp : ∀ x ∈ ms, 1 ≤ x := fun x hx => hpos x (pm'.mem_iff.mp hx)
    refine ⟨fun σ' H5 => ∃ w4 w5 w6 w7 w8 w9 w10 w11, σ' = [some (.ref a), some (.int (m : Int)), some (.ref kd), some (.ref t), w4, w5, w6, w7, w8, w9, w10, w11, none, none] ∧ Keeps [kd] H H5 ∧ H5 t = some (.tup (iv ms)) ∧ ∃ ls, KL m H5 kd ls ∧ ms ∈ ls, ?_, ?_⟩
    · by_cases hin : ms ∈ ls
      · refine ⟨_, rfl, _, rfl, kd, _, rfl, DGet.t (k := ky ms) kl.at_ (et' et), _, rfl, ?_⟩
        rw [kn_in hin]
        exact iteF ⟨_, _, _, _, _, _, _, _, rfl, .of sA, et, ls, kl, hin⟩
      refine ⟨_, rfl, _, rfl, kd, _, rfl, DGet.t (k := ky ms) kl.at_ (et' et), _, rfl, ?_⟩
      rw [kn_out hin]
      refine iteT ?_
      obtain ⟨x, l, el⟩ := List.exists_cons_of_ne_nil (show ms ≠ [] from fun e => hne (List.length_eq_zero_iff.mp (by rw [← hmsl, e]; rfl)))
      subst el
      rw [List.length_cons] at hmsl
      rw [List.sum_cons] at hmss
      -- first, others, found
      refine ⟨_, rfl, t, _, 0, _, rfl, rfl, .of et, iv_at (ns := x :: l) (i := 0) rfl, ?_⟩
      refine ⟨_, rfl, 1, rfl, t, _, rfl, .of et, ?_, fun c nc => ?_⟩
      · rintro ⟨h1, _⟩
        rw [show HT.sIx (iv (x :: l)).length 0 (some 1) = min 1 (iv (x :: l)).length from HT.sIx_nat _ 0 1, iv_len, List.length_cons] at h1
        omega
      rw [cut_iv_from1]
      have s4 := same_upd (o := .tup (iv l)) nc
      refine ⟨c, _, rfl, .inr (.of upd_same), fun o no => ⟨_, _, _, rfl, ?_⟩⟩
      have s5 := same_upd (o := .lst (iv l)) no
      have eo : (upd (upd H1 c (.tup (iv l))) o (.lst (iv l))) o = some (.lst (iv l)) := upd_same
      have s15 := s4.trans s5
      generalize upd (upd H1 c (.tup (iv l))) o (.lst (iv l)) = H2 at *
      clear s4 s5 nc no
      -- for number
      have hl7 : l.length ≤ 7 := by omega
      have hN : 2 ^ l.length ≤ 128 := Nat.le_trans (Nat.pow_le_pow_right (by decide) hl7) (by decide)
      refine ⟨_, rfl, o, _, rfl, .inl (.of eo), 1, _, rfl, rfl, ⟨by omega, by rw [iv_len]; omega, by decide⟩, _, rfl, ?_⟩
      rw [iv_len, Int.one_mul, Int.toNat_natCast, show (2 : Int) ^ l.length = ((2 ^ l.length : Nat) : Int) by push_cast; rfl]
      have hN1 : (0 : Int) ≤ ((2 ^ l.length : Nat) : Int) := Int.natCast_nonneg _
      have hN2 : ((2 ^ l.length : Nat) : Int) ≤ 128 := Int.ofNat_le.mpr hN
      refine ⟨Int.le_trans (by decide) hN1, Int.lt_of_le_of_lt hN2 (by decide), ?_⟩
      rw [Int.toNat_natCast]
      refine for_range (lo := 0) (n := 2 ^ l.length) (fun q σ H3 => ∃ w7 w8 w9 w10 w11, σ = [some (.ref a), some (.int (m : Int)), some (.ref kd), some (.ref t), some (.int (x : Int)), some (.ref o), some (.int ((gainTo m x l q : Nat) : Int)), w7, w8, w9, w10, w11, none, none] ∧ Keeps [kd] H H3 ∧ H3 t = some (.tup (iv (x :: l))) ∧ H3 o = some (.lst (iv l)) ∧ KN m H3 kd) ⟨_, _, _, _, _, rfl, .of (sA.trans s15), s15 _ _ et, eo, ls, kl.same s15⟩ (fun q σ H3 hq hP => ?_) (fun σ H3 hP => ?_)
      · obtain ⟨w7, w8, w9, w10, w11, rfl, k3, et3, eo3, hK3⟩ := hP
        rw [Int.zero_add]
        -- taken
        refine ⟨_, rfl, o, _, rfl, .of eo3, fun D nD => ?_⟩
        refine lc_it (walk_enum (K := K) (a := o) (xs := iv l)) (fun j H4 => Same H3 H4 ∧ H4 D = some (.lst (iv (tk (l.take j) q)))) ⟨same_upd nD, upd_same⟩ (fun j H4 _ h => .of (h.1 _ _ eo3)) (fun j v H4 H5 hj h hy => ?_) (fun H4 h => ?_)
        · obtain ⟨s4, eD⟩ := h
          obtain ⟨tt, x1, y1, rfl, ntt, rfl, hx1, hy1⟩ := hy
          dsimp only at hx1 hy1
          cases hx1
          rw [iv_get?] at hy1
          obtain ⟨y, hyy, rfl⟩ := Option.map_eq_some_iff.mp hy1
          have hjl : j < l.length := (List.getElem?_eq_some_iff.mp hyy).1
          have st := same_upd (o := .tup [V.int (j : Nat), V.int (y : Int)]) ntt
          refine ⟨tt, _, rfl, .of upd_same, rfl, _, _, rfl, _, _, rfl, rfl, rfl, ?_⟩
          refine ⟨_, rfl, _, rfl, _, _, rfl, rfl, (by show (0 : Int) ≤ ((j : Nat) : Int); omega), _, 1, rfl, rfl, rfl, _, rfl, ?_⟩
          have eb : decide (V.int (Builtin.bitAnd (((q : Nat) : Int) / 2 ^ ((j : Nat) : Int).toNat) 1) = V.int 1) = decide (q / 2 ^ j % 2 = 1) := by
            rw [bit_of]
            exact dec_nat _ 1
          rw [eb]
          have e1 : l.take (j + 1) = l.take j ++ [y] := by rw [List.take_add_one, hyy]; rfl
          have e2 : tk (l.take (j + 1)) q = tk (l.take j) q ++ (if q / 2 ^ j % 2 = 1 then [y] else []) := by
            rw [e1, tk_snoc, List.length_take, Nat.min_eq_left (by omega)]
          by_cases hb : q / 2 ^ j % 2 = 1
          · rw [decide_eq_true hb]
            refine iteT ⟨_, rfl, _, st _ _ eD, ?_, same_mut (s4.trans st) nD, ?_⟩
            · rw [iv_len]
              have := tk_lf (l.take j) q
              rw [List.length_take] at this
              exact szl (by omega)
            · rw [upd_same, e2, if_pos hb, iv_snoc]
          · rw [decide_eq_false hb]
            refine iteF ⟨s4.trans st, ?_⟩
            rw [e2, if_neg hb, List.append_nil]
            exact st _ _ eD
        obtain ⟨s4, eD⟩ := h
        rw [iv_len, List.take_length] at eD
        have hl := tk_lf l q
        have hs := tk_sum l q
        have k4 : Keeps [kd] H H4 := k3.trans (.of s4)
        have eD' : SqL K H4 D (((tk l q).map fun (n : Nat) => (n : Int)).map V.int) := by rw [← iv_eq]; exact .of eD
        refine ⟨_, rfl, _, rfl, D, _, rfl, eD', _, _, rfl, rfl, _, rfl, _, _, rfl, rfl, _, rfl, ?_⟩
        rw [sum_cast]
        by_cases hle : x + (tk l q).sum ≤ m
        case neg =>
          rw [show decide ((x : Int) + (((tk l q).sum : Nat) : Int) ≤ (m : Int)) = false from decide_eq_false (by omega)]
          refine iteF ⟨some (.int ((q : Nat) : Int)), some (.ref D), w9, w10, w11, ?_, k4, s4 _ _ et3, s4 _ _ eo3, hK3.same s4⟩
          rw [gainTo_succ, if_neg hle, Nat.add_zero]
          rfl
        rw [show decide ((x : Int) + (((tk l q).sum : Nat) : Int) ≤ (m : Int)) = true from decide_eq_true (by omega)]
        refine iteT ?_
        -- turns
        refine ⟨_, rfl, D, _, rfl, .inl (.of eD), _, 1, rfl, rfl, 2, _, rfl, ?_⟩
        rw [iv_len]
        refine ⟨⟨by omega, by omega, by omega, by omega⟩, ?_⟩
        rw [show (((tk l q).length : Int) + 1 - 2).toNat = (tk l q).length - 1 by omega]
        refine for_range (lo := 2) (n := (tk l q).length - 1) (fun i σ H5 => ∃ w10, σ = [some (.ref a), some (.int (m : Int)), some (.ref kd), some (.ref t), some (.int (x : Int)), some (.ref o), some (.int ((gainTo m x l q : Nat) : Int)), some (.int ((q : Nat) : Int)), some (.ref D), some (.int ((fact (i + 1) : Nat) : Int)), w10, w11, none, none] ∧ H5 = H4) ⟨_, rfl, rfl⟩ (fun i σ H5 hi hP => ?_) (fun σ H5 hP => ?_)
        · obtain ⟨w10, rfl, rfl⟩ := hP
          refine ⟨_, rfl, _, rfl, _, _, rfl, rfl, .of_right ?_, some (.int (2 + ((i : Nat) : Int))), ?_, rfl⟩
          · rw [show (2 : Int) + ((i : Nat) : Int) = ((i + 2 : Nat) : Int) by omega]
            exact bits_small (by omega)
          · have e : ((fact (i + 1 + 1) : Nat) : Int) = ((fact (i + 1) : Nat) : Int) * (2 + ((i : Nat) : Int)) := by
              rw [show (2 : Int) + ((i : Nat) : Int) = ((i + 1 + 1 : Nat) : Int) by omega, ← Int.natCast_mul, Nat.mul_comm]
              rfl
            rw [e]
            rfl
        obtain ⟨w10, rfl, rfl⟩ := hP
        have ef : fact ((tk l q).length - 1 + 1) = fact (tk l q).length := by
          by_cases h0 : (tk l q).length = 0
          · rw [h0]; rfl
          · rw [show (tk l q).length - 1 + 1 = (tk l q).length by omega]
        rw [ef]
        -- left
        have eo4 := s4 _ _ eo3
        refine ⟨_, rfl, o, _, rfl, .of eo4, fun D2 nD2 => ?_⟩
        refine lc_it (walk_enum (K := K) (a := o) (xs := iv l)) (fun j H6 => Same H5 H6 ∧ H6 D2 = some (.lst (iv (lf (l.take j) q)))) ⟨same_upd nD2, upd_same⟩ (fun j H6 _ h => .of (h.1 _ _ eo4)) (fun j v H6 H7 hj h hy => ?_) (fun H6 h => ?_)
        · obtain ⟨s6, eD2⟩ := h
          obtain ⟨tt, x1, y1, rfl, ntt, rfl, hx1, hy1⟩ := hy
          dsimp only at hx1 hy1
          cases hx1
          rw [iv_get?] at hy1
          obtain ⟨y, hyy, rfl⟩ := Option.map_eq_some_iff.mp hy1
          have hjl : j < l.length := (List.getElem?_eq_some_iff.mp hyy).1
          have st := same_upd (o := .tup [V.int (j : Nat), V.int (y : Int)]) ntt
          refine ⟨tt, _, rfl, .of upd_same, rfl, _, _, rfl, _, _, rfl, rfl, rfl, ?_⟩
          refine ⟨_, rfl, _, rfl, _, _, rfl, rfl, (by show (0 : Int) ≤ ((j : Nat) : Int); omega), _, 1, rfl, rfl, rfl, _, rfl, ?_⟩
          have eb : decide (V.int (Builtin.bitAnd (((q : Nat) : Int) / 2 ^ ((j : Nat) : Int).toNat) 1) = V.int 0) = decide (q / 2 ^ j % 2 = 0) := by
            rw [bit_of]
            exact dec_nat _ 0
          rw [eb]
          have e1 : l.take (j + 1) = l.take j ++ [y] := by rw [List.take_add_one, hyy]; rfl
          have e2 : lf (l.take (j + 1)) q = lf (l.take j) q ++ (if q / 2 ^ j % 2 = 0 then [y] else []) := by
            rw [e1, lf_snoc, List.length_take, Nat.min_eq_left (by omega)]
          by_cases hb : q / 2 ^ j % 2 = 0
          · rw [decide_eq_true hb]
            refine iteT ⟨_, rfl, _, st _ _ eD2, ?_, same_mut (s6.trans st) nD2, ?_⟩
            · rw [iv_len]
              have := tk_lf (l.take j) q
              rw [List.length_take] at this
              exact szl (by omega)
            · rw [upd_same, e2, if_pos hb, iv_snoc]
          · rw [decide_eq_false hb]
            refine iteF ⟨s6.trans st, ?_⟩
            rw [e2, if_neg hb, List.append_nil]
            exact st _ _ eD2
        obtain ⟨s6, eD2⟩ := h
        rw [iv_len, List.take_length] at eD2
        have s36 := s4.trans s6
        refine ⟨_, rfl, _, rfl, _, rfl, _, rfl, _, rfl, D2, kd, lf l q, m, rfl, .of eD2, by omega, by omega, fun y hy => hmsp y (List.mem_cons_of_mem _ (lf_mem hy)), by omega, hK3.same s36, fun H7 k7 hK7 => ?_⟩
        have b1 : Builtin.Int.intBits ((fact (tk l q).length : Nat) : Int) ≤ 64 := bits_of (Nat.lt_of_le_of_lt (fact_le _ 8 (by omega)) (by decide))
        refine ⟨_, _, rfl, rfl, .of_left b1, _, _, rfl, rfl, ?_⟩
        have hK6 := hK3.same s36
        refine ⟨some (.int ((q : Nat) : Int)), some (.ref D), some (.int ((fact (tk l q).length : Nat) : Int)), w10, some (.ref D2), ?_, (k4.trans (.of s6)).trans k7, k7.at (s36 _ _ et3) (hK6.ne (s36 _ _ et3) fun z e => by cases e), k7.at (s36 _ _ eo3) (hK6.ne (s36 _ _ eo3) fun z e => by cases e), hK7⟩
        have e : ((gainTo m x l (q + 1) : Nat) : Int) = ((gainTo m x l q : Nat) : Int) + ((fact (tk l q).length : Nat) : Int) * ((cl m (lf l q) : Nat) : Int) := by
          rw [gainTo_succ, if_pos hle]
          push_cast
          rfl
        rw [e]
        rfl
      · obtain ⟨w7, w8, w9, w10, w11, rfl, k3, et3, eo3, ls3, kl3⟩ := hP
        rw [gainTo_all]
        have hfew : (x :: l) ∈ cps 8 8 := mem_cps (by rw [List.length_cons]; omega) hmsp (by rw [List.sum_cons]; omega)
        have hlen : (kn m ls3).length < sizeLine := by
          rw [List.length_map]
          have h1 := nodup_sub kl3.nd kl3.few
          have h2 := cps_len
          exact szl (by omega)
        refine ⟨_, rfl, _, rfl, _, rfl, kd, _, rfl, DPut.t (k := ky (x :: l)) kl3.at_ (et' et3) hlen, ?_⟩
        have ntk : t ≠ kd := (show KN m H3 kd from ⟨ls3, kl3⟩).ne et3 fun z e => by cases e
        by_cases hin3 : (x :: l) ∈ ls3
        · have ep : putK (kn m ls3) (ky (x :: l)) (.int ((cl m (x :: l) : Nat) : Int)) = kn m ls3 := by
            unfold putK
            rw [valV_any, kn_in hin3, Option.isSome_some, if_pos rfl]
            conv => rhs; rw [← List.map_id (kn m ls3)]
            apply List.map_congr_left
            intro p hp
            obtain ⟨l', hl', rfl⟩ := List.mem_map.mp hp
            by_cases e : ky l' = ky (x :: l)
            · rw [if_pos e, ← ky_inj e]
              rfl
            · rw [if_neg e]
              rfl
          rw [ep]
          refine ⟨_, _, _, _, _, _, _, _, rfl, k3.put, by rw [upd_ne ntk]; exact et3, ls3, ⟨upd_same, kl3.nd, kl3.few⟩, hin3⟩
        · rw [putK_new _ (kn_out hin3)]
          refine ⟨_, _, _, _, _, _, _, _, rfl, k3.put, by rw [upd_ne ntk]; exact et3, ls3 ++ [x :: l], ⟨?_, ?_, ?_⟩, by simp⟩
          · rw [upd_same]
            show _ = some (HO.dT (List.map _ (ls3 ++ [x :: l])))
            rw [List.map_append]
            rfl
          · rw [List.nodup_append]
            refine ⟨kl3.nd, by simp, fun a ha b hb e => ?_⟩
            simp at hb
            subst hb
            subst e
            exact hin3 ha
          · intro l' hl'
            rcases List.mem_append.mp hl' with h | h
            · exact kl3.few l' h
            · simp at h
              subst h
              exact hfew
    · rintro σ' H5 ⟨w4, w5, w6, w7, w8, w9, w10, w11, rfl, k5, et5, ls5, kl5, hin5⟩
      refine ⟨_, rfl, _, rfl, kd, _, rfl, by rw [← kn_in hin5]; exact DGet.t (k := ky ms) kl5.at_ (et' et5), ?_⟩
      rw [hcl]
      exact q _ k5 ⟨ls5, kl5⟩
end
end Sb
namespace Sb
open PySem PySem.Spec PyProof.Rows L2
theorem take_snoc {l : List Nat} {j x : Nat} (h : l[j]? = some x) : l.take (j + 1) = l.take j ++ [x] := by
  rw [List.take_add_one, h]; rfl
theorem flat_app (ns ms : List Nat) : iv ns ++ iv ms = iv (ns ++ ms) := (List.map_append ..).symm
/-- a box that lies behind no chain lies in a ring -/
theorem Lay.inRing {n : Nat} {p : List Nat} {P : Nat → List Nat} {C : List (List Nat)} (L : Lay n p P C) {b : Nat} (hb : b < n) (h : b ∉ (begins n p).flatMap P) : ∃ c ∈ C, b ∈ c := by
  have := L.all.mem_iff.mpr (List.mem_range.mpr hb)
  rcases List.mem_append.mp this with z | z
  · exact absurd z h
  · obtain ⟨c, hc, hbc⟩ := List.mem_flatten.mp z
    exact ⟨c, hc, hbc⟩
theorem Lay.ringNd {n : Nat} {p : List Nat} {P : Nat → List Nat} {C : List (List Nat)} (L : Lay n p P C) {c : List Nat} (hc : c ∈ C) : c.Nodup ∧ c.length ≤ n ∧ ∀ x ∈ c, x < p.length := by
  have nd := (List.nodup_append.mp L.nodup).2.1
  have h1 := (List.perm_cons_erase hc).flatten.nodup_iff.mp nd
  rw [List.flatten_cons] at h1
  have ndc := (List.nodup_append.mp h1).1
  have lt : ∀ x ∈ c, x < n := fun x hx => List.mem_range.mp (L.all.mem_iff.mp (List.mem_append_right _ (List.mem_flatten.mpr ⟨c, hc, hx⟩)))
  refine ⟨ndc, nodup_le ndc lt, fun x hx => ?_⟩
  obtain ⟨i, hi⟩ := List.mem_iff_getElem?.mp hx
  have R := L.round c hc
  have := R.step i x hi
  rw [List.getElem?_eq_getElem (Nat.mod_lt _ R.pos)] at this
  exact (List.getElem?_eq_some_iff.mp this).1
theorem Lay.flatLen {n : Nat} {p : List Nat} {P : Nat → List Nat} {C : List (List Nat)} (L : Lay n p P C) : ((begins n p).flatMap P).length ≤ n := by
  have := L.all.length_eq
  rw [List.length_append, List.length_range] at this
  omega
theorem flatMap_take_len {P : Nat → List Nat} (bs : List Nat) (j : Nat) : ((bs.take j).flatMap P).length ≤ (bs.flatMap P).length := by
  conv => rhs; rw [← List.take_append_drop j bs, List.flatMap_append, List.length_append]
  omega
theorem flatMap_take_succ {P : Nat → List Nat} {bs : List Nat} {j b : Nat} (h : bs[j]? = some b) : (bs.take (j + 1)).flatMap P = (bs.take j).flatMap P ++ P b := by
  rw [take_snoc h, List.flatMap_append]
  simp
theorem lens_sum (n : Nat) (p : List Nat) (P : Nat → List Nat) : (lens n p P).sum = ((begins n p).flatMap P).length := by
  unfold lens
  rw [List.length_flatMap]
section
variable {P : Program} {w : World} {K : PySem.W.Frag} {mg : Str → Option Value} {base : Heap}
/-! ### ways_behind -/
def spWays (K : PySem.W.Frag) : Sp := fun vs H Q _ => ∃ (a kd : Addr) (p : List Nat) (Pt : Nat → List Nat) (C : List (List Nat)) (n m : Nat), vs = [.ref a, .int (n : Int), .int (m : Int), .ref kd] ∧ SqL K H a (iv p) ∧ Lay n p Pt C ∧ n ≤ 8 ∧ KN m H kd ∧ ∀ H', Keeps [kd] H H' → KN m H' kd → Q (.int ((val n m p Pt C : Nat) : Int)) H'
abbrev n_ways_behind : List Str := ["slips", "boxes", "most", "known", "begins", "lengths", "done", "box", "here", "length"]
theorem sc_ways_behind : FnScope n_ways_behind ["slips", "boxes", "most", "known"] (defScope s_ways_behind) := ⟨rfl, rfl, rfl, by decide +kernel, rfl, by decide +kernel, by decide +kernel⟩
theorem ok_ways_behind (T : Tx K mg) : FnOk P w K mg base CX0 11 T.ways_behind.f T.ways_behind.fd ["slips", "boxes", "most", "known"] (spWays K) := by
  refine T.ways_behind.F.ok sc_ways_behind (fun vs H Q E h => ?_) (fun cdv A outer s H vs Q E hr h => ?_)
  · obtain ⟨a, kd, p, Pt, C, n, m, rfl, _⟩ := h
    rfl
  · obtain ⟨a, kd, p, Pt, C, n, m, rfl, hA, L, hn, hK, q⟩ := h
    refine ⟨_, (pss_cons (ps_setLc (i := 4) (own := [("box", 7)]) (g := gName 7) rfl sc_ways_behind.nd rfl rfl (sw_true rfl rfl rfl (by decide +kernel)) (pi_range1 (by rfl) T.m_range (pa_cons (pv 1) pa_nil)) (blkOk_by (own := [("box", 7)]) (N := n_ways_behind) (sc := defScope s_ways_behind) (by decide +kernel)) (fun _ _ _ _ _ => (pg_name (i := 7) sc_ways_behind.nd rfl (.inl rfl))) (fun _ _ _ _ _ => (pts_one (pt_cmpR (op_notIn_seqK (K := K) rfl) (pv 7) (pv 0) (by rfl)))) (fun _ _ _ _ _ => (pv 7)))
    (pss_cons (ps_set (i := 5) sc_ways_behind.nd rfl (.inl rfl) (pe_lst pa_nil))
    (pss_cons (ps_set (i := 6) sc_ways_behind.nd rfl (.inl rfl) (pe_lst pa_nil))
    (pss_cons (ps_for PassesOwn.never rfl (pi_list (pv 4)) (pg_name (i := 7) sc_ways_behind.nd rfl (.inl rfl))
      (pss_cons (ps_par (i := 8) (j := 9) (by rfl) sc_ways_behind.nd rfl rfl (by decide) rfl rfl (pa_cons (pv 7) (pa_cons pe_int pa_nil)) (by rfl))
      (pss_cons (ps_expr (pe_bm PySem.F.plainAttrs_list PySem.F.slot_list_append PySem.F.type_list_append mt_append (pv 6) (pa_cons (pv 8) pa_nil)))
      (pss_cons (ps_while PassesOwn.never (pt_cmpR op_lt (pv 8) (pe_callB call_len_seq (by rfl) T.m_len (by decide +kernel) (pa_cons (pv 0) pa_nil)) (nomark _))
        (pss_cons (ps_par (i := 8) (j := 9) (by rfl) sc_ways_behind.nd rfl rfl (by decide) rfl rfl (pa_cons (pe_ix ix_list (pv 0) (pv 8) (fun _ _ => rfl)) (pa_cons (pe_op op_add (pv 9) pe_int) pa_nil)) (by rfl))
        (pss_one (ps_expr (pe_bm PySem.F.plainAttrs_list PySem.F.slot_list_append PySem.F.type_list_append mt_append (pv 6) (pa_cons (pv 8) pa_nil))))))
      (pss_one (ps_expr (pe_bm PySem.F.plainAttrs_list PySem.F.slot_list_append PySem.F.type_list_append mt_append (pv 5) (pa_cons (pv 9) pa_nil))))))))
    (pss_cons (ps_for PassesOwn.never rfl (pi_range1 (by rfl) T.m_range (pa_cons (pv 1) pa_nil)) (pg_name (i := 7) sc_ways_behind.nd rfl (.inl rfl))
      (pss_one (ps_if (pt_cmpR op_notIn_seq (pv 7) (pv 6) (by rfl))
        (pss_cons (ps_par (i := 8) (j := 9) (by rfl) sc_ways_behind.nd rfl rfl (by decide) rfl rfl (pa_cons (pe_ix ix_list (pv 0) (pv 7) (fun _ _ => rfl)) (pa_cons pe_int pa_nil)) (by rfl))
        (pss_cons (ps_while PassesOwn.never (pt_cmpR op_ne (pv 8) (pv 7) (nomark _))
          (pss_one (ps_par (i := 8) (j := 9) (by rfl) sc_ways_behind.nd rfl rfl (by decide) rfl rfl (pa_cons (pe_ix ix_list (pv 0) (pv 8) (fun _ _ => rfl)) (pa_cons (pe_op op_add (pv 9) pe_int) pa_nil)) (by rfl))))
        (pss_one (ps_if (pt_cmpR op_gt (pv 9) (pv 2) (nomark _))
          (pss_one (ps_ret pe_int))
          pss_nil))))
        pss_nil)))
    (pss_one (ps_ret (pe_df T.closed_ways (ok_closed_ways T 9) (hr.mono (by decide)) (pa_cons (pv 5) (pa_cons (pv 2) (pa_cons (pv 3) pa_nil))))))))))), ?_⟩
    have hfl := L.flatLen
    -- begins
    refine ⟨_, rfl, n, rfl, by omega, by omega, fun D nD => ?_⟩
    rw [Int.toNat_natCast]
    refine lc_range (lo := 0) (n := n) (fun i H3 => Same H H3 ∧ H3 D = some (.lst (iv ((List.range i).filter fun b => decide (b ∉ p))))) ⟨same_upd nD, upd_same⟩ (fun i H3 hi h => ?_) (fun H3 h => ?_)
    · obtain ⟨sm, eD⟩ := h
      rw [Int.zero_add]
      refine ⟨rfl, _, rfl, _, rfl, a, _, rfl, .inl (sm.seq hA), rfl, flat_iv _, _, rfl, ?_⟩
      rw [if_pos rfl, inV_iv]
      have hlen : ((List.range i).filter fun b => decide (b ∉ p)).length ≤ i := Nat.le_trans (List.length_filter_le _ _) (by rw [List.length_range]; exact Nat.le_refl _)
      by_cases hip : i ∈ p
      · rw [decide_eq_true hip]
        refine iteF ⟨sm, ?_⟩
        rw [List.range_succ, List.filter_append, List.filter_cons_of_neg (by simpa using hip), List.filter_nil, List.append_nil]
        exact eD
      · rw [decide_eq_false hip]
        refine iteT ⟨_, rfl, _, eD, by rw [iv_len]; exact szl (by omega), same_mut sm nD, ?_⟩
        rw [upd_same, List.range_succ, List.filter_append, List.filter_cons_of_pos (by simpa using hip), List.filter_nil, iv_snoc]
    obtain ⟨s3, eD⟩ := h
    have eD : H3 D = some (.lst (iv (begins n p))) := eD
    -- lengths, done
    refine ⟨Nat.zero_le _, fun le nle => ⟨Nat.zero_le _, fun dn ndn => ?_⟩⟩
    have s4 := same_upd (o := .lst []) nle
    have s5 := same_upd (o := .lst []) ndn
    have nld : le ≠ dn := fun e => by rw [← e, upd_same] at ndn; cases ndn
    have nDl : D ≠ le := ne_of_none eD nle
    have nDd : D ≠ dn := ne_of_none (s4 _ _ eD) ndn
    have hle0 := s3.free nle
    have hdn0 := (s3.trans s4).free ndn
    have eD5 := s5 _ _ (s4 _ _ eD)
    refine ⟨_, rfl, D, rfl, ⟨_, .of eD5⟩, ?_⟩
    refine for_list (K := K) (a := D) (xs := iv (begins n p)) (fun j σ H6 => ∃ w7 w8 w9, σ = [some (.ref a), some (.int (n : Int)), some (.int (m : Int)), some (.ref kd), some (.ref D), some (.ref le), some (.ref dn), w7, w8, w9] ∧ Same H H6 ∧ H6 D = some (.lst (iv (begins n p))) ∧ H6 le = some (.lst (iv (((begins n p).take j).map fun b => (Pt b).length))) ∧ H6 dn = some (.lst (iv (((begins n p).take j).flatMap Pt)))) ⟨_, _, _, rfl, (s3.trans s4).trans s5, eD5, s5 _ _ upd_same, upd_same⟩ (fun j σ H6 _ h => ?_) (fun j v σ H6 hv hP => ?_) (fun σ H6 hP => ?_)
    · obtain ⟨_, _, _, _, _, e, _⟩ := h
      exact .of e
    · obtain ⟨w7, w8, w9, rfl, s6, eD6, el6, ed6⟩ := hP
      rw [iv_get?] at hv
      obtain ⟨b, hb, rfl⟩ := Option.map_eq_some_iff.mp hv
      have hbm := List.mem_of_getElem? hb
      have pa := L.path b hbm
      have hpos := pa.pos
      have hj : j < (begins n p).length := (List.getElem?_eq_some_iff.mp hb).1
      have hfs := flatMap_take_succ (P := Pt) hb
      have hfl2 := flatMap_take_len (P := Pt) (begins n p) (j + 1)
      rw [hfs, List.length_append] at hfl2
      refine ⟨_, rfl, _, _, rfl, ?_⟩
      refine ⟨_, rfl, .inl ⟨rfl, _, .of ed6⟩, _, rfl, dn, _, _, rfl, rfl, ed6, by rw [iv_len]; exact szl (by omega), ?_⟩
      rw [iv_snoc]
      -- while here < len(slips)
      refine ⟨fun mm σ H7 => ∃ (t x : Nat), σ = [some (.ref a), some (.int (n : Int)), some (.int (m : Int)), some (.ref kd), some (.ref D), some (.ref le), some (.ref dn), some (.int (b : Int)), some (.int (x : Int)), some (.int ((t + 1 : Nat) : Int))] ∧ Same H H7 ∧ H7 D = some (.lst (iv (begins n p))) ∧ H7 le = some (.lst (iv (((begins n p).take j).map fun b => (Pt b).length))) ∧ (Pt b)[t]? = some x ∧ H7 dn = some (.lst (iv (((begins n p).take j).flatMap Pt ++ (Pt b).take (t + 1)))) ∧ mm = (Pt b).length - t, ⟨_, 0, b, rfl, same_mut s6 hdn0, by rw [upd_ne nDd]; exact eD6, by rw [upd_ne nld]; exact el6, pa.head, ?_, rfl⟩, fun mm σ H7 hW => ?_⟩
      · rw [upd_same, take_snoc pa.head]
        rfl
      obtain ⟨t, x, rfl, s7, eD7, el7, htx, ed7, rfl⟩ := hW
      have ht : t < (Pt b).length := (List.getElem?_eq_some_iff.mp htx).1
      refine ⟨_, rfl, _, rfl, a, _, rfl, .inl (s7.seq hA), _, _, rfl, rfl, _, rfl, ?_⟩
      rw [iv_len]
      by_cases hlast : t + 1 < (Pt b).length
      · have hy := List.getElem?_eq_getElem hlast
        have hpx := pa.step t x _ htx hy
        have hxp := (List.getElem?_eq_some_iff.mp hpx).1
        rw [show decide ((x : Int) < (p.length : Int)) = true from decide_eq_true (by omega)]
        refine iteT ⟨fun σ' H' => ∃ (y : Nat), σ' = [some (.ref a), some (.int (n : Int)), some (.int (m : Int)), some (.ref kd), some (.ref D), some (.ref le), some (.ref dn), some (.int (b : Int)), some (.int (y : Int)), some (.int ((t + 1 + 1 : Nat) : Int))] ∧ Same H H' ∧ H' D = some (.lst (iv (begins n p))) ∧ H' le = some (.lst (iv (((begins n p).take j).map fun b => (Pt b).length))) ∧ (Pt b)[t + 1]? = some y ∧ H' dn = some (.lst (iv (((begins n p).take j).flatMap Pt ++ (Pt b).take (t + 1 + 1)))), fun σ' H' hN => ?_, ?_⟩
        · obtain ⟨y, e1, e2, e3, e4, e5, e6⟩ := hN
          exact ⟨_, by omega, t + 1, y, e1, e2, e3, e4, e5, e6, rfl⟩
        · refine ⟨_, rfl, _, rfl, a, _, _, _, rfl, rfl, s7.seq hA, iv_at hpx, _, rfl, _, 1, rfl, rfl, _, _, rfl, ?_⟩
          refine ⟨_, rfl, .inl ⟨rfl, _, .of ed7⟩, _, rfl, dn, _, _, rfl, rfl, ed7, ?_, ?_⟩
          · rw [iv_len, List.length_append, List.length_take]
            exact szl (by omega)
          · refine ⟨_, by push_cast; rfl, same_mut s7 hdn0, by rw [upd_ne nDd]; exact eD7, by rw [upd_ne nld]; exact el7, hy, ?_⟩
            rw [upd_same, iv_snoc, List.append_assoc, take_snoc hy]
      · have hxl : p.length ≤ x := pa.last x (by rw [show (Pt b).length - 1 = t by omega]; exact htx)
        rw [show decide ((x : Int) < (p.length : Int)) = false from decide_eq_false (by omega)]
        refine iteF ⟨_, rfl, .inl ⟨rfl, _, .of el7⟩, _, rfl, le, _, _, rfl, rfl, el7, ?_, ?_⟩
        · rw [iv_len, List.length_map, List.length_take]
          have := (begins_nd n p)
          have := nodup_le this fun y hy => (mem_begins.mp hy).1
          exact szl (by omega)
        · refine ⟨_, _, _, rfl, same_mut s7 hle0, by rw [upd_ne nDl]; exact eD7, ?_, ?_⟩
          · rw [upd_same, take_snoc hb, List.map_append, show t + 1 = (Pt b).length by omega, iv_snoc]
            rfl
          · rw [upd_ne nld.symm, hfs]
            rw [List.take_of_length_le (l := Pt b) (i := t + 1) (by omega)] at ed7
            exact ed7
    obtain ⟨w7, w8, w9, rfl, s6, eD6, el6, ed6⟩ := hP
    rw [iv_len, List.take_length] at el6 ed6
    clear s3 s4 s5 nD nle ndn
    -- for box in range(boxes)
    refine ⟨_, rfl, n, rfl, by omega, by omega, ?_⟩
    rw [Int.toNat_natCast]
    refine for_range (lo := 0) (n := n) (fun k σ H7 => ∃ w7 w8 w9, σ = [some (.ref a), some (.int (n : Int)), some (.int (m : Int)), some (.ref kd), some (.ref D), some (.ref le), some (.ref dn), w7, w8, w9] ∧ H7 = H6 ∧ ∀ c ∈ C, (∃ x ∈ c, x < k) → c.length ≤ m) ⟨_, _, _, rfl, rfl, fun c _ h => by obtain ⟨x, _, h⟩ := h; omega⟩ (fun k σ H7 hk hP => ?_) (fun σ H7 hP => ?_)
    · obtain ⟨w7, w8, w9, rfl, rfl, hC⟩ := hP
      rw [Int.zero_add]
      refine ⟨_, rfl, _, rfl, dn, _, rfl, .inl (.of ed6), rfl, flat_iv _, _, rfl, ?_⟩
      rw [if_pos rfl, inV_iv]
      by_cases hin : k ∈ (begins n p).flatMap Pt
      · rw [decide_eq_true hin]
        refine iteF ⟨_, _, _, rfl, rfl, fun c hc h => ?_⟩
        obtain ⟨x, hx, hxk⟩ := h
        by_cases e : x = k
        · subst e
          exact absurd rfl ((List.nodup_append.mp L.nodup).2.2 x hin x (List.mem_flatten.mpr ⟨c, hc, hx⟩))
        · exact hC c hc ⟨x, hx, by omega⟩
      rw [decide_eq_false hin]
      refine iteT ?_
      obtain ⟨c, hc, hkc⟩ := L.inRing hk hin
      obtain ⟨ndc, hcn, hcl⟩ := L.ringNd hc
      have R := L.round c hc
      have hcp := R.pos
      obtain ⟨i, hi⟩ := List.mem_iff_getElem?.mp hkc
      have hic : i < c.length := (List.getElem?_eq_some_iff.mp hi).1
      have nx : ∀ (t x : Nat), c[t % c.length]? = some x → p[x]? = c[(t + 1) % c.length]? := fun t x h => by
        have := R.step _ x h
        rw [this]
        congr 1
        rw [Nat.add_mod, Nat.mod_mod, ← Nat.add_mod]
      have h0 : c[i % c.length]? = some k := by rw [Nat.mod_eq_of_lt hic]; exact hi
      have h1 := nx i k h0
      have hm1 := Nat.mod_lt (i + 1) hcp
      rw [List.getElem?_eq_getElem hm1] at h1
      refine ⟨_, rfl, _, rfl, a, _, _, _, rfl, rfl, s6.seq hA, iv_at h1, _, _, rfl, ?_⟩
      -- while here != box
      refine ⟨fun mm σ H8 => ∃ (t x : Nat), σ = [some (.ref a), some (.int (n : Int)), some (.int (m : Int)), some (.ref kd), some (.ref D), some (.ref le), some (.ref dn), some (.int (k : Int)), some (.int (x : Int)), some (.int ((t + 1 : Nat) : Int))] ∧ H8 = H7 ∧ t < c.length ∧ c[(i + 1 + t) % c.length]? = some x ∧ mm = c.length - t, ⟨_, 0, _, rfl, rfl, hcp, List.getElem?_eq_getElem hm1, rfl⟩, fun mm σ H8 hW => ?_⟩
      obtain ⟨t, x, rfl, rfl, ht, hx, rfl⟩ := hW
      refine ⟨_, rfl, _, rfl, rfl, _, rfl, ?_⟩
      rw [dec_nat]
      have hxk : x = k ↔ t + 1 = c.length := by
        constructor
        · intro e
          subst e
          have h2 := nd_ix ndc hx hi
          by_cases h3 : i + 1 + t < c.length
          · rw [Nat.mod_eq_of_lt h3] at h2
            omega
          · have h4 : (i + 1 + t) % c.length = i + 1 + t - c.length := by
              rw [Nat.mod_eq_sub_mod (by omega), Nat.mod_eq_of_lt (by omega)]
            omega
        · intro e
          have h4 : (i + 1 + t) % c.length = i := by
            rw [show i + 1 + t = i + c.length by omega, Nat.add_mod_right, Nat.mod_eq_of_lt hic]
          rw [h4, hi] at hx
          exact (Option.some.inj hx).symm
      by_cases he : x = k
      · rw [decide_eq_true he]
        refine iteF ⟨_, rfl, _, rfl, _, _, rfl, rfl, _, rfl, ?_⟩
        have hl := hxk.mp he
        rw [hl]
        by_cases hm : c.length ≤ m
        · rw [show decide (((c.length : Nat) : Int) > (m : Int)) = false from decide_eq_false (by omega)]
          refine iteF ⟨_, _, _, rfl, rfl, fun c' hc' h => ?_⟩
          obtain ⟨y, hy, hyk⟩ := h
          by_cases e : y < k
          · exact hC c' hc' ⟨y, hy, e⟩
          · have : y = k := by omega
            subst this
            have : c' = c := by
              by_cases z : c' = c
              · exact z
              · have nd := (List.nodup_append.mp L.nodup).2.1
                have h5 := (List.perm_cons_erase hc).flatten.nodup_iff.mp nd
                rw [List.flatten_cons] at h5
                exact absurd rfl ((List.nodup_append.mp h5).2.2 y hkc y (List.mem_flatten.mpr ⟨c', (List.mem_erase_of_ne z).mpr hc', hy⟩))
            subst this
            exact hm
        · rw [show decide (((c.length : Nat) : Int) > (m : Int)) = true from decide_eq_true (by omega)]
          refine iteT ?_
          have := q H8 (.of s6) (hK.same s6)
          unfold val at this
          rw [if_neg fun z => hm (z c hc)] at this
          exact this
      · rw [decide_eq_false he]
        have ht2 : t + 1 < c.length := by
          by_cases z : t + 1 = c.length
          · exact absurd (hxk.mpr z) he
          · omega
        have hp2 := nx _ x hx
        have hm2 := Nat.mod_lt (i + 1 + t + 1) hcp
        rw [List.getElem?_eq_getElem hm2] at hp2
        refine iteT ⟨fun σ' H' => ∃ (y : Nat), σ' = [some (.ref a), some (.int (n : Int)), some (.int (m : Int)), some (.ref kd), some (.ref D), some (.ref le), some (.ref dn), some (.int (k : Int)), some (.int (y : Int)), some (.int ((t + 1 + 1 : Nat) : Int))] ∧ H' = H8 ∧ c[(i + 1 + (t + 1)) % c.length]? = some y, fun σ' H' hN => ?_, ?_⟩
        · obtain ⟨y, e1, e2, e3⟩ := hN
          exact ⟨_, by omega, t + 1, y, e1, e2, ht2, e3, rfl⟩
        · refine ⟨_, rfl, _, rfl, a, _, _, _, rfl, rfl, s6.seq hA, iv_at hp2, _, rfl, _, 1, rfl, rfl, _, _, rfl, ?_⟩
          exact ⟨_, by push_cast; rfl, rfl, List.getElem?_eq_getElem hm2⟩
    · obtain ⟨w7, w8, w9, rfl, rfl, hC⟩ := hP
      have hS : Small C m := fun c hc => by
        have R := L.round c hc
        have hx : c[0]'R.pos ∈ c := List.getElem_mem R.pos
        obtain ⟨_, _, hl⟩ := L.ringNd hc
        have := L.len
        exact hC c hc ⟨_, hx, by have := hl _ hx; omega⟩
      have hll : (lens n p Pt).length ≤ 8 := by
        unfold lens
        rw [List.length_map]
        have := nodup_le (begins_nd n p) fun y hy => (mem_begins.mp hy).1
        omega
      refine ⟨_, rfl, _, rfl, _, rfl, le, kd, lens n p Pt, m, rfl, .of el6, by omega, hll, fun x hx => ?_, by rw [lens_sum]; omega, hK.same s6, fun H8 k8 hK8 => ?_⟩
      · obtain ⟨b, hb, rfl⟩ := List.mem_map.mp hx
        exact (L.path b hb).pos
      · have := q H8 ((Keeps.of s6).trans k8) hK8
        unfold val at this
        rw [if_pos hS] at this
        exact this
end
end Sb
namespace Sb
open PySem PySem.Spec PyProof.Rows L2
theorem snoc_nd {p : List Nat} {s : Nat} (nd : p.Nodup) (h : s ∉ p) : (p ++ [s]).Nodup := by
  rw [List.nodup_append]
  refine ⟨nd, by simp, fun a ha b hb e => ?_⟩
  simp at hb
  subst hb
  exact h (e ▸ ha)
theorem snoc_lt {p : List Nat} {s n : Nat} (lt : ∀ x ∈ p, x < n) (h : s < n) : ∀ x ∈ p ++ [s], x < n := fun x hx => by
  rcases List.mem_append.mp hx with z | z
  · exact lt x z
  · simp at z; omega
section
variable {P : Program} {w : World} {K : PySem.W.Frag} {mg : Str → Option Value} {base : Heap}
/-! ### setting_by -/
def spBy : Sp := fun vs H Q _ => ∃ (n m i : Nat) (x : List Nat), vs = [.int (n : Int), .int (m : Int), .int (i : Int)] ∧ 1 ≤ n ∧ n ≤ 8 ∧ 1 ≤ m ∧ m ≤ n ∧ (wins n m n [])[i]? = some x ∧ NewL H Q x
abbrev n_setting_by : List Str := ["boxes", "most", "number", "found", "known", "box", "slip", "many"]
theorem sc_setting_by : FnScope n_setting_by ["boxes", "most", "number"] (defScope s_setting_by) := ⟨rfl, rfl, rfl, by decide +kernel, rfl, by decide +kernel, by decide +kernel⟩
theorem ok_setting_by (T : Tx K mg) : FnOk P w K mg base CX0 12 T.setting_by.f T.setting_by.fd ["boxes", "most", "number"] spBy := by
  refine T.setting_by.F.ok sc_setting_by (fun vs H Q E h => ?_) (fun cdv A outer s H vs Q E hr h => ?_)
  · obtain ⟨n, m, i, x, rfl, _⟩ := h
    rfl
  · obtain ⟨n, m, i, x, rfl, hn1, hn, hm1, hmn, hx, q⟩ := h
    refine ⟨_, (pss_cons (ps_expr (pe_df T.check_counts (ok_check_counts T) (hr.mono (by decide)) (pa_cons (pv 0) (pa_cons (pv 1) (pa_cons (pe_glob (v := .int 8) rfl T.c_NUMBERED ⟨_, rfl⟩) pa_nil)))))
    (pss_cons (ps_if (PW.pt (pw_or (pt_not (pt_val (pe_df T.is_whole (ok_is_whole T) (hr.mono (by decide)) (pa_cons (pv 2) pa_nil)))) (pw_or1 (pt_not (pt_chain op_le op_lt pe_int (pv 2) (pe_df T.how_many (ok_how_many T) (hr.mono (by decide)) (pa_cons (pv 0) (pa_cons (pv 1) pa_nil))))))))
      (pss_one ps_never)
      pss_nil)
    (pss_cons (ps_par (i := 3) (j := 4) (by rfl) sc_setting_by.nd rfl rfl (by decide) rfl rfl (pa_cons (pe_lst pa_nil) (pa_cons pe_dnewT pa_nil)) (by rfl))
    (pss_cons (ps_for PassesOwn.never rfl (pi_range1 (by rfl) T.m_range (pa_cons (pv 0) pa_nil)) (pg_name (i := 5) sc_setting_by.nd rfl (.inl rfl))
      (pss_one (ps_for PassesOwn.never rfl (pi_range1 (by rfl) T.m_range (pa_cons (pv 0) pa_nil)) (pg_name (i := 6) sc_setting_by.nd rfl (.inl rfl))
        (pss_one (ps_if (PW.pt (pw_and (pt_cmpR op_notIn_seq (pv 6) (pv 3) (by rfl)) (pw_and1 (pt_cmpR op_eq (pe_callB call_len_seq (by rfl) T.m_len (by decide +kernel) (pa_cons (pv 3) pa_nil)) (pv 5) (nomark _)))))
          (pss_cons (ps_set (i := 7) sc_setting_by.nd rfl (.inl rfl) (pe_df T.ways_behind (ok_ways_behind T) (hr.mono (by decide)) (pa_cons (pe_op op_cat (pv 3) (pe_lst (pa_cons (pv 6) pa_nil))) (pa_cons (pv 0) (pa_cons (pv 1) (pa_cons (pv 4) pa_nil))))))
          (pss_one (ps_if (pt_cmpR op_lt (pv 2) (pv 7) (nomark _))
            (pss_one (ps_expr (pe_bm PySem.F.plainAttrs_list PySem.F.slot_list_append PySem.F.type_list_append mt_append (pv 3) (pa_cons (pv 6) pa_nil))))
            (pss_one (ps_set (i := 2) sc_setting_by.nd rfl (.inl rfl) (pe_op op_sub (pv 2) (pv 7)))))))
          pss_nil)))))
    (pss_one (ps_ret (pv 3))))))), ?_⟩
    have hi : i < hm n m := by rw [hm_wins]; exact (List.getElem?_eq_some_iff.mp hx).1
    refine ⟨_, rfl, _, rfl, n, m, 8, rfl, by omega, by omega, by omega, by omega, ?_⟩
    refine ⟨_, rfl, .int i, "int", true, false, rfl, .base (.int _), by decide +kernel, by decide +kernel, _, rfl, iteF ?_⟩
    refine ⟨_, rfl, 0, i, rfl, rfl, _, rfl, ?_⟩
    rw [show decide ((0 : Int) ≤ (i : Int)) = true from decide_eq_true (by omega)]
    refine iteT ⟨_, rfl, _, rfl, n, m, rfl, hn1, by omega, hm1, hmn, fun H1 s1 => ⟨_, _, rfl, rfl, _, rfl, ?_⟩⟩
    rw [show decide ((i : Int) < ((hm n m : Nat) : Int)) = true from decide_eq_true (by omega)]
    refine iteF ?_
    refine ⟨Nat.zero_le _, fun o no => fun d nd => ⟨_, _, rfl, ?_⟩⟩
    have s2 := same_upd (o := .lst []) no
    have s3 := same_upd (o := .dT []) nd
    have s13 := (s1.trans s2).trans s3
    have noH : H o = none := s1.free no
    have ndH : H d = none := (s1.trans s2).free nd
    have nod : o ≠ d := fun e => by rw [← e, upd_same] at nd; cases nd
    have eo3 : (upd (upd H1 o (.lst [])) d (.dT [])) o = some (.lst (iv [])) := by rw [upd_ne nod, upd_same]; rfl
    have kn3 : KN m (upd (upd H1 o (.lst [])) d (.dT [])) d := ⟨[], upd_same, List.nodup_nil, fun l hl => by cases hl⟩
    generalize upd (upd H1 o (.lst [])) d (.dT []) = H2 at *
    clear s2 s3 nd no
    refine ⟨_, rfl, n, rfl, by omega, by omega, ?_⟩
    rw [Int.toNat_natCast]
    refine for_range (lo := 0) (n := n) (fun k σ H3 => ∃ (p : List Nat) (num : Nat) (w5 w6 w7 : Option V), σ = [some (.int (n : Int)), some (.int (m : Int)), some (.int (num : Int)), some (.ref o), some (.ref d), w5, w6, w7] ∧ Same H H3 ∧ H3 o = some (.lst (iv p)) ∧ KN m H3 d ∧ p.length = k ∧ p.Nodup ∧ (∀ y ∈ p, y < n) ∧ (wins n m (n - k) p)[num]? = some x) ⟨[], i, _, _, _, rfl, s13, eo3, kn3, rfl, List.nodup_nil, (fun y hy => by cases hy), hx⟩ (fun k σ H3 hk hP => ?_) (fun σ H3 hP => ?_)
    · obtain ⟨p, num, w5, w6, w7, rfl, sm, eo, hK, hpk, ndp, ltp, hw⟩ := hP
      rw [Int.zero_add]
      have ef : n - k = (n - k - 1) + 1 := by omega
      rw [ef, ← rest_zero] at hw
      refine ⟨_, rfl, n, rfl, by omega, by omega, ?_⟩
      rw [Int.toNat_natCast]
      refine for_range (lo := 0) (n := n) (fun j σ H4 => ∃ (p' : List Nat) (num : Nat) (w6 w7 : Option V), σ = [some (.int (n : Int)), some (.int (m : Int)), some (.int (num : Int)), some (.ref o), some (.ref d), some (.int (k : Int)), w6, w7] ∧ Same H H4 ∧ H4 o = some (.lst (iv p')) ∧ KN m H4 d ∧ p'.Nodup ∧ (∀ y ∈ p', y < n) ∧ ((p' = p ∧ (rest n m (n - k - 1) p j)[num]? = some x) ∨ (p'.length = k + 1 ∧ (wins n m (n - k - 1) p')[num]? = some x))) ⟨p, num, _, _, rfl, sm, eo, hK, ndp, ltp, .inl ⟨rfl, hw⟩⟩ (fun j σ H4 hj hP => ?_) (fun σ H4 hP => ?_)
      · obtain ⟨p', num, w6, w7, rfl, s4, eo4, hK4, nd4, lt4, hcase⟩ := hP
        rw [Int.zero_add]
        have hpl : p'.length ≤ 8 := by
          have := nodup_le nd4 lt4
          omega
        refine ⟨_, rfl, _, rfl, o, _, rfl, .inl (.of eo4), rfl, flat_iv _, _, rfl, ?_⟩
        rw [if_pos rfl, inV_iv]
        rcases hcase with ⟨rfl, hr4⟩ | ⟨hl4, hw4⟩
        · by_cases hjp : j ∈ p'
          · rw [decide_eq_true hjp]
            refine iteF ⟨p', num, _, _, rfl, s4, eo4, hK4, nd4, lt4, .inl ⟨rfl, ?_⟩⟩
            rw [← rest_out hj hjp]
            exact hr4
          rw [decide_eq_false hjp]
          refine iteT ⟨_, rfl, o, _, rfl, .inl (.of eo4), _, rfl, rfl, _, rfl, ?_⟩
          rw [iv_len, dec_nat, decide_eq_true hpk]
          refine iteT ?_
          -- many
          refine ⟨_, rfl, _, rfl, sz (by simp), fun c1 n1 => ?_⟩
          have t1 := same_upd (o := .lst [V.int (j : Int)]) n1
          refine ⟨o, c1, _, _, rfl, rfl, t1 _ _ eo4, upd_same, by rw [iv_len]; exact sz (by simp; omega), fun c2 n2 => ?_⟩
          rw [iv_snoc]
          have t2 := same_upd (o := .lst (iv (p' ++ [j]))) n2
          have e2 : (upd (upd H4 c1 (.lst [V.int (j : Int)])) c2 (.lst (iv (p' ++ [j])))) c2 = some (.lst (iv (p' ++ [j]))) := upd_same
          have t12 := t1.trans t2
          generalize upd (upd H4 c1 (.lst [V.int (j : Int)])) c2 (.lst (iv (p' ++ [j]))) = H5 at *
          have nd5 := snoc_nd nd4 hjp
          have lt5 := snoc_lt lt4 hj
          obtain ⟨Pt, C, L⟩ := lay_of nd5 lt5
          have hval := wins_len (m := m) (f := n - k - 1) L (by rw [List.length_append]; show p'.length + 1 + (n - k - 1) = n; omega)
          refine ⟨_, rfl, _, rfl, _, rfl, c2, d, p' ++ [j], Pt, C, n, m, rfl, .of e2, L, hn, hK4.same t12, fun H6 k6 hK6 => ?_⟩
          rw [← hval]
          have hne : o ≠ d := nod
          have eo6 := k6.at (t12 _ _ eo4) hne
          have s6 : Same H H6 := k6.same (s4.trans t12) fun b hb => by
            have : b = d := by simpa using hb
            rw [this]
            exact ndH
          rw [rest_in hj hjp] at hr4
          refine ⟨_, rfl, _, rfl, _, _, rfl, rfl, _, rfl, ?_⟩
          by_cases hlt : num < (wins n m (n - k - 1) (p' ++ [j])).length
          · rw [show decide ((num : Int) < (((wins n m (n - k - 1) (p' ++ [j])).length : Nat) : Int)) = true from decide_eq_true (by omega)]
            rw [List.getElem?_append_left hlt] at hr4
            refine iteT ⟨_, rfl, .inl ⟨rfl, _, .of eo6⟩, _, rfl, o, _, _, rfl, rfl, eo6, by rw [iv_len]; exact szl (by omega), ?_⟩
            refine ⟨p' ++ [j], num, _, _, rfl, same_mut s6 noH, by rw [upd_same, iv_snoc], ?_, nd5, lt5, .inr ⟨by rw [List.length_append, hpk]; rfl, hr4⟩⟩
            obtain ⟨ls, kl⟩ := hK6
            exact ⟨ls, by rw [upd_ne hne.symm]; exact kl.at_, kl.nd, kl.few⟩
          · rw [show decide ((num : Int) < (((wins n m (n - k - 1) (p' ++ [j])).length : Nat) : Int)) = false from decide_eq_false (by omega)]
            rw [List.getElem?_append_right (by omega)] at hr4
            refine iteF ⟨_, rfl, _, rfl, _, _, rfl, rfl, p', num - (wins n m (n - k - 1) (p' ++ [j])).length, some (.int (j : Int)), some (.int (((wins n m (n - k - 1) (p' ++ [j])).length : Nat) : Int)), ?_, s6, eo6, hK6, nd4, lt4, .inl ⟨rfl, hr4⟩⟩
            rw [show ((num - (wins n m (n - k - 1) (p' ++ [j])).length : Nat) : Int) = (num : Int) - (((wins n m (n - k - 1) (p' ++ [j])).length : Nat) : Int) by omega]
            rfl
        · have skip : ∃ (p'' : List Nat) (num' : Nat) (w6' w7' : Option V), ([some (V.int (n : Int)), some (V.int (m : Int)), some (V.int (num : Int)), some (V.ref o), some (V.ref d), some (V.int (k : Int)), some (V.int (j : Int)), w7] : L2.St) = [some (.int (n : Int)), some (.int (m : Int)), some (.int (num' : Int)), some (.ref o), some (.ref d), some (.int (k : Int)), w6', w7'] ∧ Same H H4 ∧ H4 o = some (.lst (iv p'')) ∧ KN m H4 d ∧ p''.Nodup ∧ (∀ y ∈ p'', y < n) ∧ ((p'' = p ∧ (rest n m (n - k - 1) p (j + 1))[num']? = some x) ∨ (p''.length = k + 1 ∧ (wins n m (n - k - 1) p'')[num']? = some x)) :=
            ⟨p', num, _, _, rfl, s4, eo4, hK4, nd4, lt4, .inr ⟨hl4, hw4⟩⟩
          by_cases hjp : j ∈ p'
          · rw [decide_eq_true hjp]
            exact iteF skip
          · rw [decide_eq_false hjp]
            refine iteT ⟨_, rfl, o, _, rfl, .inl (.of eo4), _, rfl, rfl, _, rfl, ?_⟩
            rw [iv_len, dec_nat, decide_eq_false (by omega)]
            exact iteF skip
      · obtain ⟨p', num, w6, w7, rfl, s4, eo4, hK4, nd4, lt4, hcase⟩ := hP
        rcases hcase with ⟨rfl, hr4⟩ | ⟨hl4, hw4⟩
        · rw [rest_end] at hr4
          simp at hr4
        · exact ⟨p', num, _, _, _, rfl, s4, eo4, hK4, hl4, nd4, lt4, by rw [show n - (k + 1) = n - k - 1 by omega]; exact hw4⟩
    · obtain ⟨p, num, w5, w6, w7, rfl, sm, eo, hK, hpk, ndp, ltp, hw⟩ := hP
      rw [Nat.sub_self] at hw
      have hxp : x = p := by
        unfold wins at hw
        split at hw
        · have h1 := List.mem_of_getElem? hw
          simpa using h1
        · simp at hw
      rw [hxp] at q
      exact ⟨_, rfl, q H3 o sm noH eo⟩
/-! ### number_of -/
def spNum (K : PySem.W.Frag) : Sp := fun vs H Q _ => ∃ (a : Addr) (x : List Nat) (m : Nat), vs = [.ref a, .int (m : Int)] ∧ SqL K H a (iv x) ∧ Good x ∧ 1 ≤ x.length ∧ x.length ≤ 8 ∧ 1 ≤ m ∧ m ≤ x.length ∧ Short x m ∧ ∀ (H' : Hp) (i : Nat), Same H H' → (wins x.length m x.length [])[i]? = some x → Q (.int (i : Int)) H'
abbrev n_number_of : List Str := ["setting", "most", "found", "known", "box", "slip", "less"]
theorem sc_number_of : FnScope n_number_of ["setting", "most"] (defScope s_number_of) := ⟨rfl, rfl, rfl, by decide +kernel, rfl, by decide +kernel, by decide +kernel⟩
theorem ok_number_of (T : Tx K mg) : FnOk P w K mg base CX0 12 T.number_of.f T.number_of.fd ["setting", "most"] (spNum K) := by
  refine T.number_of.F.ok sc_number_of (fun vs H Q E h => ?_) (fun cdv A outer s H vs Q E hr h => ?_)
  · obtain ⟨a, x, m, rfl, _⟩ := h
    rfl
  · obtain ⟨a, x, m, rfl, hA, g, hn1, hn, hm1, hm, hS, q⟩ := h
    obtain ⟨n, en⟩ : ∃ n, n = x.length := ⟨_, rfl⟩
    rw [← en] at q hn1 hn hm
    refine ⟨_, (pss_cons (ps_expr (pe_df T.check_boxes (ok_check_boxes T) (hr.mono (by decide)) (pa_cons (pv 0) (pa_cons (pe_glob (v := .int 8) rfl T.c_NUMBERED ⟨_, rfl⟩) pa_nil))))
    (pss_cons (ps_expr (pe_df T.check_count (ok_check_count T) (hr.mono (by decide)) (pa_cons (pe_callB call_len_seq (by rfl) T.m_len (by decide +kernel) (pa_cons (pv 0) pa_nil)) (pa_cons (pv 1) pa_nil))))
    (pss_cons (ps_if (pt_cmpR (op_neD hr.units) (pe_df T.long_rings (ok_long_rings T) (hr.mono (by decide)) (pa_cons (pv 0) (pa_cons (pv 1) pa_nil))) (pe_lst pa_nil) (nomark _))
      (pss_one ps_never)
      pss_nil)
    (pss_cons (ps_par (i := 2) (j := 3) (by rfl) sc_number_of.nd rfl rfl (by decide) rfl rfl (pa_cons pe_int (pa_cons pe_dnewT pa_nil)) (by rfl))
    (pss_cons (ps_for PassesOwn.never rfl (pi_enum (by rfl) T.m_enumerate (pa_cons (pv 0) pa_nil)) (pg_tup rfl (pgs_cons (pg_name (i := 4) sc_number_of.nd rfl (.inl rfl)) (pgs_cons (pg_name (i := 5) sc_number_of.nd rfl (.inl rfl)) pgs_nil)))
      (pss_one (ps_for PassesOwn.never rfl (pi_range1 (by rfl) T.m_range (pa_cons (pv 5) pa_nil)) (pg_name (i := 6) sc_number_of.nd rfl (.inl rfl))
        (pss_one (ps_if (pt_cmpR op_notIn_seq (pv 6) (pe_slice sl_list (pv 0) po_none (po_some (pv 4))) (by rfl))
          (pss_one (ps_set (i := 2) sc_number_of.nd rfl (.inl rfl) (pe_op op_add (pv 2) (pe_df T.ways_behind (ok_ways_behind T) (hr.mono (by decide)) (pa_cons (pe_op op_cat (pe_slice sl_list (pv 0) po_none (po_some (pv 4))) (pe_lst (pa_cons (pv 6) pa_nil))) (pa_cons (pe_callB call_len_seq (by rfl) T.m_len (by decide +kernel) (pa_cons (pv 0) pa_nil)) (pa_cons (pv 1) (pa_cons (pv 3) pa_nil))))))))
          pss_nil)))))
    (pss_one (ps_ret (pv 2)))))))), ?_⟩
    refine ⟨_, rfl, a, x, 8, rfl, hA, g, by omega, by omega, by omega, fun H1 s1 => ?_⟩
    refine ⟨_, rfl, a, _, rfl, .inl (s1.seq hA), _, rfl, _, m, rfl, by omega, by rw [iv_len]; omega, ?_⟩
    refine ⟨_, rfl, _, rfl, a, x, m, rfl, s1.seq hA, g, by omega, fun H2 p ps s2 np ep R hp => ?_⟩
    refine ⟨Nat.zero_le _, fun z nz => ?_⟩
    have s3 := same_upd (o := .lst []) nz
    refine ne_rows (x := longOf x m) (y := []) ((R.sees ep).same s3) ⟨[], .of upd_same, rfl, fun i q r h _ => by simp at h⟩ ⟨_, rfl, iteNS ((longOf_nil g).mpr hS) ?_⟩
    have s13 := (s1.trans s2).trans s3
    refine fun d nd => ⟨_, _, rfl, ?_⟩
    have s4 := same_upd (o := .dT []) nd
    have ndH : H d = none := s13.free nd
    have s14 := s13.trans s4
    have kn4 : KN m (upd (upd H2 z (.lst [])) d (.dT [])) d := ⟨[], upd_same, List.nodup_nil, fun l hl => by cases hl⟩
    generalize upd (upd H2 z (.lst [])) d (.dT []) = H3 at *
    clear s1 s2 s3 s13 s4 nz nd np ep R hp
    have hxg : ∀ k, k < n → x[k]? = some (nxt x k) := fun k hk => nxt_get? (by omega)
    refine ⟨_, rfl, a, _, rfl, s14.seq hA, ?_⟩
    refine for_it (walk_enum (K := K) (a := a) (xs := iv x)) (fun k σ H4 => ∃ (num : Nat) (w4 w5 w6 : Option V), σ = [some (.ref a), some (.int (m : Int)), some (.int (num : Int)), some (.ref d), w4, w5, w6] ∧ Same H H4 ∧ KN m H4 d ∧ Seg (wins n m n []) num (wins n m (n - k) (x.take k))) ⟨0, _, _, _, rfl, s14, kn4, fun i y hy => by rw [Nat.zero_add]; exact hy⟩ (fun k σ H4 _ h => ?_) (fun k v σ H4 H5 hk hP hy => ?_) (fun σ H4 hP => ?_)
    · obtain ⟨_, _, _, _, _, s4, _⟩ := h
      exact s4.seq hA
    · obtain ⟨num, w4, w5, w6, rfl, s4, hK4, hseg⟩ := hP
      obtain ⟨tt, x1, y1, rfl, ntt, rfl, hx1, hy1⟩ := hy
      dsimp only at hx1 hy1
      cases hx1
      rw [iv_get?] at hy1
      obtain ⟨sl, hsl, rfl⟩ := Option.map_eq_some_iff.mp hy1
      rw [iv_len] at hk
      have hkn : k < n := by omega
      have st := same_upd (o := .tup [V.int (k : Nat), V.int (sl : Int)]) ntt
      have hsln : sl < n := by have := g.lt (List.mem_of_getElem? hsl); omega
      refine ⟨tt, _, rfl, .of upd_same, rfl, _, _, rfl, _, _, rfl, rfl, ?_⟩
      refine ⟨_, rfl, _, rfl, by omega, by omega, ?_⟩
      rw [Int.toNat_natCast]
      have ndt : (x.take k).Nodup := g.nodup.sublist (List.take_sublist k x)
      have ltt : ∀ y ∈ x.take k, y < n := fun y hy => by have := g.lt (List.mem_of_mem_take hy); omega
      have hlt : (x.take k).length = k := by rw [List.length_take]; omega
      have ef : n - k = (n - k - 1) + 1 := by omega
      rw [ef, ← rest_zero] at hseg
      refine for_range (lo := 0) (n := sl) (fun j σ H6 => ∃ (num : Nat) (w6 : Option V), σ = [some (.ref a), some (.int (m : Int)), some (.int (num : Int)), some (.ref d), some (.int (k : Int)), some (.int (sl : Int)), w6] ∧ Same H H6 ∧ KN m H6 d ∧ Seg (wins n m n []) num (rest n m (n - k - 1) (x.take k) j)) ⟨num, _, rfl, s4.trans st, hK4.same st, hseg⟩ (fun j σ H6 hj hP => ?_) (fun σ H6 hP => ?_)
      · obtain ⟨num, w6, rfl, s6, hK6, hseg6⟩ := hP
        rw [Int.zero_add]
        have hjn : j < n := by omega
        refine ⟨_, rfl, _, rfl, _, rfl, _, rfl, a, _, rfl, s6.seq hA, fun c1 n1 => ?_⟩
        rw [cut_to, ← List.map_take]
        have t1 := same_upd (o := .lst (iv (x.take k))) n1
        refine ⟨c1, _, rfl, .inl (.of upd_same), rfl, flat_iv _, _, rfl, ?_⟩
        rw [if_pos rfl, inV_iv]
        by_cases hjp : j ∈ x.take k
        · rw [decide_eq_true hjp]
          refine iteF ⟨num, _, rfl, s6.trans t1, hK6.same t1, ?_⟩
          rw [← rest_out hjn hjp]
          exact hseg6
        rw [decide_eq_false hjp]
        refine iteT ?_
        refine ⟨_, rfl, _, rfl, _, rfl, _, rfl, a, _, rfl, (s6.trans t1).seq hA, fun c2 n2 => ?_⟩
        rw [cut_to, ← List.map_take]
        have t2 := same_upd (o := .lst (iv (x.take k))) n2
        refine ⟨_, rfl, sz (by simp), fun c3 n3 => ?_⟩
        have t3 := same_upd (o := .lst [V.int (j : Int)]) n3
        refine ⟨c2, c3, _, _, rfl, rfl, t3 _ _ upd_same, upd_same, by rw [List.length_map, hlt]; exact sz (by simp; omega), fun c4 n4 => ?_⟩
        have ei : iv (x.take k) ++ [V.int (j : Int)] = iv (x.take k ++ [j]) := iv_snoc _ _
        have ei' : List.map (fun (n : Nat) => V.int (n : Int)) (x.take k) ++ [V.int (j : Int)] = iv (x.take k ++ [j]) := ei
        rw [ei']
        have t4 := same_upd (o := .lst (iv (x.take k ++ [j]))) n4
        have e4 : (upd (upd (upd (upd H6 c1 (.lst (iv (x.take k)))) c2 (.lst (iv (x.take k)))) c3 (.lst [V.int (j : Int)])) c4 (.lst (iv (x.take k ++ [j])))) c4 = some (.lst (iv (x.take k ++ [j]))) := upd_same
        have t14 := ((t1.trans t2).trans t3).trans t4
        generalize upd (upd (upd (upd H6 c1 (.lst (iv (x.take k)))) c2 (.lst (iv (x.take k)))) c3 (.lst [V.int (j : Int)])) c4 (.lst (iv (x.take k ++ [j]))) = H7 at *
        have s67 := s6.trans t14
        have nd5 := snoc_nd ndt hjp
        have lt5 := snoc_lt ltt hjn
        obtain ⟨Pt, C, L⟩ := lay_of nd5 lt5
        have hval := wins_len (m := m) (f := n - k - 1) L (by rw [List.length_append, hlt]; show k + 1 + (n - k - 1) = n; omega)
        refine ⟨_, rfl, a, _, rfl, .inl (s67.seq hA), _, rfl, _, rfl, c4, d, x.take k ++ [j], Pt, C, n, m, by rw [iv_len, ← en]; rfl, .of e4, L, hn, hK6.same t14, fun H8 k8 hK8 => ?_⟩
        rw [← hval]
        have s8 : Same H H8 := k8.same s67 fun b hb => by
          have : b = d := by simpa using hb
          rw [this]
          exact ndH
        rw [rest_in hjn hjp] at hseg6
        refine ⟨_, _, rfl, rfl, num + (wins n m (n - k - 1) (x.take k ++ [j])).length, some (.int (j : Int)), ?_, s8, hK8, hseg6.right⟩
        rw [show ((num + (wins n m (n - k - 1) (x.take k ++ [j])).length : Nat) : Int) = (num : Int) + (((wins n m (n - k - 1) (x.take k ++ [j])).length : Nat) : Int) by omega]
        rfl
      · obtain ⟨num, w6, rfl, s6, hK6, hseg6⟩ := hP
        have hnot : sl ∉ x.take k := fun z => by
          have nd2 := g.nodup
          rw [← List.take_append_drop k x] at nd2
          refine (List.nodup_append.mp nd2).2.2 _ z sl ?_ rfl
          rw [List.mem_iff_getElem?]
          exact ⟨0, by rw [List.getElem?_drop, Nat.add_zero]; exact hsl⟩
        rw [rest_in hsln hnot] at hseg6
        refine ⟨num, _, _, _, rfl, s6, hK6, ?_⟩
        rw [List.take_add_one, hsl, show n - (k + 1) = n - k - 1 by omega]
        exact hseg6.left
    · obtain ⟨num, w4, w5, w6, rfl, s4, hK4, hseg⟩ := hP
      rw [iv_len, ← en, Nat.sub_self, List.take_of_length_le (by omega)] at hseg
      refine ⟨_, rfl, q H4 num s4 ?_⟩
      have h1 : (wins n m 0 x)[0]? = some x := by
        unfold wins
        rw [if_pos (by rw [(longOf_nil g).mpr hS]; rfl)]
        rfl
      have := hseg 0 x h1
      rw [Nat.add_zero] at this
      exact this
end
end Sb
namespace Sb
open PySem PySem.Spec PyProof.Rows L2
/-! ### things of any kind -/
/-- a thing, and whether it is a whole number -/
inductive Th (H : Hp) : V → Bool → Prop
  | non : Th H .non false
  | str (s : Str) : Th H (.str s) false
  | bl (b : Bool) : Th H (.bl b) false
  | int (i : Int) : Th H (.int i) true
  | lst {a : Addr} {xs : List V} (e : H a = some (.lst xs)) : Th H (.ref a) false
  | tup {a : Addr} {xs : List V} (e : H a = some (.tup xs)) : Th H (.ref a) false
  | dic {a : Addr} {kvs : List (List Key × V)} (e : H a = some (.dT kvs)) : Th H (.ref a) false
theorem Th.whole {K : PySem.W.Frag} {H : Hp} {v : V} {b : Bool} (h : Th H v b) : ∃ (ty : String) (b1 b2 : Bool), TyX K H v (.type ty) ∧ kitB ty "int" = some b1 ∧ kitB ty "bool" = some b2 ∧ (b1 && !b2) = b := by
  cases h with
  | non => exact ⟨"NoneType", false, false, .base .non, by decide +kernel, by decide +kernel, rfl⟩
  | str s => exact ⟨"str", false, false, .base (.str s), by decide +kernel, by decide +kernel, rfl⟩
  | bl b => exact ⟨"bool", true, true, .base (.bl b), by decide +kernel, by decide +kernel, rfl⟩
  | int i => exact ⟨"int", true, false, .base (.int i), by decide +kernel, by decide +kernel, rfl⟩
  | lst e => exact ⟨"list", false, false, .base (.lst e), by decide +kernel, by decide +kernel, rfl⟩
  | tup e => exact ⟨"tuple", false, false, .base (.tup e), by decide +kernel, by decide +kernel, rfl⟩
  | dic e => exact ⟨"dict", false, false, .base (.dT e), by decide +kernel, by decide +kernel, rfl⟩
theorem Th.int_of {H : Hp} {i : Int} {b : Bool} (h : Th H (.int i) b) : b = true := by cases h; rfl
theorem Th.ext {H H' : Hp} {v : V} {b : Bool} (h : Th H v b) (e : LamX.ExtN H H') : Th H' v b := by
  cases h with
  | non => exact .non
  | str s => exact .str s
  | bl b => exact .bl b
  | int i => exact .int i
  | lst x => exact .lst (e _ _ x fun ps z => by cases z)
  | tup x => exact .tup (e _ _ x fun ps z => by cases z)
  | dic x => exact .dic (e _ _ x fun ps z => by cases z)
/-- no list -/
inductive NoL (H : Hp) : V → Prop
  | non : NoL H .non
  | str (s : Str) : NoL H (.str s)
  | int (i : Int) : NoL H (.int i)
  | tup {a : Addr} {xs : List V} (e : H a = some (.tup xs)) : NoL H (.ref a)
  | dic {a : Addr} {kvs : List (List Key × V)} (e : H a = some (.dT kvs)) : NoL H (.ref a)
theorem NoL.ty {K : PySem.W.Frag} {H : Hp} {v : V} (h : NoL H v) : ∃ ty : String, TyX K H v (.type ty) ∧ kitB ty "list" = some false := by
  cases h with
  | non => exact ⟨"NoneType", .base .non, by decide +kernel⟩
  | str s => exact ⟨"str", .base (.str s), by decide +kernel⟩
  | int i => exact ⟨"int", .base (.int i), by decide +kernel⟩
  | tup e => exact ⟨"tuple", .base (.tup e), by decide +kernel⟩
  | dic e => exact ⟨"dict", .base (.dT e), by decide +kernel⟩
theorem NoL.ext {H H' : Hp} {v : V} (h : NoL H v) (e : LamX.ExtN H H') : NoL H' v := by
  cases h with
  | non => exact .non
  | str s => exact .str s
  | int i => exact .int i
  | tup x => exact .tup (e _ _ x fun ps z => by cases z)
  | dic x => exact .dic (e _ _ x fun ps z => by cases z)
theorem ExtN.same {H H' : Hp} (s : Same H H') : LamX.ExtN H H' := .of s
/-- no boxes, to m -/
structure BadL (H : Hp) (v : V) (m : Int) (a : Addr) (xs : List V) (ws : List Bool) : Prop where
  at_ : v = .ref a
  lst : H a = some (.lst xs)
  few : xs.length ≤ 60
  len : xs.length = ws.length
  th : ∀ (i : Nat) (x : V) (b : Bool), xs[i]? = some x → ws[i]? = some b → Th H x b
  bad : (xs.length : Int) < 1 ∨ m < (xs.length : Int) ∨ ws.all id = false ∨ ∃ ns : List Int, xs = ns.map V.int ∧ ¬ ns.Perm ((List.range ns.length).map fun (n : Nat) => (n : Int))
def BadB (H : Hp) (v : V) (m : Int) : Prop := NoL H v ∨ ∃ a xs ws, BadL H v m a xs ws
theorem BadB.ext {H H' : Hp} {v : V} {m : Int} (h : BadB H v m) (e : LamX.ExtN H H') : BadB H' v m := by
  rcases h with h | ⟨a, xs, ws, h⟩
  · exact .inl (h.ext e)
  · exact .inr ⟨a, xs, ws, h.at_, e _ _ h.lst (fun ps z => by cases z), h.few, h.len, fun i x b h1 h2 => (h.th i x b h1 h2).ext e, h.bad⟩
theorem BadB.less {H : Hp} {v : V} {m n : Int} (h : BadB H v m) (hn : n ≤ m) : BadB H v n := by
  rcases h with h | ⟨a, xs, ws, h⟩
  · exact .inl h
  · refine .inr ⟨a, xs, ws, h.at_, h.lst, h.few, h.len, h.th, ?_⟩
    rcases h.bad with z | z | z | z
    · exact .inl z
    · exact .inr (.inl (by omega))
    · exact .inr (.inr (.inl z))
    · exact .inr (.inr (.inr z))
theorem ne_iiX {K : PySem.W.Frag} {H : Hp} {a b : Addr} {x y : List Int} {Q : VK} (ha : SqL K H a (x.map V.int)) (hb : SqL K H b (y.map V.int)) (q : Q (.bl (!decide (x = y))) H) : rNeD K (.ref a) (.ref b) H Q :=
  ⟨dI x, dI y, dp_ints ha, dp_ints hb, shapedI x, shapedI y, by
    have e : PyData.eqv (dI x) (dI y) = decide (x = y) := by
      show PyData.eqv (PyData.list _) (PyData.list _) = _
      unfold PyData.eqv
      exact eqvI x y
    rw [e]; exact q⟩
/-- no count to n -/
def BadC (H : Hp) (v : V) (n : Int) : Prop := Th H v false ∨ ∃ i : Int, v = .int i ∧ (i < 1 ∨ n < i)
theorem BadC.ext {H H' : Hp} {v : V} {n : Int} (h : BadC H v n) (e : LamX.ExtN H H') : BadC H' v n := h.imp (·.ext e) id
section
variable {P : Program} {w : World} {K : PySem.W.Frag} {mg : Str → Option Value} {base : Heap}
/-! ### check_boxes refuses -/
def spCheckX (T : Tx K mg) : Sp := fun vs H _ E => ∃ (v : V) (m : Int), vs = [v, .int m] ∧ BadB H v m ∧ ∀ H', Same H H' → E (.ref T.BadBoxes.C) none H'
theorem okx_check_boxes (T : Tx K mg) : FnOk P w K mg base (L2.CX P w) 2 T.check_boxes.f T.check_boxes.fd ["boxes", "most"] (spCheckX T) := by
  refine T.check_boxes.F.okX sc_check_boxes (fun vs H Q E h => ?_) (fun cdv A outer s H vs Q E hr h => ?_)
  · obtain ⟨v, m, rfl, _⟩ := h
    rfl
  · obtain ⟨v, m, rfl, hB, q⟩ := h
    refine ⟨_, (pss_cons (ps_if (PW.pt (pw_or (pt_not (pt_val (pe_callB call_isi (by rfl) T.m_isinstance (by decide +kernel) (pa_cons (pv 0) (pa_cons (pe_bltn (v := .ty "list") (by rfl) T.m_list (by decide +kernel) rfl) pa_nil))))) (pw_or (pt_not (pt_chain op_le op_le pe_int (pe_callB call_len_seq (by rfl) T.m_len (by decide +kernel) (pa_cons (pv 0) pa_nil)) (pv 1))) (pw_or1 (pt_not (pt_val (pe_callB (cr_all rfl) (by rfl) T.m_all (by decide +kernel) (pa_cons (pe_lc (own := [("slip", 2)]) (g := gName 2) rfl sc_check_boxes.nd (pi_list (pv 0)) (blkOk_by (own := [("slip", 2)]) (N := n_check_boxes) (sc := defScope s_check_boxes) (by decide +kernel)) (fun _ _ _ _ _ => (pg_name (i := 2) sc_check_boxes.nd rfl (.inl rfl))) (fun _ _ _ _ _ => pts_nil) (fun _ _ _ _ _ => (pe_df T.is_whole (ok_is_whole T) (hr.mono (by decide)) (pa_cons (pv 2) pa_nil)))) pa_nil))))))))
      (pss_one (ps_raise rfl (takes_of rfl rfl rfl rfl) (pmk_own PySem.F.excBase_ValueError T.BadBoxes.x T.BadBoxes.g T.BadBoxes.k (raises_own T.BadBoxes.e.hs T.BadBoxes.t) rfl)))
      pss_nil)
    (pss_one (ps_if (pt_cmpR (op_neD hr.units) (pe_callB cr_sorted (by rfl) T.m_sorted (by decide +kernel) (pa_cons (pv 0) pa_nil)) (pe_listRg rfl (by rfl) T.m_list (prg_1 (by rfl) T.m_range (pe_callB call_len_seq (by rfl) T.m_len (by decide +kernel) (pa_cons (pv 0) pa_nil)))) (nomark _))
      (pss_one (ps_raise rfl (takes_of rfl rfl rfl rfl) (pmk_own PySem.F.excBase_ValueError T.BadBoxes.x T.BadBoxes.g T.BadBoxes.k (raises_own T.BadBoxes.e.hs T.BadBoxes.t) rfl)))
      pss_nil))), ?_⟩
    rcases hB with hB | ⟨a, xs, ws, hB⟩
    · obtain ⟨ty, h1, h2⟩ := hB.ty (K := K)
      exact ⟨_, rfl, v, .ty "list", .type ty, .type "list", false, rfl, .ty "list", h1, kit_ty h2, _, rfl, iteT (q _ (.refl _))⟩
    obtain ⟨rfl, hS, few, len, th, bad⟩ := hB
    have hS' : SqL K H a xs := .of hS
    refine ⟨_, rfl, _, _, _, .type "list", true, rfl, .ty "list", ty_list hS', kit_ty (by decide +kernel), true, rfl, iteF ?_⟩
    refine ⟨_, rfl, a, _, rfl, .inl hS', 1, _, rfl, rfl, _, rfl, ite2 (fun e1 => ?_) (fun e1 => ⟨_, rfl, q _ (.refl _)⟩)⟩
    have h1 : (1 : Int) ≤ (xs.length : Int) := of_decide_eq_true e1
    refine ⟨_, rfl, _, m, rfl, rfl, _, rfl, ?_⟩
    by_cases h2 : (xs.length : Int) ≤ m
    case neg => rw [decide_eq_false h2]; exact iteT (q _ (.refl _))
    rw [decide_eq_true h2]
    refine iteF ?_
    refine ⟨_, rfl, a, rfl, ⟨_, hS'⟩, fun D nD => ?_⟩
    refine lc_list (K := K) (a := a) (xs := xs) (fun i H3 => Same H H3 ∧ H3 D = some (.lst ((ws.take i).map V.bl))) ⟨same_upd nD, upd_same⟩ (fun i H3 _ h => h.1.seq hS') (fun i x H3 hx h => ?_) (fun H3 h => ?_)
    · obtain ⟨sm, eD⟩ := h
      have hi : i < ws.length := by rw [← len]; exact (List.getElem?_eq_some_iff.mp hx).1
      have hw := List.getElem?_eq_getElem hi
      obtain ⟨ty, b1, b2, t1, t2, t3, t4⟩ := ((th i x _ hx hw).ext (.of sm)).whole (K := K)
      refine ⟨rfl, _, rfl, x, ty, b1, b2, rfl, t1, t2, t3, _, eD, by rw [List.length_map, List.length_take]; exact szl (by omega), same_mut sm nD, ?_⟩
      rw [upd_same, t4, List.take_add_one, hw, List.map_append]
      rfl
    obtain ⟨sm, eD⟩ := h
    rw [len, List.take_length] at eD
    refine ⟨D, ws, rfl, .of eD, _, rfl, ?_⟩
    cases hall : ws.all id with
    | false => exact iteT (q _ sm)
    | true =>
      refine iteF ?_
      obtain ⟨ns, ens, hnp⟩ : ∃ ns : List Int, xs = ns.map V.int ∧ ¬ ns.Perm ((List.range ns.length).map fun (n : Nat) => (n : Int)) := by
        rcases bad with z | z | z | z
        · omega
        · omega
        · rw [hall] at z; cases z
        · exact z
      subst ens
      have hS3 := sm.seq hS'
      rw [List.length_map] at few h1 h2 len
      refine ⟨_, rfl, a, ns, rfl, hS3, by omega, fun ns' p pm rise np => ?_⟩
      have s4 := same_upd (o := .lst (ns'.map V.int)) np
      refine ⟨_, rfl, a, _, rfl, .inl (s4.seq hS3), (ns.length : Int), by rw [List.length_map], RgOk.of_le (by omega) (by omega) (by omega) (by omega), fun p2 np2 => ?_⟩
      have s5 := same_upd (o := .lst (rgV 0 (ns.length : Int))) np2
      have er : rgV 0 (ns.length : Int) = ((List.range ns.length).map fun (n : Nat) => (n : Int)).map V.int := by rw [rgV_iv, iv_eq]
      refine ne_iiX (x := ns') (y := (List.range ns.length).map fun (n : Nat) => (n : Int)) (s5.seq (.of upd_same)) (.of (by rw [upd_same, er])) ⟨_, rfl, ?_⟩
      rw [decide_eq_false fun z => hnp (by rw [← z]; exact pm.symm)]
      exact iteT (q _ ((sm.trans s4).trans s5))
/-! ### check_count refuses -/
def spCountX (T : Tx K mg) : Sp := fun vs H _ E => ∃ (n : Int) (v : V), vs = [.int n, v] ∧ BadC H v n ∧ E (.ref T.BadCount.C) none H
theorem okx_check_count (T : Tx K mg) : FnOk P w K mg base (L2.CX P w) 2 T.check_count.f T.check_count.fd ["boxes", "most"] (spCountX T) := by
  refine T.check_count.F.okX sc_check_count (fun vs H Q E h => ?_) (fun cdv A outer s H vs Q E hr h => ?_)
  · obtain ⟨n, v, rfl, _⟩ := h
    rfl
  · obtain ⟨n, v, rfl, hB, q⟩ := h
    refine ⟨_, (pss_one (ps_if (PW.pt (pw_or (pt_not (pt_val (pe_df T.is_whole (ok_is_whole T) (hr.mono (by decide)) (pa_cons (pv 1) pa_nil)))) (pw_or1 (pt_not (pt_chain op_le op_le pe_int (pv 1) (pv 0))))))
      (pss_one (ps_raise rfl (takes_of rfl rfl rfl rfl) (pmk_own PySem.F.excBase_ValueError T.BadCount.x T.BadCount.g T.BadCount.k (raises_own T.BadCount.e.hs T.BadCount.t) rfl)))
      pss_nil)), ?_⟩
    rcases hB with hB | ⟨i, rfl, hi⟩
    · obtain ⟨ty, b1, b2, t1, t2, t3, t4⟩ := hB.whole (K := K)
      refine ⟨_, rfl, v, ty, b1, b2, rfl, t1, t2, t3, _, rfl, ?_⟩
      rw [t4]
      exact iteT q
    · refine ⟨_, rfl, .int i, "int", true, false, rfl, .base (.int _), by decide +kernel, by decide +kernel, _, rfl, iteF ?_⟩
      refine ⟨_, rfl, 1, i, rfl, rfl, _, rfl, ite2 (fun e => ?_) (fun e => ⟨_, rfl, q⟩)⟩
      have h1 : 1 ≤ i := of_decide_eq_true e
      refine ⟨_, rfl, i, n, rfl, rfl, _, rfl, ?_⟩
      rw [decide_eq_false (show ¬ i ≤ n by omega)]
      exact iteT q
end
end Sb
namespace Sb
open PySem PySem.Spec PyProof.Rows L2
/-- a call of a def that refuses, in a def that refuses -/
theorem pe_dfX {X : Cx} {x : Str} {st : Stmt} {ps : List Str} {k : Nat} {sp : Sp} {e : Expr} {es : List Expr} {t : TA} {p pos : Pos} {W : WX} {E : XK} (D : Df X.K X.mg x st ps) (G : FnOk X.prog X.w X.K X.mg X.base (L2.CX X.prog X.w) k D.f D.fd ps sp) (hr : Room k X.A) (tk : Takes X W) (hW : ∀ cls d σ H, E cls d H → W cls d σ H) (ha : PA X (e :: es) t) (hg : Gl X x := by rfl) (hdb : (x == ("__debug__" : Str)) = false := by decide)
    (he : starEach (e :: es) X.env = (false, eval e X.env) :: starEach es X.env := by rfl) (hpl : (backTo pos (starEach es X.env)).any (·.1) = false := by rfl) :
    PE X (.Call (.Name x p) (e :: es) [] pos) (tCall sp [] E t) := pe_call G hr hg D.g D.F.kp D.b .nil (passes_call tk hW) ha hdb he hpl
/-- no hand, no number below n -/
def BadH (H : Hp) (v : V) (n : Int) : Prop := Th H v false ∨ ∃ i : Int, v = .int i ∧ (i < 0 ∨ n ≤ i)
theorem BadH.ext {H H' : Hp} {v : V} {n : Int} (h : BadH H v n) (e : LamX.ExtN H H') : BadH H' v n := h.imp (·.ext e) id
section
variable {P : Program} {w : World} {K : PySem.W.Frag} {mg : Str → Option Value} {base : Heap}
/-! ### rings refuses what are no boxes -/
def spB_rings (T : Tx K mg) : Sp := fun vs H _ E => ∃ (v : V), vs = [v] ∧ BadB H v 40 ∧ ∀ H', Same H H' → E (.ref T.BadBoxes.C) none H'

theorem okb_rings (T : Tx K mg) : FnOk P w K mg base (L2.CX P w) 3 T.rings.f T.rings.fd ["boxes"] (spB_rings T) := by
  refine T.rings.F.okX sc_rings (fun vs H Q E h => ?_) (fun cdv A outer s H vs Q E hr h => ?_)
  · obtain ⟨v, rfl, _⟩ := h
    rfl
  · obtain ⟨v, rfl, hB, q⟩ := h
    refine ⟨_, pss_cons (ps_expr (pe_dfX T.check_boxes (okx_check_boxes T) (hr.mono (by decide)) (takes_of rfl rfl rfl rfl) (fun _ _ _ _ h => h) (pa_cons (pv 0) (pa_cons (pe_glob (v := .int 40) rfl T.c_MOST ⟨_, rfl⟩) pa_nil)))) pss_never, ?_⟩
    exact ⟨_, rfl, v, 40, rfl, hB, q⟩
/-! ### opened refuses what are no boxes -/
def spB_opened (T : Tx K mg) : Sp := fun vs H _ E => ∃ (v : V) (u : V), vs = [v, u] ∧ BadB H v 40 ∧ ∀ H', Same H H' → E (.ref T.BadBoxes.C) none H'

theorem okb_opened (T : Tx K mg) : FnOk P w K mg base (L2.CX P w) 3 T.opened.f T.opened.fd ["boxes", "hand"] (spB_opened T) := by
  refine T.opened.F.okX sc_opened (fun vs H Q E h => ?_) (fun cdv A outer s H vs Q E hr h => ?_)
  · obtain ⟨v, u, rfl, _⟩ := h
    rfl
  · obtain ⟨v, u, rfl, hB, q⟩ := h
    refine ⟨_, pss_cons (ps_expr (pe_dfX T.check_boxes (okx_check_boxes T) (hr.mono (by decide)) (takes_of rfl rfl rfl rfl) (fun _ _ _ _ h => h) (pa_cons (pv 0) (pa_cons (pe_glob (v := .int 40) rfl T.c_MOST ⟨_, rfl⟩) pa_nil)))) pss_never, ?_⟩
    exact ⟨_, rfl, v, 40, rfl, hB, q⟩
/-! ### judged refuses what are no boxes -/
def spB_judged (T : Tx K mg) : Sp := fun vs H _ E => ∃ (v : V) (u : V), vs = [v, u] ∧ BadB H v 40 ∧ ∀ H', Same H H' → E (.ref T.BadBoxes.C) none H'

theorem okb_judged (T : Tx K mg) : FnOk P w K mg base (L2.CX P w) 3 T.judged.f T.judged.fd ["boxes", "most"] (spB_judged T) := by
  refine T.judged.F.okX sc_judged (fun vs H Q E h => ?_) (fun cdv A outer s H vs Q E hr h => ?_)
  · obtain ⟨v, u, rfl, _⟩ := h
    rfl
  · obtain ⟨v, u, rfl, hB, q⟩ := h
    refine ⟨_, pss_cons (ps_expr (pe_dfX T.check_boxes (okx_check_boxes T) (hr.mono (by decide)) (takes_of rfl rfl rfl rfl) (fun _ _ _ _ h => h) (pa_cons (pv 0) (pa_cons (pe_glob (v := .int 40) rfl T.c_MOST ⟨_, rfl⟩) pa_nil)))) pss_never, ?_⟩
    exact ⟨_, rfl, v, 40, rfl, hB, q⟩
/-! ### mended refuses what are no boxes -/
def spB_mended (T : Tx K mg) : Sp := fun vs H _ E => ∃ (v : V) (u : V), vs = [v, u] ∧ BadB H v 40 ∧ ∀ H', Same H H' → E (.ref T.BadBoxes.C) none H'

theorem okb_mended (T : Tx K mg) : FnOk P w K mg base (L2.CX P w) 3 T.mended.f T.mended.fd ["boxes", "most"] (spB_mended T) := by
  refine T.mended.F.okX sc_mended (fun vs H Q E h => ?_) (fun cdv A outer s H vs Q E hr h => ?_)
  · obtain ⟨v, u, rfl, _⟩ := h
    rfl
  · obtain ⟨v, u, rfl, hB, q⟩ := h
    refine ⟨_, pss_cons (ps_expr (pe_dfX T.check_boxes (okx_check_boxes T) (hr.mono (by decide)) (takes_of rfl rfl rfl rfl) (fun _ _ _ _ h => h) (pa_cons (pv 0) (pa_cons (pe_glob (v := .int 40) rfl T.c_MOST ⟨_, rfl⟩) pa_nil)))) pss_never, ?_⟩
    exact ⟨_, rfl, v, 40, rfl, hB, q⟩
/-! ### number_of refuses what are no boxes -/
def spB_number_of (T : Tx K mg) : Sp := fun vs H _ E => ∃ (v : V) (u : V), vs = [v, u] ∧ BadB H v 8 ∧ ∀ H', Same H H' → E (.ref T.BadBoxes.C) none H'

theorem okb_number_of (T : Tx K mg) : FnOk P w K mg base (L2.CX P w) 3 T.number_of.f T.number_of.fd ["setting", "most"] (spB_number_of T) := by
  refine T.number_of.F.okX sc_number_of (fun vs H Q E h => ?_) (fun cdv A outer s H vs Q E hr h => ?_)
  · obtain ⟨v, u, rfl, _⟩ := h
    rfl
  · obtain ⟨v, u, rfl, hB, q⟩ := h
    refine ⟨_, pss_cons (ps_expr (pe_dfX T.check_boxes (okx_check_boxes T) (hr.mono (by decide)) (takes_of rfl rfl rfl rfl) (fun _ _ _ _ h => h) (pa_cons (pv 0) (pa_cons (pe_glob (v := .int 8) rfl T.c_NUMBERED ⟨_, rfl⟩) pa_nil)))) pss_never, ?_⟩
    exact ⟨_, rfl, v, 8, rfl, hB, q⟩
/-! ### judged refuses what is no count -/
def spC_judged (T : Tx K mg) : Sp := fun vs H _ E => ∃ (a : Addr) (ns : List Nat) (v : V), vs = [.ref a, v] ∧ SqL K H a (iv ns) ∧ Good ns ∧ 1 ≤ ns.length ∧ ns.length ≤ 40 ∧ BadC H v (ns.length : Int) ∧ ∀ H', Same H H' → E (.ref T.BadCount.C) none H'
theorem okc_judged (T : Tx K mg) : FnOk P w K mg base (L2.CX P w) 3 T.judged.f T.judged.fd ["boxes", "most"] (spC_judged T) := by
  refine T.judged.F.okX sc_judged (fun vs H Q E h => ?_) (fun cdv A outer s H vs Q E hr h => ?_)
  · obtain ⟨a, ns, v, rfl, _⟩ := h
    rfl
  · obtain ⟨a, ns, v, rfl, hA, g, h1, h2, hB, q⟩ := h
    refine ⟨_, pss_cons (ps_expr (pe_df T.check_boxes (ok_check_boxes T) (hr.mono (by decide)) (pa_cons (pv 0) (pa_cons (pe_glob (v := .int 40) rfl T.c_MOST ⟨_, rfl⟩) pa_nil)))) (pss_cons (ps_expr (pe_dfX T.check_count (okx_check_count T) (hr.mono (by decide)) (takes_of rfl rfl rfl rfl) (fun _ _ _ _ h => h) (pa_cons (pe_callB call_len_seq (by rfl) T.m_len (by decide +kernel) (pa_cons (pv 0) pa_nil)) (pa_cons (pv 1) pa_nil)))) pss_never), ?_⟩
    refine ⟨_, rfl, a, ns, 40, rfl, hA, g, by omega, by omega, by omega, fun H1 s1 => ?_⟩
    exact ⟨_, rfl, a, _, rfl, .inl (s1.seq hA), _, rfl, _, v, rfl, by rw [iv_len]; exact hB.ext (.of s1), q _ s1⟩
/-! ### mended refuses what is no count -/
def spC_mended (T : Tx K mg) : Sp := fun vs H _ E => ∃ (a : Addr) (ns : List Nat) (v : V), vs = [.ref a, v] ∧ SqL K H a (iv ns) ∧ Good ns ∧ 1 ≤ ns.length ∧ ns.length ≤ 40 ∧ BadC H v (ns.length : Int) ∧ ∀ H', Same H H' → E (.ref T.BadCount.C) none H'
theorem okc_mended (T : Tx K mg) : FnOk P w K mg base (L2.CX P w) 3 T.mended.f T.mended.fd ["boxes", "most"] (spC_mended T) := by
  refine T.mended.F.okX sc_mended (fun vs H Q E h => ?_) (fun cdv A outer s H vs Q E hr h => ?_)
  · obtain ⟨a, ns, v, rfl, _⟩ := h
    rfl
  · obtain ⟨a, ns, v, rfl, hA, g, h1, h2, hB, q⟩ := h
    refine ⟨_, pss_cons (ps_expr (pe_df T.check_boxes (ok_check_boxes T) (hr.mono (by decide)) (pa_cons (pv 0) (pa_cons (pe_glob (v := .int 40) rfl T.c_MOST ⟨_, rfl⟩) pa_nil)))) (pss_cons (ps_expr (pe_dfX T.check_count (okx_check_count T) (hr.mono (by decide)) (takes_of rfl rfl rfl rfl) (fun _ _ _ _ h => h) (pa_cons (pe_callB call_len_seq (by rfl) T.m_len (by decide +kernel) (pa_cons (pv 0) pa_nil)) (pa_cons (pv 1) pa_nil)))) pss_never), ?_⟩
    refine ⟨_, rfl, a, ns, 40, rfl, hA, g, by omega, by omega, by omega, fun H1 s1 => ?_⟩
    exact ⟨_, rfl, a, _, rfl, .inl (s1.seq hA), _, rfl, _, v, rfl, by rw [iv_len]; exact hB.ext (.of s1), q _ s1⟩
/-! ### number_of refuses what is no count -/
def spC_number_of (T : Tx K mg) : Sp := fun vs H _ E => ∃ (a : Addr) (ns : List Nat) (v : V), vs = [.ref a, v] ∧ SqL K H a (iv ns) ∧ Good ns ∧ 1 ≤ ns.length ∧ ns.length ≤ 8 ∧ BadC H v (ns.length : Int) ∧ ∀ H', Same H H' → E (.ref T.BadCount.C) none H'
theorem okc_number_of (T : Tx K mg) : FnOk P w K mg base (L2.CX P w) 3 T.number_of.f T.number_of.fd ["setting", "most"] (spC_number_of T) := by
  refine T.number_of.F.okX sc_number_of (fun vs H Q E h => ?_) (fun cdv A outer s H vs Q E hr h => ?_)
  · obtain ⟨a, ns, v, rfl, _⟩ := h
    rfl
  · obtain ⟨a, ns, v, rfl, hA, g, h1, h2, hB, q⟩ := h
    refine ⟨_, pss_cons (ps_expr (pe_df T.check_boxes (ok_check_boxes T) (hr.mono (by decide)) (pa_cons (pv 0) (pa_cons (pe_glob (v := .int 8) rfl T.c_NUMBERED ⟨_, rfl⟩) pa_nil)))) (pss_cons (ps_expr (pe_dfX T.check_count (okx_check_count T) (hr.mono (by decide)) (takes_of rfl rfl rfl rfl) (fun _ _ _ _ h => h) (pa_cons (pe_callB call_len_seq (by rfl) T.m_len (by decide +kernel) (pa_cons (pv 0) pa_nil)) (pa_cons (pv 1) pa_nil)))) pss_never), ?_⟩
    refine ⟨_, rfl, a, ns, 8, rfl, hA, g, by omega, by omega, by omega, fun H1 s1 => ?_⟩
    exact ⟨_, rfl, a, _, rfl, .inl (s1.seq hA), _, rfl, _, v, rfl, by rw [iv_len]; exact hB.ext (.of s1), q _ s1⟩
/-! ### opened refuses what is no hand -/
def spH_opened (T : Tx K mg) : Sp := fun vs H _ E => ∃ (a : Addr) (ns : List Nat) (v : V), vs = [.ref a, v] ∧ SqL K H a (iv ns) ∧ Good ns ∧ 1 ≤ ns.length ∧ ns.length ≤ 40 ∧ BadH H v (ns.length : Int) ∧ ∀ H', Same H H' → E (.ref T.BadNumber.C) none H'
theorem okh_opened (T : Tx K mg) : FnOk P w K mg base (L2.CX P w) 3 T.opened.f T.opened.fd ["boxes", "hand"] (spH_opened T) := by
  refine T.opened.F.okX sc_opened (fun vs H Q E h => ?_) (fun cdv A outer s H vs Q E hr h => ?_)
  · obtain ⟨a, ns, v, rfl, _⟩ := h
    rfl
  · obtain ⟨a, ns, v, rfl, hA, g, h1, h2, hB, q⟩ := h
    refine ⟨_, pss_cons (ps_expr (pe_df T.check_boxes (ok_check_boxes T) (hr.mono (by decide)) (pa_cons (pv 0) (pa_cons (pe_glob (v := .int 40) rfl T.c_MOST ⟨_, rfl⟩) pa_nil)))) (pss_cons (ps_if (PW.pt (pw_or (pt_not (pt_val (pe_df T.is_whole (ok_is_whole T) (hr.mono (by decide)) (pa_cons (pv 1) pa_nil)))) (pw_or1 (pt_not (pt_chain op_le op_lt pe_int (pv 1) (pe_callB call_len_seq (by rfl) T.m_len (by decide +kernel) (pa_cons (pv 0) pa_nil)))))))
      (pss_one (ps_raise rfl (takes_of rfl rfl rfl rfl) (pmk_own PySem.F.excBase_ValueError T.BadNumber.x T.BadNumber.g T.BadNumber.k (raises_own T.BadNumber.e.hs T.BadNumber.t) rfl)))
      pss_nil) pss_never), ?_⟩
    refine ⟨_, rfl, a, ns, 40, rfl, hA, g, by omega, by omega, by omega, fun H1 s1 => ?_⟩
    rcases hB.ext (.of s1) with hB | ⟨i, rfl, hi⟩
    · obtain ⟨ty, b1, b2, t1, t2, t3, t4⟩ := hB.whole (K := K)
      refine ⟨_, rfl, v, ty, b1, b2, rfl, t1, t2, t3, _, rfl, ?_⟩
      rw [t4]
      exact iteT (q _ s1)
    · refine ⟨_, rfl, .int i, "int", true, false, rfl, .base (.int _), by decide +kernel, by decide +kernel, _, rfl, iteF ?_⟩
      refine ⟨_, rfl, 0, i, rfl, rfl, _, rfl, ite2 (fun e => ?_) (fun e => ⟨_, rfl, q _ s1⟩)⟩
      have h1 : 0 ≤ i := of_decide_eq_true e
      refine ⟨_, rfl, a, _, rfl, .inl (s1.seq hA), i, _, rfl, rfl, _, rfl, ?_⟩
      rw [iv_len, decide_eq_false (show ¬ i < (ns.length : Int) by omega)]
      exact iteT (q _ s1)
/-! ### check_counts, how_many, setting_by refuse what are no counts -/
def BadCC (H : Hp) (u v : V) (g : Int) : Prop := BadC H u g ∨ ∃ n : Int, u = .int n ∧ 1 ≤ n ∧ n ≤ g ∧ BadC H v n
def spCountsX (T : Tx K mg) : Sp := fun vs H _ E => ∃ (u v : V) (g : Int), vs = [u, v, .int g] ∧ BadCC H u v g ∧ E (.ref T.BadCount.C) none H

theorem okx_check_counts (T : Tx K mg) : FnOk P w K mg base (L2.CX P w) 3 T.check_counts.f T.check_counts.fd ["boxes", "most", "greatest"] (spCountsX T) := by
  refine T.check_counts.F.okX sc_check_counts (fun vs H Q E h => ?_) (fun cdv A outer s H vs Q E hr h => ?_)
  · obtain ⟨u, v, g, rfl, _⟩ := h
    rfl
  · obtain ⟨u, v, g, rfl, hB, q⟩ := h
    refine ⟨_, pss_cons (ps_if (PW.pt (pw_or (pt_not (pt_val (pe_df T.is_whole (ok_is_whole T) (hr.mono (by decide)) (pa_cons (pv 0) pa_nil)))) (pw_or1 (pt_not (pt_chain op_le op_le pe_int (pv 0) (pv 2))))))
      (pss_one (ps_raise rfl (takes_of rfl rfl rfl rfl) (pmk_own PySem.F.excBase_ValueError T.BadCount.x T.BadCount.g T.BadCount.k (raises_own T.BadCount.e.hs T.BadCount.t) rfl)))
      pss_nil) (pss_one (ps_expr (pe_dfX T.check_count (okx_check_count T) (hr.mono (by decide)) (takes_of rfl rfl rfl rfl) (fun _ _ _ _ h => h) (pa_cons (pv 0) (pa_cons (pv 1) pa_nil))))), ?_⟩
    rcases hB with (hB | ⟨i, rfl, hi⟩) | ⟨n, rfl, h1, h2, hB⟩
    · obtain ⟨ty, b1, b2, t1, t2, t3, t4⟩ := hB.whole (K := K)
      refine ⟨_, rfl, u, ty, b1, b2, rfl, t1, t2, t3, _, rfl, ?_⟩
      rw [t4]
      exact iteT q
    · refine ⟨_, rfl, .int i, "int", true, false, rfl, .base (.int _), by decide +kernel, by decide +kernel, _, rfl, iteF ?_⟩
      refine ⟨_, rfl, 1, i, rfl, rfl, _, rfl, ite2 (fun e => ?_) (fun e => ⟨_, rfl, q⟩)⟩
      have h1 : 1 ≤ i := of_decide_eq_true e
      refine ⟨_, rfl, i, g, rfl, rfl, _, rfl, ?_⟩
      rw [decide_eq_false (show ¬ i ≤ g by omega)]
      exact iteT q
    · refine ⟨_, rfl, .int n, "int", true, false, rfl, .base (.int _), by decide +kernel, by decide +kernel, _, rfl, iteF ?_⟩
      refine ⟨_, rfl, 1, n, rfl, rfl, _, rfl, ?_⟩
      rw [decide_eq_true h1]
      refine iteT ⟨_, rfl, n, g, rfl, rfl, _, rfl, ?_⟩
      rw [decide_eq_true h2]
      exact iteF ⟨_, rfl, _, rfl, n, v, rfl, hB, q⟩
def spC_how_many (T : Tx K mg) : Sp := fun vs H _ E => ∃ (u v : V), vs = [u, v] ∧ BadCC H u v 100 ∧ E (.ref T.BadCount.C) none H

theorem okc_how_many (T : Tx K mg) : FnOk P w K mg base (L2.CX P w) 4 T.how_many.f T.how_many.fd ["boxes", "most"] (spC_how_many T) := by
  refine T.how_many.F.okX sc_how_many (fun vs H Q E h => ?_) (fun cdv A outer s H vs Q E hr h => ?_)
  · obtain ⟨u, v, rfl, _⟩ := h
    rfl
  · obtain ⟨u, v, rfl, hB, q⟩ := h
    refine ⟨_, pss_cons (ps_expr (pe_dfX T.check_counts (okx_check_counts T) (hr.mono (by decide)) (takes_of rfl rfl rfl rfl) (fun _ _ _ _ h => h) (pa_cons (pv 0) (pa_cons (pv 1) (pa_cons (pe_glob (v := .int 100) rfl T.c_GREATEST ⟨_, rfl⟩) pa_nil))))) pss_never, ?_⟩
    exact ⟨_, rfl, _, rfl, u, v, 100, rfl, hB, q⟩
def spC_setting_by (T : Tx K mg) : Sp := fun vs H _ E => ∃ (u v x : V), vs = [u, v, x] ∧ BadCC H u v 8 ∧ E (.ref T.BadCount.C) none H

theorem okc_setting_by (T : Tx K mg) : FnOk P w K mg base (L2.CX P w) 4 T.setting_by.f T.setting_by.fd ["boxes", "most", "number"] (spC_setting_by T) := by
  refine T.setting_by.F.okX sc_setting_by (fun vs H Q E h => ?_) (fun cdv A outer s H vs Q E hr h => ?_)
  · obtain ⟨u, v, x, rfl, _⟩ := h
    rfl
  · obtain ⟨u, v, x, rfl, hB, q⟩ := h
    refine ⟨_, pss_cons (ps_expr (pe_dfX T.check_counts (okx_check_counts T) (hr.mono (by decide)) (takes_of rfl rfl rfl rfl) (fun _ _ _ _ h => h) (pa_cons (pv 0) (pa_cons (pv 1) (pa_cons (pe_glob (v := .int 8) rfl T.c_NUMBERED ⟨_, rfl⟩) pa_nil))))) pss_never, ?_⟩
    exact ⟨_, rfl, _, rfl, u, v, 8, rfl, hB, q⟩
/-! ### setting_by refuses what is no number -/
def spN_setting_by (T : Tx K mg) : Sp := fun vs H _ E => ∃ (n m : Nat) (v : V), vs = [.int (n : Int), .int (m : Int), v] ∧ 1 ≤ n ∧ n ≤ 8 ∧ 1 ≤ m ∧ m ≤ n ∧ BadH H v ((hm n m : Nat) : Int) ∧ ∀ H', Same H H' → E (.ref T.BadNumber.C) none H'
theorem okn_setting_by (T : Tx K mg) : FnOk P w K mg base (L2.CX P w) 5 T.setting_by.f T.setting_by.fd ["boxes", "most", "number"] (spN_setting_by T) := by
  refine T.setting_by.F.okX sc_setting_by (fun vs H Q E h => ?_) (fun cdv A outer s H vs Q E hr h => ?_)
  · obtain ⟨n, m, v, rfl, _⟩ := h
    rfl
  · obtain ⟨n, m, v, rfl, h1, h2, h3, h4, hB, q⟩ := h
    refine ⟨_, pss_cons (ps_expr (pe_df T.check_counts (ok_check_counts T) (hr.mono (by decide)) (pa_cons (pv 0) (pa_cons (pv 1) (pa_cons (pe_glob (v := .int 8) rfl T.c_NUMBERED ⟨_, rfl⟩) pa_nil))))) (pss_cons (ps_if (PW.pt (pw_or (pt_not (pt_val (pe_df T.is_whole (ok_is_whole T) (hr.mono (by decide)) (pa_cons (pv 2) pa_nil)))) (pw_or1 (pt_not (pt_chain op_le op_lt pe_int (pv 2) (pe_df T.how_many (ok_how_many T) (hr.mono (by decide)) (pa_cons (pv 0) (pa_cons (pv 1) pa_nil))))))))
      (pss_one (ps_raise rfl (takes_of rfl rfl rfl rfl) (pmk_own PySem.F.excBase_ValueError T.BadNumber.x T.BadNumber.g T.BadNumber.k (raises_own T.BadNumber.e.hs T.BadNumber.t) rfl)))
      pss_nil) pss_never), ?_⟩
    refine ⟨_, rfl, _, rfl, n, m, 8, rfl, by omega, by omega, by omega, by omega, ?_⟩
    rcases hB with hB | ⟨i, rfl, hi⟩
    · obtain ⟨ty, b1, b2, t1, t2, t3, t4⟩ := hB.whole (K := K)
      refine ⟨_, rfl, v, ty, b1, b2, rfl, t1, t2, t3, _, rfl, ?_⟩
      rw [t4]
      exact iteT (q _ (.refl _))
    · refine ⟨_, rfl, .int i, "int", true, false, rfl, .base (.int _), by decide +kernel, by decide +kernel, _, rfl, iteF ?_⟩
      refine ⟨_, rfl, 0, i, rfl, rfl, _, rfl, ite2 (fun e => ?_) (fun e => ⟨_, rfl, q _ (.refl _)⟩)⟩
      have h1' : 0 ≤ i := of_decide_eq_true e
      refine ⟨_, rfl, _, rfl, n, m, rfl, h1, by omega, h3, h4, fun H1 s1 => ⟨i, _, rfl, rfl, _, rfl, ?_⟩⟩
      rw [decide_eq_false (show ¬ i < ((hm n m : Nat) : Int) by omega)]
      exact iteT (q _ s1)
/-! ### number_of refuses a setting that loses -/
def spL_number_of (T : Tx K mg) : Sp := fun vs H _ E => ∃ (a : Addr) (x : List Nat) (m : Nat), vs = [.ref a, .int (m : Int)] ∧ SqL K H a (iv x) ∧ Good x ∧ 1 ≤ x.length ∧ x.length ≤ 8 ∧ 1 ≤ m ∧ m ≤ x.length ∧ ¬ Short x m ∧ ∀ H', Same H H' → E (.ref T.Lost.C) none H'
theorem okl_number_of (T : Tx K mg) : FnOk P w K mg base (L2.CX P w) 4 T.number_of.f T.number_of.fd ["setting", "most"] (spL_number_of T) := by
  refine T.number_of.F.okX sc_number_of (fun vs H Q E h => ?_) (fun cdv A outer s H vs Q E hr h => ?_)
  · obtain ⟨a, x, m, rfl, _⟩ := h
    rfl
  · obtain ⟨a, x, m, rfl, hA, g, hn1, hn, hm1, hm, hS, q⟩ := h
    refine ⟨_, pss_cons (ps_expr (pe_df T.check_boxes (ok_check_boxes T) (hr.mono (by decide)) (pa_cons (pv 0) (pa_cons (pe_glob (v := .int 8) rfl T.c_NUMBERED ⟨_, rfl⟩) pa_nil)))) (pss_cons (ps_expr (pe_df T.check_count (ok_check_count T) (hr.mono (by decide)) (pa_cons (pe_callB call_len_seq (by rfl) T.m_len (by decide +kernel) (pa_cons (pv 0) pa_nil)) (pa_cons (pv 1) pa_nil)))) (pss_cons (ps_if (pt_cmpR (op_neD hr.units) (pe_df T.long_rings (ok_long_rings T) (hr.mono (by decide)) (pa_cons (pv 0) (pa_cons (pv 1) pa_nil))) (pe_lst pa_nil) (nomark _))
      (pss_one (ps_raise rfl (takes_of rfl rfl rfl rfl) (pmk_own PySem.F.excBase_ValueError T.Lost.x T.Lost.g T.Lost.k (raises_own T.Lost.e.hs T.Lost.t) rfl)))
      pss_nil) pss_never)), ?_⟩
    refine ⟨_, rfl, a, x, 8, rfl, hA, g, by omega, by omega, by omega, fun H1 s1 => ?_⟩
    refine ⟨_, rfl, a, _, rfl, .inl (s1.seq hA), _, rfl, _, m, rfl, by omega, by rw [iv_len]; omega, ?_⟩
    refine ⟨_, rfl, _, rfl, a, x, m, rfl, s1.seq hA, g, by omega, fun H2 p ps s2 np ep R hp => ?_⟩
    refine ⟨Nat.zero_le _, fun z nz => ?_⟩
    have s3 := same_upd (o := .lst []) nz
    refine ne_rows (x := longOf x m) (y := []) ((R.sees ep).same s3) ⟨[], .of upd_same, rfl, fun i q r h _ => by simp at h⟩ ⟨_, rfl, ?_⟩
    rw [decide_eq_false fun z => hS ((longOf_nil g).mp z)]
    exact iteT (q _ ((s1.trans s2).trans s3))
end
end Sb
namespace Sb
open PySem PySem.Spec PyProof.Rows L2
abbrev bts (c : Int) : Nat := Builtin.Int.intBits c
theorem bts_small {c : Int} (h1 : -(2 ^ 64) < c) (h2 : c < 2 ^ 64) : bts c ≤ 64 := PySem.intBits_le_64 h1 h2
/-- the script's numbers -/
def Cells (cs : List Int) : Prop := ∀ z ∈ cs, bts z ≤ 1048576
section
variable {P : Program} {w : World} {K : PySem.W.Frag} {mg : Str → Option Value} {base : Heap}
/-! ### _law_cell_at -/
def spCellAt (K : PySem.W.Frag) : Sp := fun vs H Q _ => ∃ (a : Addr) (cs : List Int) (k : Nat), vs = [.ref a, .int (k : Int)] ∧ SqL K H a (cs.map V.int) ∧ Cells cs ∧ ∀ c, bts c ≤ 1048576 → Q (.int c) H
abbrev n_law_cell_at : List Str := ["_law_script", "_law_k"]
theorem sc_law_cell_at : FnScope n_law_cell_at ["_law_script", "_law_k"] (defScope s_law_cell_at) := ⟨rfl, rfl, rfl, by decide +kernel, rfl, by decide +kernel, by decide +kernel⟩
theorem ok_law_cell_at (T : Tx K mg) : FnOk P w K mg base CX0 1 T.law_cell_at.f T.law_cell_at.fd ["_law_script", "_law_k"] (spCellAt K) := by
  refine T.law_cell_at.F.ok sc_law_cell_at (fun vs H Q E h => ?_) (fun cdv A outer s H vs Q E hr h => ?_)
  · obtain ⟨a, cs, k, rfl, _⟩ := h
    rfl
  · obtain ⟨a, cs, k, rfl, hS, hc, q⟩ := h
    refine ⟨_, (pss_cons (ps_if (pt_cmpR op_lt (pv 1) (pe_callB call_len_seq (by rfl) T.m_len (by decide +kernel) (pa_cons (pv 0) pa_nil)) (nomark _))
      (pss_one (ps_ret (pe_ix ix_list (pv 0) (pv 1) (fun _ _ => rfl))))
      pss_nil)
    (pss_one (ps_ret pe_int))), ?_⟩
    refine ⟨_, rfl, .ref a, rfl, a, _, rfl, .inl hS, _, _, rfl, rfl, _, rfl, ite2 (fun e => ?_) (fun e => ?_)⟩
    · have hk : k < cs.length := by
        have := of_decide_eq_true e
        rw [List.length_map] at this
        omega
      refine ⟨.ref a, rfl, _, rfl, a, _, _, .int cs[k], rfl, rfl, hS, atI_nat ?_, q _ (hc _ (List.getElem_mem hk))⟩
      rw [List.getElem?_map, List.getElem?_eq_getElem hk]; rfl
    · exact q 0 (by decide)
/-! ### _law_draw -/
def prs : List Int := [1000003, 1000033, 1000037, 1000039, 1000081, 1000099, 1000117, 1000121, 1000133, 1000151, 1000159, 1000171, 1000183, 1000187, 1000193, 1000199]
def spDraw : Sp := fun vs H Q _ => ∃ (c m : Int) (k : Nat), vs = [.int c, .int (k : Int), .int m] ∧ k ≤ 1000000 ∧ 0 < m ∧ ∀ H' d, Same H H' → 0 ≤ d → d < m → Q (.int d) H'
abbrev n_law_draw : List Str := ["_law_cell", "_law_k", "_law_many", "_law_primes"]
theorem sc_law_draw : FnScope n_law_draw ["_law_cell", "_law_k", "_law_many"] (defScope s_law_draw) := ⟨rfl, rfl, rfl, by decide +kernel, rfl, by decide +kernel, by decide +kernel⟩
theorem ok_law_draw (T : Tx K mg) : FnOk P w K mg base CX0 1 T.law_draw.f T.law_draw.fd ["_law_cell", "_law_k", "_law_many"] spDraw := by
  refine T.law_draw.F.ok sc_law_draw (fun vs H Q E h => ?_) (fun cdv A outer s H vs Q E hr h => ?_)
  · obtain ⟨c, m, k, rfl, _⟩ := h
    rfl
  · obtain ⟨c, m, k, rfl, hk, hm, q⟩ := h
    refine ⟨_, (pss_cons (ps_set (i := 3) sc_law_draw.nd rfl (.inl rfl) (pe_tup (pa_cons pe_int (pa_cons pe_int (pa_cons pe_int (pa_cons pe_int (pa_cons pe_int (pa_cons pe_int (pa_cons pe_int (pa_cons pe_int (pa_cons pe_int (pa_cons pe_int (pa_cons pe_int (pa_cons pe_int (pa_cons pe_int (pa_cons pe_int (pa_cons pe_int (pa_cons pe_int pa_nil))))))))))))))))))
    (pss_one (ps_ret (pe_op op_mod (pe_op op_mod (pe_op op_add (pe_op op_mulX (pv 0) pe_int) (pe_op op_mulX (pv 1) pe_int)) (pe_ix ix_tup (pv 3) (pe_op op_mod (pv 1) pe_int) (fun _ _ => rfl))) (pv 2))))), ?_⟩
    refine ⟨sz (by decide), fun t nt => ?_⟩
    have hj : ((k : Int) % 16).toNat < prs.length := by
      show _ < 16
      omega
    have ej : ((((k : Int) % 16).toNat : Nat) : Int) = (k : Int) % 16 := by omega
    have ha : atI (prs.map V.int) ((k : Int) % 16) = some (.int prs[((k : Int) % 16).toNat]) := at_of ej.symm (by
      rw [List.getElem?_map, List.getElem?_eq_getElem hj]; rfl)
    have hp : 0 < prs[((k : Int) % 16).toNat] := by
      have all : ∀ p ∈ prs, (0 : Int) < p := by decide
      exact all _ (List.getElem_mem hj)
    refine ⟨_, rfl, c, 48271, rfl, rfl, .of_right (bts_small (by decide) (by decide)), _, rfl, k, 69621, rfl, rfl, .of_right (bts_small (by decide) (by decide)), _, _, rfl, rfl, ?_⟩
    refine ⟨.ref t, rfl, _, rfl, k, 16, rfl, rfl, (by show (0 : Int) < 16; decide), t, prs.map V.int, _, _, rfl, rfl, .of upd_same, ha, ?_⟩
    refine ⟨_, _, rfl, rfl, hp, _, rfl, _, m, rfl, rfl, hm, ?_⟩
    exact q _ _ (same_upd nt) (Int.emod_nonneg _ (by omega)) (Int.emod_lt_of_pos _ hm)
/-! ### _law_value: some number from 0 on -/
def spValue : Sp := fun vs H Q _ => ∃ (c : Int) (t : Nat), vs = [.int c, .int (t : Int)] ∧ bts c ≤ 1048576 ∧ t ≤ 100000 ∧ ∀ H' v, Same H H' → 0 ≤ v → Q (.int v) H'
abbrev n_law_value : List Str := ["_law_cell", "_law_turn", "_law_mixed"]
theorem sc_law_value : FnScope n_law_value ["_law_cell", "_law_turn"] (defScope s_law_value) := ⟨rfl, rfl, rfl, by decide +kernel, rfl, by decide +kernel, by decide +kernel⟩
theorem ok_law_value (T : Tx K mg) : FnOk P w K mg base CX0 2 T.law_value.f T.law_value.fd ["_law_cell", "_law_turn"] spValue := by
  refine T.law_value.F.ok sc_law_value (fun vs H Q E h => ?_) (fun cdv A outer s H vs Q E hr h => ?_)
  · obtain ⟨c, t, rfl, _⟩ := h
    rfl
  · obtain ⟨c, t, rfl, hc, ht, q⟩ := h
    refine ⟨_, (pss_cons (ps_if (pt_cmpR op_ge (pv 0) (pe_op op_pow pe_int pe_int) (nomark _))
      (pss_one (ps_ret (pe_op op_shr (pe_op op_sub (pv 0) (pe_op op_pow pe_int pe_int)) (pe_op op_mulX pe_int (pv 1)))))
      pss_nil)
    (pss_cons (ps_set (i := 2) sc_law_value.nd rfl (.inl rfl) (pe_df T.law_draw (ok_law_draw T) (hr.mono (by decide)) (pa_cons (pe_op op_mulX (pe_op op_add (pv 0) (pe_op op_mulX pe_int (pv 1))) (pe_op op_add (pe_op op_add (pv 0) (pe_op op_mulX pe_int (pv 1))) pe_int)) (pa_cons (pe_op op_add (pe_op op_mod (pv 1) pe_int) pe_int) (pa_cons pe_int pa_nil)))))
    (pss_one (ps_ret (pe_op op_add (pe_op op_mulX (pv 2) pe_int) (pe_df T.law_draw (ok_law_draw T) (hr.mono (by decide)) (pa_cons (pe_op op_add (pe_op op_mulX (pe_op op_add (pv 0) (pe_op op_mulX pe_int (pv 1))) (pe_op op_add (pv 0) pe_int)) (pe_op op_mulX pe_int (pv 1))) (pa_cons (pe_op op_add (pe_op op_mod (pv 1) pe_int) pe_int) (pa_cons pe_int pa_nil))))))))), ?_⟩
    refine ⟨_, rfl, 10, 18, rfl, rfl, ⟨by decide, by decide, by decide⟩, c, _, rfl, rfl, _, rfl, ite2 (fun e => ?_) (fun e => ?_)⟩
    · have hc1 : (10 : Int) ^ (18 : Int).toNat ≤ c := of_decide_eq_true e
      refine ⟨_, rfl, 10, 18, rfl, rfl, ⟨by decide, by decide, by decide⟩, c, _, rfl, rfl, _, rfl, 3, t, rfl, rfl, .of_left (bts_small (by decide) (by decide)), _, _, rfl, rfl, by omega, ?_⟩
      refine q _ _ (Same.refl H) (Int.ediv_nonneg (by omega) ?_)
      exact Int.le_of_lt (Int.pow_pos (by decide))
    · have bt : ∀ x : Int, 0 ≤ x → x ≤ 100000000 → bts (c + x) ≤ 1048577 := fun x h1 h2 =>
        PySem.intBits_add_le (m := 1048576) (n := 64) hc (bts_small (by omega) (by omega))
      have t64 : IntMulOk (977 : Int) (t : Int) := .of_left (bts_small (by decide) (by decide))
      have t31 : IntMulOk (31 : Int) (t : Int) := .of_left (bts_small (by decide) (by decide))
      refine ⟨_, rfl, _, rfl, 977, t, rfl, rfl, t64, c, _, rfl, rfl, _, rfl, _, rfl, 31, t, rfl, rfl, t31, c, _, rfl, rfl, _, 5, rfl, rfl, _, _, rfl, rfl, ?_, ?_⟩
      · refine PySem.IntMulOk.of_le (m := 1048577) (n := 1048577) (bt _ (by omega) (by omega)) ?_ (by decide)
        rw [Int.add_assoc]
        exact bt _ (by omega) (by omega)
      refine ⟨_, rfl, t, 9, rfl, rfl, (by show (0 : Int) < 9; decide), _, 1, rfl, rfl, ?_⟩
      refine ⟨_, 999983, ((t : Int) % 9 + 1).toNat, by rw [Int.toNat_of_nonneg (by omega)]; rfl, by omega, by decide, fun H1 d s1 h0 h1 => ?_⟩
      refine ⟨_, rfl, d, 1000003, rfl, rfl, .of_right (bts_small (by decide) (by decide)), _, rfl, _, rfl, 31, t, rfl, rfl, t31, c, _, rfl, rfl, _, rfl, c, 7, rfl, rfl, _, _, rfl, rfl, ?_, ?_⟩
      · exact PySem.IntMulOk.of_le (m := 1048577) (n := 1048577) (bt _ (by omega) (by omega)) (bt _ (by omega) (by omega)) (by decide)
      refine ⟨_, rfl, 977, t, rfl, rfl, t64, _, _, rfl, rfl, _, rfl, t, 7, rfl, rfl, (by show (0 : Int) < 7; decide), _, 2, rfl, rfl, ?_⟩
      refine ⟨_, 1000003, ((t : Int) % 7 + 2).toNat, by rw [Int.toNat_of_nonneg (by omega)]; rfl, by omega, by decide, fun H2 d2 s2 h2 h3 => ?_⟩
      exact ⟨_, _, rfl, rfl, q _ _ (s1.trans s2) (by omega)⟩
end
end Sb
namespace Sb
open PySem PySem.Spec PyProof.Rows L2
/-- range(0, m, s), s from 1 on -/
theorem rgC_pos {m s : Nat} (h1 : 1 ≤ m) (hm : m ≤ 100000) (h2 : 1 ≤ s) (hs : s ≤ 100000) : RgC 0 (m : Int) (s : Int) ((m - 1) / s + 1) := by
  have e : Builtin.Range.rangeSize 0 (m : Int) (s : Int) = (((m - 1) / s + 1 : Nat) : Int) := by
    unfold Builtin.Range.rangeSize
    rw [if_pos (by omega), if_pos (by omega), show (m : Int) - 0 - 1 = ((m - 1 : Nat) : Int) by omega]
    push_cast
    rfl
  have hd : (m - 1) / s ≤ m - 1 := Nat.div_le_self _ _
  have hmul : (m - 1) / s * s ≤ m - 1 := Nat.div_mul_le_self _ _
  refine ⟨by omega, by omega, ?_, e⟩
  unfold Builtin.Range.small
  rw [e]
  rw [if_pos (show (s : Int) > 0 by omega)]
  have f : ∀ x : Int, -1000000 ≤ x → x ≤ 1000000 → Builtin.Range.rangeFitsLong x = true := fun x h1 h2 => by
    simp only [Builtin.Range.rangeFitsLong, Bool.and_eq_true, decide_eq_true_eq]
    omega
  have hc : (((m - 1) / s + 1 : Nat) : Int) ≤ 1000000 := by omega
  have hc0 : -1000000 ≤ (((m - 1) / s + 1 : Nat) : Int) := Int.le_trans (by decide) (Int.natCast_nonneg _)
  rw [f 0 (by omega) (by omega), f m (by omega) (by omega), f s (by omega) (by omega), f _ hc0 hc, f _ (by omega) (by omega), Bool.or_true]
  rfl
/-- a slice of numbers -/
theorem cut_iv (ns : List Nat) (b s : Nat) : cutV (iv ns) (some (b : Int)) (some ((b : Int) + (s : Int))) = iv ((ns.drop b).take s) := by
  unfold cutV
  rw [show (b : Int) + (s : Int) = ((b + s : Nat) : Int) by omega, HT.sIx_nat, HT.sIx_nat, iv_len]
  show List.take _ (List.drop _ (List.map _ ns)) = List.map _ _
  rw [← List.map_drop, ← List.map_take]
  congr 1
  by_cases hb : b ≤ ns.length
  · rw [Nat.min_eq_left hb]
    by_cases hs : b + s ≤ ns.length
    · rw [Nat.min_eq_left hs, show b + s - b = s by omega]
    · rw [Nat.min_eq_right (by omega), List.take_of_length_le (by rw [List.length_drop]; omega), List.take_of_length_le (by rw [List.length_drop]; omega)]
  · rw [Nat.min_eq_right (show ns.length ≤ b by omega), List.drop_of_length_le (Nat.le_refl _), List.drop_of_length_le (by omega)]
    simp
theorem cut_iv1 (ns : List Nat) : cutV (iv ns) (some 1) none = iv (ns.drop 1) := by
  unfold cutV
  rw [show HT.sIx (iv ns).length 0 (some 1) = min 1 (iv ns).length from HT.sIx_nat _ 0 1, HT.sIx_none, iv_len]
  show List.take _ (List.drop _ (List.map _ ns)) = List.map _ _
  rw [← List.map_drop, ← List.map_take]
  congr 1
  cases ns with
  | nil => rfl
  | cons x r =>
    rw [show min 1 (x :: r).length = 1 by rw [List.length_cons]; omega]
    rw [List.take_of_length_le]
    rw [List.length_drop]
    exact Nat.le_refl _
theorem cut_iv0 (ns : List Nat) (k : Nat) : cutV (iv ns) none (some (k : Int)) = iv (ns.take k) := by
  unfold cutV
  rw [HT.sIx_nat, HT.sIx_none, iv_len, List.drop_zero, Nat.sub_zero]
  show List.take _ (List.map _ ns) = List.map _ _
  rw [← List.map_take]
  congr 1
  by_cases h : k ≤ ns.length
  · rw [Nat.min_eq_left h]
  · rw [Nat.min_eq_right (by omega), List.take_of_length_le (Nat.le_refl _), List.take_of_length_le (by omega)]
theorem iv_append (a b : List Nat) : iv a ++ iv b = iv (a ++ b) := (List.map_append ..).symm
theorem iv_set (ns : List Nat) (i x : Nat) : (iv ns).set i (.int (x : Int)) = iv (ns.set i x) := (List.map_set ..).symm
theorem rep_iv (m : Nat) : (List.replicate (m : Int).toNat [V.int 0]).flatten = iv (List.replicate m 0) := by
  rw [Int.toNat_natCast]
  show _ = List.map _ _
  rw [List.map_replicate]
  induction m with
  | zero => rfl
  | succ m ih => rw [List.replicate_succ, List.replicate_succ, List.flatten_cons, ih]; rfl
theorem zip_get? {r q : List Nat} (i : Nat) {x y : Nat} (hx : r[i]? = some x) (hy : q[i]? = some y) : (r.zip q)[i]? = some (x, y) := by
  rw [List.getElem?_zip_eq_some]; exact ⟨hx, hy⟩
end Sb
namespace Sb
open PySem PySem.Spec PyProof.Rows L2
theorem cut_since (xs : List V) (k : Nat) : cutV xs (some (k : Int)) none = xs.drop k := by
  unfold cutV
  rw [HT.sIx_nat, HT.sIx_none]
  by_cases h : k ≤ xs.length
  · rw [Nat.min_eq_left h, List.take_of_length_le (by rw [List.length_drop]; exact Nat.le_refl _)]
  · rw [Nat.min_eq_right (by omega), List.drop_of_length_le (Nat.le_refl _), List.drop_of_length_le (by omega)]
    simp
theorem ins_iv (l : List Nat) (n i : Nat) : (iv l).take i ++ [V.int (n : Int)] ++ (iv l).drop i = iv (insAt l n i) := by
  show _ = List.map _ (l.take i ++ [n] ++ l.drop i)
  rw [List.map_append, List.map_append, List.map_take, List.map_drop]
  rfl
/-- the lists made so far: of the first j all, of the next one t -/
def ordPart (L : List (List Nat)) (n j : Nat) (l : List Nat) (t : Nat) : List (List Nat) := ((L.take j).flatMap fun l => (List.range (n + 1)).map fun i => insAt l n i) ++ (List.range t).map fun i => insAt l n i
theorem ordPart_succ (L : List (List Nat)) (n j : Nat) (l : List Nat) (t : Nat) : ordPart L n j l (t + 1) = ordPart L n j l t ++ [insAt l n t] := by
  unfold ordPart
  rw [List.range_succ (n := t), List.map_append, List.append_assoc]
  rfl
theorem ordPart_next {L : List (List Nat)} {n j : Nat} {l : List Nat} (h : L[j]? = some l) (l' : List Nat) : ordPart L n j l (n + 1) = ordPart L n (j + 1) l' 0 := by
  unfold ordPart
  rw [List.take_add_one, h, List.flatMap_append]
  simp
theorem ordPart_len {L : List (List Nat)} {n j t : Nat} {l : List Nat} (hl : L.length ≤ 200) (hn : n ≤ 10) (ht : t ≤ 11) : (ordPart L n j l t).length ≤ 10000 := by
  unfold ordPart
  rw [List.length_append, List.length_flatMap, List.length_map, List.length_range]
  have : ((L.take j).map fun l => ((List.range (n + 1)).map fun i => insAt l n i).length) = List.replicate (L.take j).length (n + 1) := by
    rw [← List.map_const']
    apply List.map_congr_left
    intro l _
    rw [List.length_map, List.length_range]
  rw [this, List.sum_replicate_nat]
  have h1 : (L.take j).length ≤ 200 := by rw [List.length_take]; omega
  have h2 : (L.take j).length * (n + 1) ≤ 200 * 11 := Nat.mul_le_mul h1 (by omega)
  omega
theorem ord200 : ∀ n, n ≤ 5 → (ordersOf n).length ≤ 120 := fun n h => by
  rw [ordersOf_len]
  exact Nat.le_trans (fact_le n 5 h) (by decide)
end Sb
namespace Sb
open PySem PySem.Spec PyProof.Rows L2
/-! ### lists of truths compared; a list in a tuple of lists -/
theorem can_bl : ∀ bs : List Bool, PyData.canLayAll0 (bs.map PyData.bool) = true
  | [] => by unfold PyData.canLayAll0; rfl
  | n :: r => by
    rw [List.map_cons]
    unfold PyData.canLayAll0
    rw [can_bl r]; unfold PyData.canLay0; rfl
theorem dep_bl : ∀ bs : List Bool, PyData.depthAll (bs.map PyData.bool) ≤ 1
  | [] => by unfold PyData.depthAll; exact Nat.zero_le _
  | n :: r => by
    rw [List.map_cons]
    unfold PyData.depthAll
    have e : PyData.depth (.bool n) ≤ 1 := by
      unfold PyData.depth
      omega
    exact Nat.max_le.mpr ⟨e, dep_bl r⟩
theorem shaped_bl (bs : List Bool) : SeqAt.shaped (.list (bs.map PyData.bool)) = true := by
  unfold SeqAt.shaped
  rw [Bool.and_eq_true_iff]
  refine ⟨by unfold PyData.canLay0; exact can_bl bs, decide_eq_true ?_⟩
  have h := dep_bl bs
  unfold PyData.depth
  omega
theorem eqv_bl : ∀ a b : List Bool, PyData.eqvAll (a.map PyData.bool) (b.map PyData.bool) = decide (a = b)
  | [], [] => by unfold PyData.eqvAll; rfl
  | [], y :: b => by rw [List.map_cons]; unfold PyData.eqvAll; rfl
  | x :: a, [] => by rw [List.map_cons]; unfold PyData.eqvAll; rfl
  | x :: a, y :: b => by
    rw [List.map_cons, List.map_cons]
    unfold PyData.eqvAll
    rw [eqv_bl a b]
    unfold PyData.eqv
    rw [Bool.eq_iff_iff]
    simp
theorem dp_bl {K : PySem.W.Frag} {H : Hp} : ∀ bs : List Bool, DpAll K H (bs.map V.bl) (bs.map PyData.bool)
  | [] => .nil
  | n :: r => .cons (.bl n) (dp_bl r)
theorem ne_bl {K : PySem.W.Frag} {H : Hp} {a b : Addr} {x y : List Bool} {Q : VK} (ha : SqL K H a (x.map V.bl)) (hb : SqL K H b (y.map V.bl)) (q : Q (.bl (!decide (x = y))) H) : rNeD K (.ref a) (.ref b) H Q :=
  ⟨.list (x.map PyData.bool), .list (y.map PyData.bool), .lst ha (dp_bl x), .lst hb (dp_bl y), shaped_bl x, shaped_bl y, by unfold PyData.eqv; rw [eqv_bl]; exact q⟩
theorem eq_bl {K : PySem.W.Frag} {H : Hp} {a b : Addr} {x y : List Bool} {Q : VK} (ha : SqL K H a (x.map V.bl)) (hb : SqL K H b (y.map V.bl)) (q : Q (.bl (decide (x = y))) H) : rEqD K (.ref a) (.ref b) H Q :=
  ⟨.list (x.map PyData.bool), .list (y.map PyData.bool), .lst ha (dp_bl x), .lst hb (dp_bl y), shaped_bl x, shaped_bl y, by unfold PyData.eqv; rw [eqv_bl]; exact q⟩
theorem lk_not {x y : Str} {v : V} (h : (x == y) = false) : List.lookup x [(y, v)] = none := by
  simp only [List.lookup, h]
theorem room65 {k : Nat} {A : Around} (r : Room k A) : A.units + 65 < cLine := by have := r.un; omega
def rInT (K : PySem.W.Frag) : R2 := fun x y H Q => ∃ d ds, Dp K H x d ∧ Dp K H y (.tuple ds) ∧ SeqAt.shaped d = true ∧ SeqAt.shaped (.tuple ds) = true ∧ Q (.bl (ds.any fun z => PyData.eqv z d)) H
theorem op_inT {X : Cx} (hu : X.A.units + 65 < cLine) : OpR X (compareOp .In) (rInT X.K) := by
  rintro pins s σ H x y v u Q I rx ry ⟨d, ds, hd, he, sd, se, q⟩
  obtain ⟨as, r1⟩ := Dp.reads I d x v hd rx
  obtain ⟨bs, r2⟩ := Dp.reads I (.tuple ds) y u he ry
  refine SeqAt.in_tuple_reads r2 r1 (SeqAt.canLay_of_shaped se) (SeqAt.canLay_of_shaped sd) ?_ ⟨.bl _, H, I, rfl, q⟩
  have h1 := SeqAt.depth_of_shaped sd
  have h2 : min (PyData.depthAll ds) d.depth ≤ d.depth := Nat.min_le_right _ _
  omega
end Sb
namespace Sb
open PySem PySem.Spec PyProof.Rows L2
section
variable {P : Program} {w : World} {K : PySem.W.Frag} {mg : Str → Option Value} {base : Heap}
/-! ### _law_due -/
def dueB (at_ : Nat) : List Bool := [decide (at_ = 0), decide (at_ = 1), decide (at_ = 2), decide (at_ = 3), true]
def spDue : Sp := fun vs H Q _ => ∃ n : Nat, vs = [.int (n : Int)] ∧ ∀ H' p, Same H H' → H' p = some (.lst ((dueB n).map V.bl)) → Q (.ref p) H'
abbrev n_law_due : List Str := ["_law_at", "_law_one"]
theorem sc_law_due : FnScope n_law_due ["_law_at"] (defScope s_law_due) := ⟨rfl, rfl, rfl, by decide +kernel, rfl, by decide +kernel, by decide +kernel⟩
theorem ok_law_due (T : Tx K mg) : FnOk P w K mg base CX0 1 T.law_due.f T.law_due.fd ["_law_at"] spDue := by
  refine T.law_due.F.ok sc_law_due (fun vs H Q E h => ?_) (fun cdv A outer s H vs Q E hr h => ?_)
  · obtain ⟨n, rfl, _⟩ := h
    rfl
  · obtain ⟨n, rfl, q⟩ := h
    refine ⟨_, (pss_one (ps_ret (pe_op op_cat (pe_lc (own := [("_law_one", 1)]) (g := gName 1) rfl sc_law_due.nd (pi_range1 (by rfl) T.m_range (pa_cons pe_int pa_nil)) (blkOk_by (own := [("_law_one", 1)]) (N := n_law_due) (sc := defScope s_law_due) (by decide +kernel)) (fun _ _ _ _ _ => (pg_name (i := 1) sc_law_due.nd rfl (.inl rfl))) (fun _ _ _ _ _ => pts_nil) (fun _ _ _ _ _ => (pe_cmpR op_eq (pv 0) (pv 1) (nomark _)))) (pe_lst (pa_cons pe_bl pa_nil))))), ?_⟩
    refine ⟨_, rfl, by decide, by decide, fun D nD => ?_⟩
    refine lc_range (lo := 0) (n := 4) (fun i H3 => Same H H3 ∧ H3 D = some (.lst (((dueB n).take i).map V.bl))) ⟨same_upd nD, upd_same⟩ (fun i H3 hi h => ?_) (fun H3 h => ?_)
    · obtain ⟨sm, eD⟩ := h
      refine ⟨rfl, _, rfl, _, rfl, rfl, _, eD, by rw [List.length_map, List.length_take]; exact szl (by omega), same_mut sm nD, ?_⟩
      rw [upd_same]
      have e : (decide (V.int (n : Int) = V.int ((0 : Int) + (i : Int)))) = decide (n = i) := by
        by_cases z : n = i
        · rw [decide_eq_true z, decide_eq_true (by rw [z, Int.zero_add])]
        · rw [decide_eq_false z, decide_eq_false (fun y => z (by have := V.int.inj y; omega))]
      rw [e]
      match i, hi with
      | 0, _ => rfl
      | 1, _ => rfl
      | 2, _ => rfl
      | 3, _ => rfl
    · obtain ⟨sm, eD⟩ := h
      refine ⟨sz (by decide), fun p np => ⟨_, _, _, _, rfl, rfl, (same_upd np) _ _ eD, upd_same, sz (by simp [dueB]), fun p2 np2 => ?_⟩⟩
      exact q _ p2 ((sm.trans (same_upd np)).trans (same_upd np2)) upd_same
end
end Sb
namespace Sb
open PySem PySem.Spec PyProof.Rows L2
theorem bad_ints {H : Hp} {a : Addr} {ns : List Int} {m : Int} (e : H a = some (.lst (ns.map V.int))) (few : ns.length ≤ 60) (h : ns.length < 1 ∨ m < (ns.length : Int) ∨ ¬ ns.Perm ((List.range ns.length).map fun (n : Nat) => (n : Int))) : BadB H (.ref a) m := by
  refine .inr ⟨a, ns.map V.int, ns.map fun _ => true, rfl, e, by rw [List.length_map]; exact few, by rw [List.length_map, List.length_map], fun i x b h1 h2 => ?_, ?_⟩
  · rw [List.getElem?_map] at h1 h2
    cases z : ns[i]? with
    | none => rw [z] at h1; cases h1
    | some y =>
      rw [z] at h1 h2
      cases h1; cases h2
      exact .int _
  · rw [List.length_map]
    rcases h with h | h | h
    · exact .inl (by omega)
    · exact .inr (.inl h)
    · exact .inr (.inr (.inr ⟨ns, rfl, h⟩))
end Sb
namespace Sb
open PySem PySem.Spec PyProof.Rows L2
/-! ### a lambda that is refused -/
/-- the n-th class -/
structure Kd {K : PySem.W.Frag} {mg : Str → Option Value} (T : Tx K mg) (D : Addr) (n : Nat) : Prop where
  C : ExcC K D
  sl : PySem.W.exmOne K (.ref D) (.ref T.SlipError.C) = some true
  k0 : PySem.W.kitOne K (.ref D) (.ref T.BadBoxes.C) = some (decide (n = 0))
  k1 : PySem.W.kitOne K (.ref D) (.ref T.BadCount.C) = some (decide (n = 1))
  k2 : PySem.W.kitOne K (.ref D) (.ref T.BadNumber.C) = some (decide (n = 2))
  k3 : PySem.W.kitOne K (.ref D) (.ref T.Lost.C) = some (decide (n = 3))
  kv : PySem.W.kitOne K (.ref D) (.type "ValueError") = some true
section
variable {K : PySem.W.Frag} {mg : Str → Option Value}
theorem slip_of (T : Tx K mg) {D : Addr} (h : PySem.W.subIn K (.ref D) (.ref T.SlipError.C) = some true) : PySem.W.exmOne K (.ref D) (.ref T.SlipError.C) = some true :=
  PySem.W.exm_ref T.SlipError.e.hs T.SlipError.e.hd T.SlipError.t h
theorem kd_boxes (T : Tx K mg) : Kd T T.BadBoxes.C 0 := ⟨T.BadBoxes.e, slip_of T T.sb_BadBoxes, T.q_BadBoxes_BadBoxes, T.q_BadBoxes_BadCount, T.q_BadBoxes_BadNumber, T.q_BadBoxes_Lost, T.qv_BadBoxes⟩
theorem kd_count (T : Tx K mg) : Kd T T.BadCount.C 1 := ⟨T.BadCount.e, slip_of T T.sb_BadCount, T.q_BadCount_BadBoxes, T.q_BadCount_BadCount, T.q_BadCount_BadNumber, T.q_BadCount_Lost, T.qv_BadCount⟩
theorem kd_number (T : Tx K mg) : Kd T T.BadNumber.C 2 := ⟨T.BadNumber.e, slip_of T T.sb_BadNumber, T.q_BadNumber_BadBoxes, T.q_BadNumber_BadCount, T.q_BadNumber_BadNumber, T.q_BadNumber_Lost, T.qv_BadNumber⟩
theorem kd_lost (T : Tx K mg) : Kd T T.Lost.C 3 := ⟨T.Lost.e, slip_of T T.sb_Lost, T.q_Lost_BadBoxes, T.q_Lost_BadCount, T.q_Lost_BadNumber, T.q_Lost_Lost, T.qv_Lost⟩
/-- the tables of the defs that hold lambdas -/
def lamTb (T : Tx K mg) : List (Addr × Str) := [(T.L_law_numbers_right.P, ("_law_numbers_right" ++ ".<locals>." : Str) ++ "<lambda>"), (T.L_law_spoiled_right.P, ("_law_spoiled_right" ++ ".<locals>." : Str) ++ "<lambda>")]
theorem lam_ref (T : Tx K mg) {Tb : List (Addr × Str)} {t : XK → TE} {σ : L2.St} {H : Hp} {Q : VK} {D : Addr} {n : Nat} (kd : Kd T D n) (hT : LamX.Tabs Tb H) (h : ∀ H1 E Q', LamX.ExtN H H1 → (∀ H', Same H1 H' → E (.ref D) none H') → t E σ H1 Q')
    (q : ∀ H2 p, LamX.ExtN H H2 → LamX.Tabs Tb H2 → H2 p = some (.lst ((dueB n).map V.bl)) → Q (.ref p) H2) : LamX.tLam Tb (TKinds K T.SlipError.C T.BadBoxes.C T.BadCount.C T.BadNumber.C T.Lost.C) t σ H Q := by
  refine ⟨hT, fun H1 e1 t1 o no => ?_⟩
  have so := same_upd (o := .lst []) no
  refine h _ _ _ (e1.trans (.of so)) fun H' s' => ⟨D, _, _, _, _, rfl, rfl, kd.C, kd.sl, kd.k0, kd.k1, kd.k2, kd.k3, kd.kv, fun H'' p s'' ep => ?_⟩
  exact q H'' p (e1.trans (.of ((so.trans s').trans s''))) (t1.ext ((so.trans s').trans s'')) ep
end
section
variable {X : Cx}
theorem pe_kinds {Tb : List (Addr × Str)} {c P : Addr} {k : Nat} {params : Arguments} {body : Expr} {scope : Scope} {t : XK → TE} {p lpos pos : Pos} (T : Tx X.K X.mg) (TB : LamX.TabB X.base X.mg c P) (hcode : X.env.code = .ref c) (hmT : (P, X.env.qual ++ "<lambda>") ∈ Tb) (hu : ∀ p ∈ Tb, p.1 = P → p.2 = X.env.qual ++ "<lambda>") (hr : Room (k + 2) X.A) (L : LamX.LamS X.env.scope scope)
    (hbody : ∀ (A : Around) (outer : List Env) (s : Shared) (H : Hp) (E : XK) (f c' : Addr), Room k (A.deeper (LamX.lamEnv X scope s.heap.objs.size f c')) → PE (LamX.lamCx X A outer s H E scope f c') body (t E))
    (hg : Gl X "_law_kinds" := by rfl) (hdef : defaultsOf params X.env = ([], []) := by rfl)
    (hbind : ∀ (q : Str) (cl : List (Str × Addr)) (pm cv ctv : Value), bindArgs (PySem.W.kla_fn "<lambda>" q params body scope cl pm cv ctv) ⟨[], []⟩ = pure [] := by intros; rfl) :
    PE X (.Call (.Name "_law_kinds" p) [.Lambda params body scope lpos] [] pos) (LamX.tLam Tb (TKinds X.K T.SlipError.C T.BadBoxes.C T.BadCount.C T.BadNumber.C T.Lost.C) t) := by
  obtain ⟨oc, od, kV, doc, pm, an, cdv, ct, osl, efd, lk, hcd⟩ := T.law_kinds.F.ex
  have b := T.law_kinds.b
  rw [efd] at lk b
  exact LamX.pe_lamcall (Ng := n_law_kinds) hg T.law_kinds.g T.law_kinds.F.kp lk hcd b sc_law_kinds rfl (.inl rfl) (kinds_gives T) TB hcode hmT hu hr L hdef hbind hbody
/-- of several defs that refuse -/
structure HeldX (P : Program) (w : World) (K : PySem.W.Frag) (mg : Str → Option Value) (base : Heap) (k : Nat) (f : Addr) (sp : Sp) : Prop where
  ex : ∃ (fd : FuncData) (ps : List Str), FnOk P w K mg base (L2.CX P w) k f fd ps sp ∧ PySem.W.keepIn K (.ref f) = true ∧ Binds K fd ps []
def tCallAX (i : Nat) (S : Addr → Sp → Prop) (E : XK) (t : TA) : TE := fun σ H Q => ∃ f sp, σ[i]? = some (some (.ref f)) ∧ S f sp ∧ t σ H fun vs H1 => sp vs H1 Q E
theorem pe_callAX {S : Addr → Sp → Prop} {k i : Nat} {x : Str} {p pos : Pos} {e : Expr} {es : List Expr} {t : TA} {W : WX} {E : XK} (A : ∀ f sp, S f sp → HeldX X.prog X.w X.K X.mg X.base k f sp) (hr : Room k X.A) (hN : X.N[i]? = some x) (hv : Vis X.env.scope x) (tk : Takes X W) (hW : ∀ cls d σ H, E cls d H → W cls d σ H) (ha : PA X (e :: es) t)
    (hdb : (x == ("__debug__" : Str)) = false := by decide) (hcd : (x == ("__classdict__" : Str)) = false := by decide)
    (he : starEach (e :: es) X.env = (false, eval e X.env) :: starEach es X.env := by rfl) (hpl : (backTo pos (starEach es X.env)).any (·.1) = false := by rfl) : PE X (.Call (.Name x p) (e :: es) [] pos) (tCallAX i S E t) := by
  refine ⟨fun pins s σ H Q I h => ?_⟩
  obtain ⟨f, sp, hs, hS, ht⟩ := h
  obtain ⟨fd, ps, F, hk, hb⟩ := (A f sp hS).ex
  refine (pe_callL (i := i) (f := f) (sp := sp) (dvs := []) (E := E) F hr hN hv hk hb .nil (passes_call tk hW) ha hdb hcd he hpl).run pins s σ H Q I ⟨hs, ?_⟩
  have e0 : (fun (vs : List V) (H1 : Hp) => sp (vs ++ []) H1 Q E) = fun vs H1 => sp vs H1 Q E := by
    funext vs H1
    rw [List.append_nil]
  show t σ H (fun vs H1 => sp (vs ++ []) H1 Q E)
  rw [e0]
  exact ht
end
end Sb
namespace Sb
open PySem PySem.Spec PyProof.Rows L2
section
variable {P : Program} {w : World} {K : PySem.W.Frag} {mg : Str → Option Value} {base : Heap}
/-- what shows says of either -/
theorem either_J (T : Tx K mg) {ta : TE} {t : TA} {σ : L2.St} {H : Hp} {Q : VK} {x a : Addr} {o : Option (List Int)} {ns : List Nat} {m : Nat} (hx : ∀ k : VK, k (.ref x) H → ta σ H k) (ht : ∀ k : List V → Hp → Prop, k [.ref a, .int (m : Int)] H → t σ H k) (j : JAt T H x o) (hA : SqL K H a (iv ns)) (g : Good ns) (hn : ns.length ≤ 100) (q : Says H Q (JDue ns m o)) :
    tEither (tMeth T.All.C "shows" (spAllS K) [] E0 ta t) (tMeth T.Long.C "shows" (spLongS T.Long.C K) [] E0 ta t) σ H Q := by
  cases o with
  | none =>
    obtain ⟨dx, e⟩ := j
    exact .inl (hx _ ⟨x, dx, [], rfl, e, rfl, ht _ ⟨.ref x, a, ns, m, rfl, hA, g, hn, q⟩⟩)
  | some r =>
    obtain ⟨dx, l, e1, e2, e3⟩ := j
    refine .inr (hx _ ⟨x, dx, _, rfl, e1, ?_, ht _ ⟨x, a, l, dx, ns, r, m, rfl, e1, .of e2, hA, hn, e3, q⟩⟩)
    exact lk_not (by decide +kernel)
theorem j_ty (T : Tx K mg) {H : Hp} {x : Addr} {o : Option (List Int)} (j : JAt T H x o) : ∃ C, TyX K H (.ref x) (.ref C) ∧ ((o = none ∧ C = T.All.C) ∨ (∃ r, o = some r) ∧ C = T.Long.C) := by
  cases o with
  | none =>
    obtain ⟨dx, e⟩ := j
    exact ⟨_, T.All.ty T.cg e, .inl ⟨rfl, rfl⟩⟩
  | some r =>
    obtain ⟨dx, l, e1, _⟩ := j
    exact ⟨_, T.Long.ty T.cg e1, .inr ⟨⟨r, rfl⟩, rfl⟩⟩
theorem j_is (T : Tx K mg) {H : Hp} {x : Addr} {o : Option (List Int)} (j : JAt T H x o) : ∃ C, TyX K H (.ref x) (.ref C) ∧ PySem.W.kitOne K (.ref C) (.ref T.Answer.C) = some true ∧ PySem.W.kitOne K (.ref C) (.ref T.All.C) = some o.isNone ∧ PySem.W.kitOne K (.ref C) (.ref T.Long.C) = some o.isSome ∧
    PySem.W.kitOne K (.ref C) (.ref T.Mend.C) = some false ∧ PySem.W.kitOne K (.ref C) (.ref T.Barred.C) = some false := by
  obtain ⟨C, ty, ⟨rfl, rfl⟩ | ⟨⟨r, rfl⟩, rfl⟩⟩ := j_ty T j
  · exact ⟨_, ty, T.q_All_Answer, T.q_All_All, T.q_All_Long, T.q_All_Mend, T.q_All_Barred⟩
  · exact ⟨_, ty, T.q_Long_Answer, T.q_Long_All, T.q_Long_Long, T.q_Long_Mend, T.q_Long_Barred⟩
end
end Sb
namespace Sb
open PySem PySem.Spec PyProof.Rows L2
section
variable {P : Program} {w : World} {K : PySem.W.Frag} {mg : Str → Option Value} {base : Heap}
theorem m_is (T : Tx K mg) {H : Hp} {x : Addr} {o : MA} (j : MAt T H x o) : ∃ C, TyX K H (.ref x) (.ref C) ∧ PySem.W.kitOne K (.ref C) (.ref T.Answer.C) = some true ∧ PySem.W.kitOne K (.ref C) (.ref T.Mend.C) = some o.isMend ∧ PySem.W.kitOne K (.ref C) (.ref T.Barred.C) = some (!o.isMend) ∧
    PySem.W.kitOne K (.ref C) (.ref T.All.C) = some false ∧ PySem.W.kitOne K (.ref C) (.ref T.Long.C) = some false := by
  cases o with
  | mend i j' =>
    obtain ⟨dx, e⟩ := j
    exact ⟨_, T.Mend.ty T.cg e, T.q_Mend_Answer, T.q_Mend_Mend, T.q_Mend_Barred, T.q_Mend_All, T.q_Mend_Long⟩
  | barred rs =>
    obtain ⟨dx, l, ps, e, _⟩ := j
    exact ⟨_, T.Barred.ty T.cg e, T.q_Barred_Answer, T.q_Barred_Mend, T.q_Barred_Barred, T.q_Barred_All, T.q_Barred_Long⟩
/-- what shows says of either -/
theorem either_M (T : Tx K mg) {ta : TE} {t : TA} {σ : L2.St} {H : Hp} {Q : VK} {x a : Addr} {o : MA} {ns : List Nat} {m : Nat} (hx : ∀ k : VK, k (.ref x) H → ta σ H k) (ht : ∀ k : List V → Hp → Prop, k [.ref a, .int (m : Int)] H → t σ H k) (j : MAt T H x o) (hA : SqL K H a (iv ns)) (g : Good ns) (hn : ns.length ≤ 100) (q : Says H Q (MDue ns m o)) :
    tEither (tMeth T.Mend.C "shows" (spMendS T.Mend.C K) [] E0 ta t) (tMeth T.Barred.C "shows" (spBarS T.Barred.C K) [] E0 ta t) σ H Q := by
  cases o with
  | mend i j' =>
    obtain ⟨dx, e⟩ := j
    refine .inl (hx _ ⟨x, dx, _, rfl, e, ?_, ht _ ⟨x, a, dx, ns, i, j', m, rfl, e, hA, g, hn, q⟩⟩)
    have h1 : (("shows" : Str) == ("one" : Str)) = false := by decide +kernel
    have h2 : (("shows" : Str) == ("other" : Str)) = false := by decide +kernel
    simp only [List.lookup, h1, h2]
  | barred rs =>
    obtain ⟨dx, l, ps, e1, e2, e3, e4⟩ := j
    refine .inr (hx _ ⟨x, dx, _, rfl, e1, ?_, ht _ ⟨x, a, dx, l, ps, ns, rs, m, rfl, e1, e2, hA, g, hn, e3, e4, q⟩⟩)
    have h1 : (("shows" : Str) == ("rings" : Str)) = false := by decide +kernel
    simp only [List.lookup, h1]
end
end Sb
namespace Sb
open PySem PySem.Spec PyProof.Rows L2
/-! ### sorted of lists of numbers -/
theorem castN_lt : ∀ a b : List Nat, castN a < castN b ↔ a < b
  | [], [] => by simp
  | [], y :: b => by simp
  | x :: a, [] => by simp
  | x :: a, y :: b => by
    show (x : Int) :: castN a < (y : Int) :: castN b ↔ _
    rw [List.cons_lt_cons_iff, List.cons_lt_cons_iff, castN_lt a b]
    constructor
    · rintro (h | ⟨h, h2⟩)
      · exact .inl (by omega)
      · exact .inr ⟨by omega, h2⟩
    · rintro (h | ⟨h, h2⟩)
      · exact .inl (by omega)
      · exact .inr ⟨by omega, h2⟩
theorem castN_le (a b : List Nat) : castN a ≤ castN b ↔ a ≤ b := by
  constructor
  · intro h
    rw [← List.not_lt] at h ⊢
    rw [← castN_lt]
    exact h
  · intro h
    rw [← List.not_lt] at h ⊢
    rw [castN_lt]
    exact h
/-- rows at their places -/
def rSortedR (K : PySem.W.Frag) : List V → Hp → VK → Prop := fun vs H Q => ∃ (a : Addr) (bs : List (Addr × List Nat)), vs = [V.ref a] ∧ SqL K H a (bs.map fun b => V.ref b.1) ∧ (∀ b ∈ bs, SqL K H b.1 (iv b.2)) ∧
  ∀ (bs' : List (Addr × List Nat)) (p : Addr), bs'.Perm bs → bs'.Pairwise (fun b c => b.2 ≤ c.2) → H p = none → Q (.ref p) (upd H p (.lst (bs'.map fun b => V.ref b.1)))
theorem each_refs : ∀ {bs : List (Addr × List Nat)} {its : List Value}, Vals (bs.map fun b => V.ref b.1) its → PySem.W.EachIs (fun v b => v = Value.ref b.1) its bs
  | [], _, .nil => .nil
  | b :: bs, _, .cons r rs => .cons r (each_refs rs)
theorem refs_each : ∀ {bs : List (Addr × List Nat)} {its : List Value}, PySem.W.EachIs (fun v b => v = Value.ref b.1) its bs → Vals (bs.map fun b => V.ref b.1) its
  | [], _, .nil => .nil
  | b :: bs, _, .cons r rs => .cons r (refs_each rs)
theorem reads_rows {X : Cx} {pins : List (Addr × Obj)} {s : Shared} {σ : L2.St} {H : Hp} (I : L2.Inv X pins σ H s) : ∀ {bs : List (Addr × List Nat)} {its : List Value}, (∀ b ∈ bs, SqL X.K H b.1 (iv b.2)) → PySem.W.EachIs (fun v b => v = Value.ref b.1) its bs → PySem.W.EachIs (fun v b => ∃ as, Reads s.heap v (PyData.list ((castN b.2).map PyData.int)) as) its bs
  | [], _, _, .nil => .nil
  | b :: bs, v :: _, hb, .cons h hs => .cons (by
      have h2 := hb b List.mem_cons_self
      rw [iv_eq] at h2
      exact Dp.reads I (dI (castN b.2)) (.ref b.1) v (dp_ints h2) h) (reads_rows I (fun c hc => hb c (List.mem_cons_of_mem _ hc)) hs)
theorem cr_sortedR {X : Cx} (hr : X.A.units + 64 < cLine) : CallR X (.builtin "sorted") (rSortedR X.K) := by
  intro pins s σ H vs us Q I r h
  obtain ⟨a, bs, rfl, hs, rows, q⟩ := h
  obtain ⟨its, rv, hl, hz⟩ := I.list hs
  rw [Vals.ref1 r]
  have e := each_refs rv
  have hd : ∀ b : Addr × List Nat, (PyData.list ((castN b.2).map PyData.int)).depth ≤ 3 := fun b => by
    have h := depI (castN b.2)
    unfold PyData.depth
    omega
  have er : PySem.W.EachIs (fun v b => ∃ as, Reads s.heap v (PyData.list ((castN b.2).map PyData.int)) as) its bs := by
    exact reads_rows I rows e
  refine PySem.W.sorted_data (enc := fun b => PyData.list ((castN b.2).map PyData.int)) hl.isList e er ?_ ?_ (by rw [← e.length]; rw [List.length_map] at hz; rw [e.length]; exact hz) (fun b _ => by have := hd b; omega) fun out ho eo => ?_
  · intro d hd d' hd'
    obtain ⟨b, _, rfl⟩ := List.mem_map.mp hd
    obtain ⟨c, _, rfl⟩ := List.mem_map.mp hd'
    have : ∀ x y : List Int, PySem.W.alikeAll (x.map PyData.int) (y.map PyData.int) = true := fun x => by
      induction x with
      | nil => intro y; rw [List.map_nil]; unfold PySem.W.alikeAll; rfl
      | cons u x ih =>
        intro y
        cases y with
        | nil => rw [List.map_cons, List.map_nil]; unfold PySem.W.alikeAll; rfl
        | cons v y =>
          rw [List.map_cons, List.map_cons]
          unfold PySem.W.alikeAll
          rw [ih y]
          unfold PySem.W.alike
          rfl
    unfold PySem.W.alike
    exact this _ _
  · refine .inr fun d hd => ?_
    obtain ⟨b, _, rfl⟩ := List.mem_map.mp hd
    exact ⟨(fun e => by cases e), fun xs e => by cases e⟩
  · have tot := PySem.W.sortLe_total (α := Addr × List Nat) (listOrd itemOrd) false fun b => PySem.W.keyToks (PyData.list ((castN b.2).map PyData.int))
    have pw := PySem.W.sort_pairwise (le := PySem.W.dataLe false fun b : Addr × List Nat => PyData.list ((castN b.2).map PyData.int)) tot bs
    have pm : (bs.mergeSort (PySem.W.dataLe false fun b : Addr × List Nat => PyData.list ((castN b.2).map PyData.int))).Perm bs := List.mergeSort_perm ..
    obtain ⟨ep, he'⟩ := PyProof.Rows.sortedAll_at s.heap its out.toArray
    have vals := refs_each eo
    have hpw : (bs.mergeSort (PySem.W.dataLe false fun b : Addr × List Nat => PyData.list ((castN b.2).map PyData.int))).Pairwise (fun b c => b.2 ≤ c.2) := by
      refine pw.imp fun {b c} h => ?_
      rw [PySem.W.dataLe_rows (fun b : Addr × List Nat => castN b.2)] at h
      exact (castN_le _ _).mp (of_decide_eq_true h)
    have hlen : ((bs.mergeSort (PySem.W.dataLe false fun b : Addr × List Nat => PyData.list ((castN b.2).map PyData.int))).map fun b => V.ref b.1).length ≤ sizeLine := by
      rw [List.length_map, pm.length_eq]
      rw [List.length_map] at hz
      exact hz
    exact ⟨.ref _, upd H (s.heap.objs.size + 1) (.lst _), I.laid (t' := s.toks) (fun _ _ => PyProof.Rows.sortedAll_old) (Nat.le_succ _) ⟨hlen, out, ep, vals, he'⟩, rfl, q _ _ pm hpw (I.hok.fresh (Nat.le_succ _))⟩
end Sb
namespace Sb
open PySem PySem.Spec PyProof.Rows L2
mutual
theorem Dp.same {K : PySem.W.Frag} {H H' : Hp} (s : Same H H') : ∀ {v : V} {d : PyData}, Dp K H v d → Dp K H' v d
  | _, _, .non => .non
  | _, _, .bl b => .bl b
  | _, _, .int i => .int i
  | _, _, .str z => .str z
  | _, _, .lst h r => .lst (s.seq h) (DpAll.same s r)
  | _, _, .tup h r => .tup (same_t s h) (DpAll.same s r)
theorem DpAll.same {K : PySem.W.Frag} {H H' : Hp} (s : Same H H') : ∀ {vs : List V} {ds : List PyData}, DpAll K H vs ds → DpAll K H' vs ds
  | _, _, .nil => .nil
  | _, _, .cons h r => .cons (Dp.same s h) (DpAll.same s r)
end
theorem DpAll.len {K : PySem.W.Frag} {H : Hp} : ∀ {vs : List V} {ds : List PyData}, DpAll K H vs ds → vs.length = ds.length
  | _, _, .nil => rfl
  | _, _, .cons _ r => by rw [List.length_cons, List.length_cons, DpAll.len r]
theorem DpAll.app {K : PySem.W.Frag} {H : Hp} : ∀ {vs us : List V} {ds es : List PyData}, DpAll K H vs ds → DpAll K H us es → DpAll K H (vs ++ us) (ds ++ es)
  | _, _, _, _, .nil, r => r
  | _, _, _, _, .cons h t, r => .cons h (DpAll.app t r)
theorem DpAll.split {K : PySem.W.Frag} {H : Hp} : ∀ {vs : List V} {ds : List PyData} {d : PyData}, DpAll K H vs (ds ++ [d]) → ∃ us v, vs = us ++ [v] ∧ DpAll K H us ds ∧ Dp K H v d
  | _, [], _, .cons h .nil => ⟨[], _, rfl, .nil, h⟩
  | _, e :: ds, d, .cons h t => by
    obtain ⟨us, v, e1, h1, h2⟩ := DpAll.split (ds := ds) t
    exact ⟨_ :: us, v, by rw [e1]; rfl, .cons h h1, h2⟩
/-! ### numbers, rows of them, rows and numbers -/
inductive It where
  | i (z : Int)
  | r (ns : List Int)
  | a (ws : List (Int ⊕ List Int))
def It.of : Int ⊕ List Int → It
  | .inl z => .i z
  | .inr ns => .r ns
def It.kids : It → List It
  | .i _ => []
  | .r ns => ns.map It.i
  | .a ws => ws.map It.of
def It.d : It → PyData
  | .i z => .int z
  | .r ns => .list (ns.map PyData.int)
  | .a ws => .list (ws.map fun w => match w with | .inl z => PyData.int z | .inr ns => PyData.list (ns.map PyData.int))
def It.wt : It → Nat
  | .i _ => 1
  | .r ns => 1 + ns.length
  | .a ws => 1 + (ws.map fun w => match w with | .inl _ => 1 | .inr ns => 1 + ns.length).sum
theorem It.kids_d : ∀ t : It, (∀ z, t ≠ .i z) → t.d = .list (t.kids.map It.d)
  | .i z, h => absurd rfl (h z)
  | .r ns, _ => by
    show PyData.list _ = PyData.list ((ns.map It.i).map It.d)
    rw [List.map_map]; rfl
  | .a ws, _ => by
    show PyData.list _ = PyData.list ((ws.map It.of).map It.d)
    rw [List.map_map]
    congr 1
    apply List.map_congr_left
    intro w _
    cases w <;> rfl
theorem It.wt_pos : ∀ t : It, 1 ≤ t.wt
  | .i _ => Nat.le_refl _
  | .r ns => Nat.le_add_right 1 ns.length
  | .a ws => Nat.le_add_right 1 _
theorem ones_sum : ∀ ns : List Int, ((ns.map It.i).map It.wt).sum = ns.length
  | [] => rfl
  | n :: r => by
    rw [List.map_cons, List.map_cons, List.sum_cons, ones_sum r, List.length_cons]
    show 1 + r.length = r.length + 1
    omega
theorem It.kids_wt : ∀ t : It, (∀ z, t ≠ .i z) → (t.kids.map It.wt).sum + 1 = t.wt
  | .i z, h => absurd rfl (h z)
  | .r ns, _ => by
    show ((ns.map It.i).map It.wt).sum + 1 = 1 + ns.length
    rw [ones_sum]
    omega
  | .a ws, _ => by
    show ((ws.map It.of).map It.wt).sum + 1 = 1 + _
    rw [List.map_map, Nat.add_comm]
    congr 2
    apply List.map_congr_left
    intro w _
    cases w <;> rfl
theorem It.can : ∀ t : It, PyData.canLay0 t.d = true
  | .i z => by unfold It.d PyData.canLay0; rfl
  | .r ns => by unfold It.d PyData.canLay0; exact canI ns
  | .a ws => by
    unfold It.d PyData.canLay0
    show PyData.canLayAll0 _ = true
    induction ws with
    | nil => rw [List.map_nil]; unfold PyData.canLayAll0; rfl
    | cons w ws ih =>
      rw [List.map_cons]
      unfold PyData.canLayAll0
      rw [ih]
      cases w with
      | inl z => dsimp only; unfold PyData.canLay0; rfl
      | inr ns => dsimp only; unfold PyData.canLay0; rw [canI]; rfl
theorem dep_dI (ns : List Int) : PyData.depth (.list (ns.map PyData.int)) ≤ 3 := by
  have h := depI ns
  unfold PyData.depth
  omega
theorem dep_int (z : Int) : PyData.depth (.int z) ≤ 1 := by
  unfold PyData.depth
  omega
theorem It.dep : ∀ t : It, PyData.depth t.d ≤ 6
  | .i z => Nat.le_trans (dep_int z) (by decide)
  | .r ns => Nat.le_trans (dep_dI ns) (by decide)
  | .a ws => by
    have h : PyData.depthAll (ws.map fun w => match w with | .inl z => PyData.int z | .inr ns => PyData.list (ns.map PyData.int)) ≤ 3 := by
      induction ws with
      | nil => rw [List.map_nil]; unfold PyData.depthAll; exact Nat.zero_le _
      | cons w ws ih =>
        rw [List.map_cons]
        unfold PyData.depthAll
        refine Nat.max_le.mpr ⟨?_, ih⟩
        cases w with
        | inl z => have := dep_int z; dsimp only; omega
        | inr ns => exact dep_dI ns
    unfold It.d PyData.depth
    omega
theorem its_can : ∀ ts : List It, PyData.canLayAll0 (ts.map It.d) = true
  | [] => by rw [List.map_nil]; unfold PyData.canLayAll0; rfl
  | t :: ts => by
    rw [List.map_cons]
    unfold PyData.canLayAll0
    rw [its_can ts, t.can]; rfl
theorem its_dep : ∀ ts : List It, PyData.depthAll (ts.map It.d) ≤ 6
  | [] => by rw [List.map_nil]; unfold PyData.depthAll; exact Nat.zero_le _
  | t :: ts => by
    rw [List.map_cons]
    unfold PyData.depthAll
    exact Nat.max_le.mpr ⟨t.dep, its_dep ts⟩
theorem its_shaped (ts : List It) : SeqAt.shaped (.list (ts.map It.d)) = true := by
  unfold SeqAt.shaped
  rw [Bool.and_eq_true_iff]
  refine ⟨by unfold PyData.canLay0; exact its_can ts, decide_eq_true ?_⟩
  have h := its_dep ts
  unfold PyData.depth
  omega
theorem its_eqv (ts : List It) : PyData.eqv (.list (ts.map It.d)) (.list []) = ts.isEmpty := by
  unfold PyData.eqv
  cases ts with
  | nil => rw [List.map_nil]; unfold PyData.eqvAll; rfl
  | cons t ts => rw [List.map_cons]; unfold PyData.eqvAll; rfl
theorem its_wt : ∀ ts : List It, ts.length ≤ (ts.map It.wt).sum
  | [] => Nat.le_refl _
  | t :: ts => by
    have h := its_wt ts
    have h2 := t.wt_pos
    rw [List.map_cons, List.sum_cons, List.length_cons]
    omega
theorem dp_int_inv {K : PySem.W.Frag} {H : Hp} {v : V} {z : Int} (h : Dp K H v (.int z)) : v = .int z := by cases h; rfl
theorem dp_lst_inv {K : PySem.W.Frag} {H : Hp} {v : V} {ds : List PyData} (h : Dp K H v (.list ds)) : ∃ a xs, v = .ref a ∧ SqL K H a xs ∧ DpAll K H xs ds := by
  cases h with
  | lst h1 h2 => exact ⟨_, _, rfl, h1, h2⟩
section
variable {P : Program} {w : World} {K : PySem.W.Frag} {mg : Str → Option Value} {base : Heap}
/-! ### _law_all_whole -/
def spAllWhole (K : PySem.W.Frag) : Sp := fun vs H Q _ => ∃ (v : V) (t : It), vs = [v] ∧ Dp K H v t.d ∧ t.wt ≤ 9000 ∧ ∀ H', Same H H' → Q (.bl true) H'
abbrev n_law_all_whole : List Str := ["_law_things", "_law_left", "_law_one"]
theorem sc_law_all_whole : FnScope n_law_all_whole ["_law_things"] (defScope s_law_all_whole) := ⟨rfl, rfl, rfl, by decide +kernel, rfl, by decide +kernel, by decide +kernel⟩
theorem ok_law_all_whole (T : Tx K mg) : FnOk P w K mg base CX0 1 T.law_all_whole.f T.law_all_whole.fd ["_law_things"] (spAllWhole K) := by
  refine T.law_all_whole.F.ok sc_law_all_whole (fun vs H Q E h => ?_) (fun cdv A outer s H vs Q E hr h => ?_)
  · obtain ⟨v, t, rfl, _⟩ := h
    rfl
  · obtain ⟨v, t, rfl, hd, hw, q⟩ := h
    refine ⟨_, (pss_cons (ps_set (i := 1) sc_law_all_whole.nd rfl (.inl rfl) (pe_lst (pa_cons (pv 0) pa_nil)))
    (pss_cons (ps_while PassesOwn.never (pt_cmpR (op_neD hr.units) (pv 1) (pe_lst pa_nil) (nomark _))
      (pss_cons (ps_set (i := 2) sc_law_all_whole.nd rfl (.inl rfl) (pe_bm0 PySem.F.plainAttrs_list PySem.F.slot_list_pop PySem.F.type_list_pop mt_pop (pv 1)))
      (pss_one (ps_if (PW.pt (pw_or (pt_val (pe_callB call_isi (by rfl) T.m_isinstance (by decide +kernel) (pa_cons (pv 2) (pa_cons (pe_bltn (v := .ty "list") (by rfl) T.m_list (by decide +kernel) rfl) pa_nil)))) (pw_or1 (pt_val (pe_callB call_isi (by rfl) T.m_isinstance (by decide +kernel) (pa_cons (pv 2) (pa_cons (pe_bltn (v := .ty "tuple") (by rfl) T.m_tuple (by decide +kernel) rfl) pa_nil)))))))
        (pss_one (ps_expr (pe_bm PySem.F.plainAttrs_list PySem.F.slot_list_extend PySem.F.type_list_extend mt_extend (pv 1) (pa_cons (pe_callTy call_list_of (by rfl) T.m_list (by decide +kernel) (pa_cons (pv 2) pa_nil)) pa_nil))))
        (pss_one (ps_if (PW.pt (pw_or (pt_not (pt_val (pe_callB call_isi (by rfl) T.m_isinstance (by decide +kernel) (pa_cons (pv 2) (pa_cons (pe_bltn (v := .ty "int") (by rfl) T.m_int (by decide +kernel) rfl) pa_nil))))) (pw_or1 (pt_val (pe_callB call_isi (by rfl) T.m_isinstance (by decide +kernel) (pa_cons (pv 2) (pa_cons (pe_bltn (v := .ty "bool") (by rfl) T.m_bool (by decide +kernel) rfl) pa_nil)))))))
          (pss_one (ps_ret pe_bl))
          pss_nil))))))
    (pss_one (ps_ret pe_bl)))), ?_⟩
    refine ⟨_, rfl, sz (by simp), fun o no => ?_⟩
    have s1 := same_upd (o := .lst [v]) no
    refine ⟨fun m σ H3 => ∃ (xs : List V) (ts : List It) (w2 : Option V), σ = [some v, some (.ref o), w2] ∧ Same H H3 ∧ H3 o = some (.lst xs) ∧ DpAll K H xs (ts.map It.d) ∧ (ts.map It.wt).sum = m ∧ m ≤ 9000,
      ⟨_, [v], [t], _, rfl, s1, upd_same, .cons hd .nil, rfl, by simpa using hw⟩, fun m σ H3 hW => ?_⟩
    obtain ⟨xs, ts, w2, rfl, sm, eo, D, hm, hm9⟩ := hW
    refine ⟨_, rfl, Nat.zero_le _, fun z nz => ?_⟩
    have s2 := same_upd (o := .lst []) nz
    have eo2 := s2 _ _ eo
    have sm2 := sm.trans s2
    refine ⟨.list (ts.map It.d), .list [], .lst (.of eo2) (DpAll.same sm2 D), .lst (.of upd_same) .nil, its_shaped ts, its_shaped [], ?_⟩
    rw [its_eqv]
    refine ⟨_, rfl, ?_⟩
    generalize upd H3 z (.lst []) = H4 at *
    rcases List.eq_nil_or_concat ts with rfl | ⟨us, u, ets⟩
    · exact iteF (q _ sm2)
    · rw [List.concat_eq_append] at ets
      subst ets
      rw [show (us ++ [u]).isEmpty = false by cases us <;> rfl]
      refine iteT ?_
      rw [List.map_append, List.map_cons, List.map_nil] at D hm
      obtain ⟨ys, y, rfl, D1, Dy⟩ := DpAll.split D
      rw [List.sum_append, List.sum_cons, List.sum_nil] at hm
      have hy : (ys ++ [y])[(ys ++ [y]).length - 1]? = some y := by simp
      refine ⟨fun σ' H' => ∃ (xs : List V) (ts : List It), σ' = [some v, some (.ref o), some y] ∧ Same H H' ∧ H' o = some (.lst xs) ∧ DpAll K H xs (ts.map It.d) ∧ (ts.map It.wt).sum + 1 ≤ m, fun σ' H' hN => ?_, ?_⟩
      · obtain ⟨xs', ts', e1, e2, e3, e4, e5⟩ := hN
        exact ⟨_, by omega, xs', ts', _, e1, e2, e3, e4, rfl, by omega⟩
      refine ⟨_, rfl, .inl ⟨rfl, _, .of eo2⟩, o, _, y, rfl, rfl, eo2, hy, ?_⟩
      rw [List.dropLast_concat]
      have sm5 : Same H (upd H4 o (.lst ys)) := same_mut sm2 no
      have eo5 : (upd H4 o (.lst ys)) o = some (.lst ys) := upd_same
      generalize upd H4 o (.lst ys) = H5 at *
      by_cases hu : ∀ z, u ≠ .i z
      · rw [It.kids_d u hu] at Dy
        obtain ⟨b, zs, rfl, hb, Dz⟩ := dp_lst_inv Dy
        have hb5 := sm5.seq hb
        refine ⟨_, rfl, .ref b, .ty "list", _, .type "list", true, rfl, .ty "list", ty_list hb5, kit_ty (by decide +kernel), true, rfl, iteT ?_⟩
        refine ⟨_, rfl, .inl ⟨rfl, _, .of eo5⟩, _, rfl, b, zs, rfl, .inl hb5, fun p np => ?_⟩
        have s6 := same_upd (o := .lst zs) np
        have hk := It.kids_wt u hu
        have hl : (ys ++ zs).length ≤ 9000 := by
          have h1 := DpAll.len D1
          have h2 := DpAll.len Dz
          rw [List.length_map] at h1 h2
          have h3 := its_wt us
          have h4 := its_wt u.kids
          rw [List.length_append]
          omega
        refine ⟨o, p, ys, zs, rfl, rfl, s6 _ _ eo5, upd_same, sz (by rw [List.length_append] at hl; omega), ?_⟩
        refine ⟨ys ++ zs, us ++ u.kids, rfl, same_mut (sm5.trans s6) no, upd_same, ?_, ?_⟩
        · rw [List.map_append]; exact DpAll.app D1 Dz
        · rw [List.map_append, List.sum_append]
          omega
      · obtain ⟨z, hz⟩ : ∃ z, u = .i z := by
          cases u with
          | i z => exact ⟨z, rfl⟩
          | r ns => exact absurd (fun z e => nomatch e) hu
          | a ws => exact absurd (fun z e => nomatch e) hu
        subst hz
        have hv := dp_int_inv Dy
        subst hv
        refine ⟨_, rfl, .int z, .ty "list", _, .type "list", false, rfl, .ty "list", .base (.int _), kit_ty (by decide +kernel), false, rfl, iteF ?_⟩
        refine ⟨_, rfl, .int z, .ty "tuple", _, .type "tuple", false, rfl, .ty "tuple", .base (.int _), kit_ty (by decide +kernel), false, rfl, iteF ?_⟩
        refine ⟨_, rfl, .int z, .ty "int", _, .type "int", true, rfl, .ty "int", .base (.int _), kit_ty (by decide +kernel), true, rfl, iteF ?_⟩
        refine ⟨_, rfl, .int z, .ty "bool", _, .type "bool", false, rfl, .ty "bool", .base (.int _), kit_ty (by decide +kernel), false, rfl, iteF ?_⟩
        exact ⟨ys, us, rfl, sm5, eo5, D1, by have : It.wt (.i z) = 1 := rfl; omega⟩
/-- a list of numbers; a list of rows; numbers and rows -/
theorem dp_r {H : Hp} {a : Addr} {ns : List Int} (h : SqL K H a (ns.map V.int)) : Dp K H (.ref a) (It.r ns).d := dp_ints h
end
end Sb
namespace Sb
open PySem PySem.Spec PyProof.Rows L2
theorem sum_take_le (ls : List Nat) : ∀ i, (ls.take i).sum ≤ ls.sum := fun i => by
  have := List.take_append_drop i ls
  have h : (ls.take i).sum + (ls.drop i).sum = ls.sum := by rw [← List.sum_append, this]
  omega
theorem len_le_sum : ∀ (ls : List Nat), (∀ l ∈ ls, 1 ≤ l) → ls.length ≤ ls.sum
  | [], _ => Nat.le_refl _
  | x :: l, h => by
    have h1 := h x List.mem_cons_self
    have h2 := len_le_sum l fun y hy => h y (List.mem_cons_of_mem _ hy)
    rw [List.length_cons, List.sum_cons]
    omega
theorem sum_iv (ls : List Nat) : (ls.map fun (n : Nat) => (n : Int)).sum = ((ls.sum : Nat) : Int) := by
  induction ls with
  | nil => rfl
  | cons a l ih => rw [List.map_cons, List.sum_cons, List.sum_cons, ih]; push_cast; rfl
section
variable {P : Program} {w : World} {K : PySem.W.Frag} {mg : Str → Option Value} {base : Heap}
/-! ### _law_laid -/
/-- what is laid: boxes fs at f, their rings at d -/
structure LaidAt (H H' : Hp) (ls fs : List Nat) (f d : Addr) (ps : List Addr) : Prop where
  same : Same H H'
  nf : H f = none
  nd : H d = none
  ef : H' f = some (.lst (iv fs))
  ed : H' d = some (.lst (ps.map V.ref))
  len : ps.length = (ringsOf fs).length
  row : ∀ (i : Nat) (q : Addr) (r : List Nat), ps[i]? = some q → (ringsOf fs)[i]? = some r → H' q = some (.lst (iv r))
  good : Good fs
  many : fs.length = ls.sum
  lens : ((ringsOf fs).map List.length).Perm ls
def spLaid (K : PySem.W.Frag) : Sp := fun vs H Q _ => ∃ (a : Addr) (ls : List Nat) (fc : Nat), vs = [.ref a, .int (fc : Int)] ∧ SqL K H a (iv ls) ∧ (∀ l ∈ ls, 1 ≤ l) ∧ ls.sum ≤ 40 ∧ fc ≤ 1000 ∧ ∀ H' p fs f d ps, LaidAt H H' ls fs f d ps → H' p = some (.tup [.ref f, .ref d]) → Q (.ref p) H'
abbrev n_law_laid : List Str := ["_law_lengths", "_law_factor", "_law_many", "_law_places", "_law_at", "_law_boxes", "_law_due_here", "_law_first", "_law_length", "_law_ring", "_law_least"]
theorem sc_law_laid : FnScope n_law_laid ["_law_lengths", "_law_factor"] (defScope s_law_laid) := ⟨rfl, rfl, rfl, by decide +kernel, rfl, by decide +kernel, by decide +kernel⟩
theorem ok_law_laid (T : Tx K mg) : FnOk P w K mg base CX0 1 T.law_laid.f T.law_laid.fd ["_law_lengths", "_law_factor"] (spLaid K) := by
  refine T.law_laid.F.ok sc_law_laid (fun vs H Q E h => ?_) (fun cdv A outer s H vs Q E hr h => ?_)
  · obtain ⟨a, ls, fc, rfl, _⟩ := h
    rfl
  · obtain ⟨a, ls, fc, rfl, hS, hl1, hsum, hfc, q⟩ := h
    refine ⟨_, (pss_cons (ps_set (i := 2) sc_law_laid.nd rfl (.inl rfl) (pe_callB (cr_sum rfl) (by rfl) T.m_sum (by decide +kernel) (pa_cons (pv 0) pa_nil)))
    (pss_cons (ps_set (i := 3) sc_law_laid.nd rfl (.inl rfl) (pe_lst pa_nil))
    (pss_cons (ps_for PassesOwn.never rfl (pi_range1 (by rfl) T.m_range (pa_cons (pv 2) pa_nil)) (pg_name (i := 4) sc_law_laid.nd rfl (.inl rfl))
      (pss_one (ps_expr (pe_bm PySem.F.plainAttrs_list PySem.F.slot_list_insert PySem.F.type_list_insert mt_insert (pv 3) (pa_cons (pe_op op_mod (pe_op op_add (pe_op op_mulX (pv 4) (pv 1)) (pe_op op_mulX (pe_op op_mulX pe_int (pv 4)) (pv 4))) (pe_op op_add (pv 4) pe_int)) (pa_cons (pv 4) pa_nil))))))
    (pss_cons (ps_par3 (i := 5) (j := 6) (l := 7) (by rfl) sc_law_laid.nd rfl rfl rfl (by decide) (by decide) (by decide) rfl rfl rfl (pa_cons (pe_op op_rep (pe_lst (pa_cons pe_int pa_nil)) (pv 2)) (pa_cons (pe_lst pa_nil) (pa_cons pe_int pa_nil))) (by rfl))
    (pss_cons (ps_for PassesOwn.never rfl (pi_list (pv 0)) (pg_name (i := 8) sc_law_laid.nd rfl (.inl rfl))
      (pss_cons (ps_set (i := 9) sc_law_laid.nd rfl (.inl rfl) (pe_slice sl_list (pv 3) (po_some (pv 7)) (po_some (pe_op op_add (pv 7) (pv 8)))))
      (pss_cons (ps_for PassesOwn.never rfl (pi_range1 (by rfl) T.m_range (pa_cons (pv 8) pa_nil)) (pg_name (i := 4) sc_law_laid.nd rfl (.inl rfl))
        (pss_one (ps_asg (pe_ix ix_list (pv 9) (pe_op op_mod (pe_op op_add (pv 4) pe_int) (pv 8)) (fun _ _ => rfl)) (pg_sub (pv 5) (pe_ix ix_list (pv 9) (pv 4) (fun _ _ => rfl)) set_list))))
      (pss_cons (ps_set (i := 10) sc_law_laid.nd rfl (.inl rfl) (pe_bm PySem.F.plainAttrs_list PySem.F.slot_list_index PySem.F.type_list_index mt_index (pv 9) (pa_cons (pe_callB (cr_min rfl) (by rfl) T.m_min (by decide +kernel) (pa_cons (pv 9) pa_nil)) pa_nil)))
      (pss_cons (ps_expr (pe_bm PySem.F.plainAttrs_list PySem.F.slot_list_append PySem.F.type_list_append mt_append (pv 6) (pa_cons (pe_op op_cat (pe_slice sl_list (pv 9) (po_some (pv 10)) po_none) (pe_slice sl_list (pv 9) po_none (po_some (pv 10)))) pa_nil)))
      (pss_one (ps_set (i := 7) sc_law_laid.nd rfl (.inl rfl) (pe_op op_add (pv 7) (pv 8)))))))))
    (pss_one (ps_ret (pe_tup (pa_cons (pv 5) (pa_cons (pe_callB (cr_sortedR hr.units) (by rfl) T.m_sorted (by decide +kernel) (pa_cons (pv 6) pa_nil)) pa_nil)))))))))), ?_⟩
    have hS' : SqL K H a ((ls.map fun (n : Nat) => (n : Int)).map V.int) := by rw [← iv_eq]; exact hS
    refine ⟨_, rfl, a, _, rfl, hS', ?_⟩
    rw [sum_iv]
    generalize en : ls.sum = n at *
    refine ⟨Nat.zero_le _, fun o no => ?_⟩
    refine ⟨_, rfl, n, rfl, by omega, by omega, ?_⟩
    rw [Int.toNat_natCast]
    refine for_range (lo := 0) (n := n) (fun i σ H3 => ∃ (ord : List Nat) (w4 : Option V), σ = [some (.ref a), some (.int (fc : Int)), some (.int (n : Int)), some (.ref o), w4, none, none, none, none, none, none] ∧ Same H H3 ∧ H3 o = some (.lst (iv ord)) ∧ ord.Perm (List.range i)) ⟨[], none, rfl, same_upd no, upd_same, .refl _⟩ (fun i σ H3 hi hP => ?_) (fun σ H3 hP => ?_)
    · obtain ⟨ord, w4, rfl, sm, eo, pm⟩ := hP
      rw [Int.zero_add]
      have b1 : ∀ z : Nat, z ≤ 100000 → bts (z : Int) ≤ 64 := fun z hz => bts_small (by omega) (by omega)
      refine ⟨_, rfl, .inl ⟨rfl, _, .of eo⟩, _, rfl, _, rfl, i, fc, rfl, rfl, .of_left (b1 i (by omega)), _, rfl, 3, i, rfl, rfl, .of_left (bts_small (by decide) (by decide)), _, rfl, _, i, rfl, rfl, .of_right (b1 i (by omega)), _, _, rfl, rfl, _, rfl, i, 1, rfl, rfl, _, _, rfl, rfl, (by show (0 : Int) < (i : Int) + 1; omega), _, rfl, o, _, _, _, rfl, rfl, eo, ?_, ?_, ?_, ?_⟩
      · rw [iv_len, pm.length_eq, List.length_range]
        exact szl (by omega)
      · exact Int.emod_nonneg _ (by omega)
      · have := Int.emod_lt_of_pos ((i : Int) * (fc : Int) + 3 * (i : Int) * (i : Int)) (show (0 : Int) < (i : Int) + 1 by omega)
        omega
      · refine ⟨ord.take (((i : Int) * (fc : Int) + 3 * (i : Int) * (i : Int)) % ((i : Int) + 1)).toNat ++ [i] ++ ord.drop (((i : Int) * (fc : Int) + 3 * (i : Int) * (i : Int)) % ((i : Int) + 1)).toNat, _, rfl, same_mut sm no, ?_, insert_perm pm⟩
        rw [upd_same, ← List.map_take, ← List.map_drop]
        show _ = some (HO.lst (List.map _ _))
        rw [List.map_append, List.map_append]
        rfl
    obtain ⟨pl, w4, rfl, sm, eo, pm⟩ := hP
    have hpl : pl.length = n := by rw [pm.length_eq, List.length_range]
    have pm' : pl.Perm (List.range pl.length) := by rw [hpl]; exact pm
    refine ⟨sz (by decide), fun z nz => ⟨_, rfl, z, n, _, rfl, rfl, upd_same, by omega, by omega, sz (by rw [Int.toNat_natCast]; show 1 * n ≤ _; omega), fun f nf => ⟨Nat.zero_le _, fun d nd => ⟨_, _, _, rfl, ?_⟩⟩⟩⟩
    have s1 := same_upd (o := .lst [V.int 0]) nz
    have s2 := same_upd (o := .lst (List.replicate (n : Int).toNat [V.int 0]).flatten) nf
    have s3 := same_upd (o := .lst []) nd
    have s13 := ((sm.trans s1).trans s2).trans s3
    have nfH : H f = none := (sm.trans s1).free nf
    have ndH : H d = none := ((sm.trans s1).trans s2).free nd
    have eo4 := s3 _ _ (s2 _ _ (s1 _ _ eo))
    have ef4 := s3 _ _ (show (upd (upd H3 z (.lst [V.int 0])) f (.lst (List.replicate (n : Int).toNat [V.int 0]).flatten)) f = some (.lst (iv (List.replicate n 0))) by rw [upd_same, rep_iv])
    have ed4 : (upd (upd (upd H3 z (.lst [V.int 0])) f (.lst (List.replicate (n : Int).toNat [V.int 0]).flatten)) d (.lst [])) d = some (.lst (([] : List Addr).map V.ref)) := upd_same
    have nof : o ≠ f := ne_of_none (s1 _ _ eo) nf
    have nod : o ≠ d := ne_of_none (s2 _ _ (s1 _ _ eo)) nd
    have nfd : f ≠ d := fun e => by rw [← e, upd_same] at nd; cases nd
    generalize upd (upd (upd H3 z (.lst [V.int 0])) f (.lst (List.replicate (n : Int).toNat [V.int 0]).flatten)) d (.lst []) = H4 at *
    clear s1 s2 s3 nz nf nd
    refine ⟨_, rfl, a, rfl, ⟨_, s13.seq hS⟩, ?_⟩
    refine for_list (K := K) (a := a) (xs := iv ls) (fun i σ H5 => ∃ (fs : List Nat) (ds : List (List Nat)) (ps : List Addr) (w4 w8 w9 w10 : Option V), σ = [some (.ref a), some (.int (fc : Int)), some (.int (n : Int)), some (.ref o), w4, some (.ref f), some (.ref d), some (.int (((ls.take i).sum : Nat) : Int)), w8, w9, w10] ∧ Same H H5 ∧ H5 o = some (.lst (iv pl)) ∧ H5 f = some (.lst (iv fs)) ∧ H5 d = some (.lst (ps.map V.ref)) ∧ Rows H H5 ps ds ∧ f ∉ ps ∧ d ∉ ps ∧ Dn pl fs (ls.take i).sum ds ∧ ds.map List.length = ls.take i)
      ⟨List.replicate n 0, [], [], _, _, _, _, rfl, s13, eo4, ef4, ed4, Rows.nil, by simp, by simp, Dn.start (by rw [List.length_replicate, hpl]), rfl⟩ (fun i σ H5 _ h => ?_) (fun i x σ H5 hx h => ?_) (fun σ H5 h => ?_)
    · obtain ⟨_, _, _, _, _, _, _, _, s5, _⟩ := h
      exact s5.seq hS
    · obtain ⟨fs, ds, ps, w4, w8, w9, w10, rfl, s5, eo5, ef5, ed5, R, hf, hd, D, hdl⟩ := h
      rw [iv_get?] at hx
      obtain ⟨l, hl, rfl⟩ := Option.map_eq_some_iff.mp hx
      have hil : i < ls.length := (List.getElem?_eq_some_iff.mp hl).1
      have et : ls.take (i + 1) = ls.take i ++ [l] := by rw [List.take_add_one, hl]; rfl
      have es : (ls.take (i + 1)).sum = (ls.take i).sum + l := by rw [et, List.sum_append]; simp
      have hsl := sum_take_le ls (i + 1)
      have hl1' := hl1 l (List.mem_of_getElem? hl)
      generalize eb : (ls.take i).sum = b at *
      refine ⟨_, rfl, _, rfl, _, rfl, _, rfl, _, rfl, _, _, rfl, rfl, _, rfl, o, _, rfl, .of eo5, fun r nr => ?_⟩
      rw [cut_iv]
      have hRl : ((pl.drop b).take l).length = l := by
        rw [List.length_take, List.length_drop]
        omega
      have hstep : ∀ {k m : Nat}, ((pl.drop b).take l)[k]? = some m → (∀ x ∈ (pl.drop b).take l, m ≤ x) → _ := fun {k m} h1 h2 => D.step pm' h1 h2
      have hrm : ∀ x ∈ (pl.drop b).take l, x < fs.length := fun x hx => by
        rw [D.laid.len]
        exact List.mem_range.mp (pm'.mem_iff.mp (List.mem_of_mem_drop (List.mem_of_mem_take hx)))
      have s6 := same_upd (o := .lst (iv ((pl.drop b).take l))) nr
      have er6 : (upd H5 r (.lst (iv ((pl.drop b).take l)))) r = some (.lst (iv ((pl.drop b).take l))) := upd_same
      have nrf : r ≠ f := fun e => by rw [e, ef5] at nr; cases nr
      have nrd : r ≠ d := fun e => by rw [e, ed5] at nr; cases nr
      generalize (pl.drop b).take l = ring at *
      have eo6 := s6 _ _ eo5
      have ef6 := s6 _ _ ef5
      have ed6 := s6 _ _ ed5
      have R6 := R.same s6
      have s56 := s5.trans s6
      generalize upd H5 r (.lst (iv ring)) = H6 at *
      refine ⟨_, rfl, l, rfl, by omega, by omega, ?_⟩
      rw [Int.toNat_natCast]
      have hrot : ring.length = (rot ring).length := (rot_len ring).symm
      refine for_range (lo := 0) (n := l) (fun j σ H8 => ∃ (w4 : Option V), σ = [some (.ref a), some (.int (fc : Int)), some (.int (n : Int)), some (.ref o), w4, some (.ref f), some (.ref d), some (.int (b : Int)), some (.int (l : Int)), some (.ref r), w10] ∧ Same H H8 ∧ H8 o = some (.lst (iv pl)) ∧ H8 r = some (.lst (iv ring)) ∧ H8 d = some (.lst (ps.map V.ref)) ∧ Rows H H8 ps ds ∧ H8 f = some (.lst (iv (layAll fs ((ring.zip (rot ring)).take j))))) ⟨_, rfl, s56, eo6, er6, ed6, R6, ef6⟩ (fun j σ H8 hj hP => ?_) (fun σ H8 hP => ?_)
      · obtain ⟨w4, rfl, s8, eo8, er8, ed8, R8, ef8⟩ := hP
        rw [Int.zero_add]
        have hjr : j < ring.length := by omega
        have hx := List.getElem?_eq_getElem hjr
        have hmod : (j + 1) % ring.length < ring.length := Nat.mod_lt _ (by omega)
        have hy := List.getElem?_eq_getElem hmod
        have em : ((j : Int) + 1) % (l : Int) = (((j + 1) % ring.length : Nat) : Int) := by rw [hRl]; push_cast; rfl
        generalize ring[j] = xn at hx
        generalize ring[(j + 1) % ring.length] = yn at hy
        have hxl : xn < (layAll fs ((ring.zip (rot ring)).take j)).length := by
          rw [layAll_len]
          exact hrm xn (List.mem_of_getElem? hx)
        refine ⟨_, rfl, _, rfl, j, 1, rfl, rfl, _, rfl, _, _, rfl, rfl, (by show (0 : Int) < (l : Int); omega), r, _, _, _, rfl, rfl, .of er8, by rw [em]; exact iv_at hy, ?_⟩
        refine ⟨_, rfl, _, rfl, _, rfl, r, _, _, _, rfl, rfl, .of er8, iv_at hx, f, _, _, xn, rfl, rfl, ef8, ?_, ?_⟩
        · rw [iv_len]
          exact ixN_nat hxl
        · refine ⟨_, rfl, same_mut s8 nfH, ?_, ?_, ?_, R8.upd hf, ?_⟩
          · rw [upd_ne nof]; exact eo8
          · rw [upd_ne nrf]; exact er8
          · rw [upd_ne nfd.symm]; exact ed8
          · rw [upd_same, iv_set, List.take_add_one, zip_get? j hx (by rw [rot_get hjr]; exact hy)]
            show _ = some (HO.lst (iv (layAll fs (List.take j (ring.zip (rot ring)) ++ [(xn, yn)]))))
            rw [layAll_snoc]
      obtain ⟨w4, rfl, s8, eo8, er8, ed8, R8, ef8⟩ := hP
      rw [List.take_of_length_le (by rw [List.length_zip]; omega)] at ef8
      have er8' : SqL K H8 r ((ring.map fun (n : Nat) => (n : Int)).map V.int) := by rw [← iv_eq]; exact .of er8
      refine ⟨_, rfl, .inl ⟨rfl, _, .of er8⟩, _, rfl, r, _, rfl, er8', by rw [List.length_map]; omega, fun mi hmi hle => ?_⟩
      obtain ⟨mn, hmn, rfl⟩ := List.mem_map.mp hmi
      have hle' : ∀ x ∈ ring, mn ≤ x := fun x hx => by
        have := hle _ (List.mem_map.mpr ⟨x, hx, rfl⟩)
        omega
      obtain ⟨k, hk⟩ := List.mem_iff_getElem?.mp hmn
      have hkl : k < ring.length := (List.getElem?_eq_some_iff.mp hk).1
      have ndr : ring.Nodup := by
        have key := hstep hk hle'
        obtain ⟨m', c, _⟩ := key.ring (ring.drop k ++ ring.take k) (by simp)
        exact (List.perm_append_comm.trans (by rw [List.take_append_drop]) : (ring.drop k ++ ring.take k).Perm ring).nodup_iff.mp c.nd
      refine ⟨r, _, _, k, .int (mn : Int), rfl, rfl, .of er8, rfl, flat_iv _, by rw [iv_get?, hk]; rfl, by simp [eqV], fun m' z' hm' hz' => ?_, ?_⟩
      · rw [iv_get?] at hz'
        obtain ⟨y, hy, rfl⟩ := Option.map_eq_some_iff.mp hz'
        have hyne : y ≠ mn := fun e => by
          rw [e] at hy
          have := nd_ix ndr hy hk
          omega
        have : ((y : Nat) : Int) ≠ (mn : Int) := by omega
        simpa [eqV] using this
      have key := hstep hk hle'
      refine ⟨_, rfl, .inl ⟨rfl, _, .of ed8⟩, _, rfl, _, rfl, _, rfl, r, _, rfl, .of er8, fun c1 n1 => ?_⟩
      rw [cut_since]
      have t1 := same_upd (o := .lst ((iv ring).drop k)) n1
      refine ⟨_, rfl, _, rfl, _, rfl, r, _, rfl, t1.seq (.of er8), fun c2 n2 => ?_⟩
      rw [cut_to]
      have t2 := same_upd (o := .lst ((iv ring).take k)) n2
      refine ⟨c1, c2, _, _, rfl, rfl, t2 _ _ upd_same, upd_same, ?_, fun c3 n3 => ?_⟩
      · rw [List.length_drop, List.length_take, iv_len]
        exact sz (by omega)
      have ecat : (iv ring).drop k ++ (iv ring).take k = iv (ring.drop k ++ ring.take k) := by
        show _ = List.map _ _
        rw [List.map_append, List.map_drop, List.map_take]
      rw [ecat]
      have t3 := same_upd (o := .lst (iv (ring.drop k ++ ring.take k))) n3
      have t13 := (t1.trans t2).trans t3
      have e3 : (upd (upd (upd H8 c1 (.lst ((iv ring).drop k))) c2 (.lst ((iv ring).take k))) c3 (.lst (iv (ring.drop k ++ ring.take k)))) c3 = some (.lst (iv (ring.drop k ++ ring.take k))) := upd_same
      have n3' : H8 c3 = none := (t1.trans t2).free n3
      generalize upd (upd (upd H8 c1 (.lst ((iv ring).drop k))) c2 (.lst ((iv ring).take k))) c3 (.lst (iv (ring.drop k ++ ring.take k))) = H9 at *
      have ed9 := t13 _ _ ed8
      have ef9 := t13 _ _ ef8
      have ncf : c3 ≠ f := fun e => by rw [e, ef8] at n3'; cases n3'
      have ncd : c3 ≠ d := fun e => by rw [e, ed8] at n3'; cases n3'
      have ncp : c3 ∉ ps := fun h => by
        obtain ⟨_, _, e⟩ := R8.at h
        rw [n3'] at e
        cases e
      have hdsl : ds.length = i := by
        have := congrArg List.length hdl
        rw [List.length_map, List.length_take] at this
        omega
      have hls : ls.length ≤ 40 := by
        have := len_le_sum ls hl1
        omega
      refine ⟨d, _, _, rfl, rfl, ed9, by rw [List.length_map, R8.len, hdsl]; exact szl (by omega), ?_⟩
      refine ⟨_, rfl, _, rfl, _, _, rfl, rfl, ?_⟩
      refine ⟨layAll fs (ring.zip (rot ring)), ds ++ [ring.drop k ++ ring.take k], ps ++ [c3], w4, some (.int (l : Int)), some (.ref r), some (.int (k : Int)), ?_, same_mut (s8.trans t13) ndH, ?_, ?_, ?_, ?_, ?_, ?_, ?_, ?_⟩
      · rw [es]
        push_cast
        rfl
      · rw [upd_ne nod]; exact t13 _ _ eo8
      · rw [upd_ne nfd]; exact ef9
      · rw [upd_same, List.map_append]; rfl
      · refine Rows.upd ((R8.same t13).snoc e3 (s8.free n3') ncp) ?_
        intro h
        rcases List.mem_append.mp h with y | y
        · exact hd y
        · simp at y; exact ncd y.symm
      · intro h
        rcases List.mem_append.mp h with y | y
        · exact hf y
        · simp at y; exact ncf y.symm
      · intro h
        rcases List.mem_append.mp h with y | y
        · exact hd y
        · simp at y; exact ncd y.symm
      · rw [es]; exact key
      · rw [List.map_append, hdl, et]
        congr 1
        show [_] = [_]
        rw [List.length_append, List.length_drop, List.length_take]
        congr 1
        omega
    obtain ⟨fs, ds, ps, w4, w8, w9, w10, rfl, s5, eo5, ef5, ed5, R, hf, hd, D, hdl⟩ := h
    rw [iv_len, List.take_length] at D hdl
    have hb : pl.length ≤ ls.sum := by omega
    have g := D.good pm' hb
    have hdr := D.rings pm' hb
    have e1 : (ps.zip ds).map (fun b => V.ref b.1) = ps.map V.ref := by
      have := congrArg (List.map V.ref) (List.map_fst_zip (l₁ := ps) (l₂ := ds) (by rw [R.len]; exact Nat.le_refl _))
      rw [List.map_map] at this
      exact this
    have e2 : (ps.zip ds).map (·.2) = ds := List.map_snd_zip (by rw [R.len]; exact Nat.le_refl _)
    have rows : ∀ b ∈ ps.zip ds, H5 b.1 = some (.lst (iv b.2)) := fun b hb => by
      obtain ⟨k, hk⟩ := List.mem_iff_getElem?.mp hb
      obtain ⟨h1, h2⟩ := List.getElem?_zip_eq_some.mp hk
      exact R.row k b.1 b.2 h1 h2
    refine ⟨_, rfl, _, rfl, d, ps.zip ds, rfl, by rw [e1]; exact .of ed5, fun b hb => .of (rows b hb), fun bs' p pmb pw np => ⟨sz (by simp), fun tp ntp => ?_⟩⟩
    have t1 := same_upd (o := .lst (bs'.map fun b => V.ref b.1)) np
    have t2 := same_upd (o := .tup [V.ref f, V.ref p]) ntp
    have hm2 := pmb.map (·.2)
    rw [e2] at hm2
    have ebs : bs'.map (·.2) = ringsOf fs := sorted_rings g hdr hm2 (by rw [List.pairwise_map]; exact pw)
    refine q _ tp fs f p (bs'.map (·.1)) ⟨(s5.trans t1).trans t2, nfH, s5.free np, t2 _ _ (t1 _ _ ef5), ?_, ?_, fun i q r h1 h2 => ?_, g, ?_, ?_⟩ upd_same
    · have := t2 _ _ (show (upd H5 p (.lst (bs'.map fun b => V.ref b.1))) p = some _ from upd_same)
      rw [this, List.map_map]
      rfl
    · rw [← ebs, List.length_map, List.length_map]
    · rw [← ebs, List.getElem?_map] at h2
      rw [List.getElem?_map] at h1
      cases hbi : bs'[i]? with
      | none => rw [hbi] at h1; cases h1
      | some b =>
        rw [hbi] at h1 h2
        cases h1
        cases h2
        exact t2 _ _ (t1 _ _ (rows b (pmb.mem_iff.mp (List.mem_of_getElem? hbi))))
    · have := D.laid.len
      omega
    · rw [← hdl]
      exact (hdr.map _).symm
end
end Sb
namespace Sb
open PySem PySem.Spec PyProof.Rows L2
theorem dec_bl9 (a b : Bool) : decide (V.bl a = V.bl b) = decide (a = b) := by
  rw [Bool.eq_iff_iff, decide_eq_true_iff, decide_eq_true_iff]
  constructor
  · intro h; injection h
  · intro h; rw [h]
theorem it_rows (rs : List (List Nat)) : (It.a (rs.map fun r => .inr (castN r))).d = dNN rs := by
  show PyData.list _ = PyData.list _
  rw [List.map_map]
  congr 1
  apply List.map_congr_left
  intro r _
  exact (dN_eq r).symm
theorem it_rowsI (rs : List (List Int)) : (It.a (rs.map .inr)).d = .list (rs.map dI) := by
  show PyData.list _ = PyData.list _
  rw [List.map_map]
  rfl
theorem rows_wt {c : Nat} : ∀ rs : List (List Int), (∀ r ∈ rs, r.length ≤ c) → (It.a (rs.map .inr)).wt ≤ 1 + rs.length * (1 + c)
  | [], _ => by simp [It.wt]
  | r :: rs, h => by
    have h1 := h r List.mem_cons_self
    have h2 := rows_wt rs fun x hx => h x (List.mem_cons_of_mem _ hx)
    have e : (It.a ((r :: rs).map .inr)).wt = (It.a (rs.map .inr)).wt + (1 + r.length) := by
      show 1 + (List.sum (_ :: _)) = 1 + List.sum _ + (1 + r.length)
      rw [List.sum_cons]
      show 1 + ((1 + r.length) + _) = _
      omega
    rw [e, List.length_cons, Nat.succ_mul]
    omega
theorem castN_rows (rs : List (List Nat)) : (rs.map fun r => (Sum.inr (castN r) : Int ⊕ List Int)) = (rs.map castN).map .inr := by rw [List.map_map]; rfl
theorem rings_wt {fs : List Nat} (g : Good fs) (h : fs.length ≤ 40) : (It.a ((ringsOf fs).map fun r => .inr (castN r))).wt ≤ 9000 := by
  rw [castN_rows]
  refine Nat.le_trans (rows_wt (c := 40) _ fun r hr => ?_) ?_
  · obtain ⟨q, hq, rfl⟩ := List.mem_map.mp hr
    obtain ⟨k, hk, _, rfl⟩ := ringsOf_mem hq
    rw [List.length_map]
    have := ringOf_len g hk
    omega
  · rw [List.length_map]
    have h1 : (ringsOf fs).length ≤ fs.length := ringsTo_len fs fs.length
    have h2 : (ringsOf fs).length * (1 + 40) ≤ 40 * 41 := Nat.mul_le_mul (by omega) (Nat.le_refl _)
    omega
theorem dpAll_rowsI {K : PySem.W.Frag} {H : Hp} : ∀ (ps : List Addr) (rs : List (List Int)), ps.length = rs.length → (∀ (i : Nat) (q : Addr) (r : List Int), ps[i]? = some q → rs[i]? = some r → SqL K H q (r.map V.int)) → DpAll K H (ps.map V.ref) (rs.map dI)
  | [], [], _, _ => .nil
  | [], _ :: _, h, _ => by simp at h
  | _ :: _, [], h, _ => by simp at h
  | p :: ps, r :: rs, h, f => .cons (dp_ints (f 0 p r rfl rfl)) (dpAll_rowsI ps rs (by simpa using h) fun i q r' h1 h2 => f (i + 1) q r' (by simpa using h1) (by simpa using h2))
theorem SeesI.dp {K : PySem.W.Frag} {H : Hp} {l : Addr} {ps : List Addr} {rs : List (List Int)} (S : SeesI K H l ps rs) : Dp K H (.ref l) (It.a (rs.map .inr)).d := by
  rw [it_rowsI]
  exact .lst S.at_ (dpAll_rowsI ps rs S.len S.row)
theorem ring_turn {fs : List Nat} (g : Good fs) {r : List Nat} (hr : r ∈ ringsOf fs) {k x : Nat} (hk : r[k]? = some x) : x < fs.length ∧ ringOf fs x = r.drop k ++ r.take k := by
  obtain ⟨h, hh, _, rfl⟩ := ringsOf_mem hr
  obtain ⟨e1, e2⟩ := turn_split hk
  refine ⟨ringOf_lt g hh (List.mem_of_getElem? hk), ?_⟩
  have c := ringOf_is g hh
  have c' : IsRing fs h ((ringOf fs h).take k ++ x :: (ringOf fs h).drop (k + 1)) := by rw [← e1]; exact c
  rw [e2]
  exact (c'.turn.eq g).symm
section
variable {P : Program} {w : World} {K : PySem.W.Frag} {mg : Str → Option Value} {base : Heap}
theorem dp_row {H : Hp} {p : Addr} {r : List Nat} (h : SqL K H p (iv r)) : Dp K H (.ref p) (It.r (castN r)).d := by
  rw [iv_eq] at h
  exact dp_ints h
theorem wt_row {r : List Nat} (h : r.length ≤ 5000) : (It.r (castN r)).wt ≤ 9000 := by
  show 1 + (castN r).length ≤ 9000
  rw [List.length_map]
  omega
/-! ### _law_forty_right -/
def spForty (K : PySem.W.Frag) : Sp := fun vs H Q _ => ∃ (a : Addr) (ls : List Nat) (fc m : Nat), vs = [.ref a, .int (fc : Int), .int (m : Int)] ∧ SqL K H a (iv ls) ∧ (∀ l ∈ ls, 1 ≤ l) ∧ ls.sum = 40 ∧ fc ≤ 1000 ∧ 1 ≤ m ∧ m ≤ 40 ∧ ∀ H', Same H H' → Q (.bl true) H'
abbrev n_law_forty_right : List Str := ["_law_lengths", "_law_factor", "_law_most", "_law_boxes", "_law_due_here", "_law_handed", "_law_ring", "_law_at", "_law_found", "_law_long", "_law_told", "_law_can", "_law_length"]
theorem sc_law_forty_right : FnScope n_law_forty_right ["_law_lengths", "_law_factor", "_law_most"] (defScope s_law_forty_right) := ⟨rfl, rfl, rfl, by decide +kernel, rfl, by decide +kernel, by decide +kernel⟩
theorem ok_law_forty_right (T : Tx K mg) : FnOk P w K mg base CX0 6 T.law_forty_right.f T.law_forty_right.fd ["_law_lengths", "_law_factor", "_law_most"] (spForty K) := by
  refine T.law_forty_right.F.ok sc_law_forty_right (fun vs H Q E h => ?_) (fun cdv A outer s H vs Q E hr h => ?_)
  · obtain ⟨a, ls, fc, m, rfl, _⟩ := h
    rfl
  · obtain ⟨a, ls, fc, m, rfl, hS, hl1, hsum, hfc, hm1, hm2, q⟩ := h
    refine ⟨_, (pss_cons (ps_asg (pe_df T.law_laid (ok_law_laid T) (hr.mono (by decide)) (pa_cons (pv 0) (pa_cons (pv 1) pa_nil))) (pg_tup rfl (pgs_cons (pg_name (i := 3) sc_law_forty_right.nd rfl (.inl rfl)) (pgs_cons (pg_name (i := 4) sc_law_forty_right.nd rfl (.inl rfl)) pgs_nil))))
    (pss_cons (ps_set (i := 5) sc_law_forty_right.nd rfl (.inl rfl) (pe_callTy call_list_of (by rfl) T.m_list (by decide +kernel) (pa_cons (pv 3) pa_nil)))
    (pss_cons (ps_if (PW.pt (pw_or (pt_cmpR (op_neD hr.units) (pe_df T.rings (ok_rings T) (hr.mono (by decide)) (pa_cons (pv 5) pa_nil)) (pv 4) (nomark _)) (pw_or1 (pt_not (pt_val (pe_df T.law_all_whole (ok_law_all_whole T) (hr.mono (by decide)) (pa_cons (pe_df T.rings (ok_rings T) (hr.mono (by decide)) (pa_cons (pv 5) pa_nil)) pa_nil)))))))
      (pss_one (ps_ret pe_bl))
      pss_nil)
    (pss_cons (ps_for PassesOwn.never rfl (pi_list (pv 4)) (pg_name (i := 6) sc_law_forty_right.nd rfl (.inl rfl))
      (pss_cons (ps_set (i := 7) sc_law_forty_right.nd rfl (.inl rfl) (pe_op op_mod (pv 1) (pe_callB call_len_seq (by rfl) T.m_len (by decide +kernel) (pa_cons (pv 6) pa_nil))))
      (pss_cons (ps_set (i := 8) sc_law_forty_right.nd rfl (.inl rfl) (pe_df T.opened (ok_opened T) (hr.mono (by decide)) (pa_cons (pv 5) (pa_cons (pe_ix ix_list (pv 6) (pv 7) (fun _ _ => rfl)) pa_nil))))
      (pss_one (ps_if (PW.pt (pw_or (pt_cmpR (op_neD hr.units) (pv 8) (pe_op op_cat (pe_slice sl_list (pv 6) (po_some (pv 7)) po_none) (pe_slice sl_list (pv 6) po_none (po_some (pv 7)))) (nomark _)) (pw_or1 (pt_not (pt_val (pe_df T.law_all_whole (ok_law_all_whole T) (hr.mono (by decide)) (pa_cons (pv 8) pa_nil)))))))
        (pss_one (ps_ret pe_bl))
        pss_nil)))))
    (pss_cons (ps_setLc (i := 9) (own := [("_law_length", 12)]) (g := gName 12) rfl sc_law_forty_right.nd rfl rfl (sw_true rfl rfl rfl (by decide +kernel)) (pi_list (pv 0)) (blkOk_by (own := [("_law_length", 12)]) (N := n_law_forty_right) (sc := defScope s_law_forty_right) (by decide +kernel)) (fun _ _ _ _ _ => (pg_name (i := 12) sc_law_forty_right.nd rfl (.inl rfl))) (fun _ _ _ _ _ => (pts_one (pt_cmpR op_gt (pv 12) (pv 2) (nomark _)))) (fun _ _ _ _ _ => (pv 12)))
    (pss_cons (ps_par (i := 8) (j := 10) (by rfl) sc_law_forty_right.nd rfl rfl (by decide) rfl rfl (pa_cons (pe_df T.judged (ok_judged T) (hr.mono (by decide)) (pa_cons (pv 5) (pa_cons (pv 2) pa_nil))) (pa_cons (pe_df T.mended (ok_mended T) (hr.mono (by decide)) (pa_cons (pv 5) (pa_cons (pv 2) pa_nil))) pa_nil)) (by rfl))
    (pss_cons (ps_if (PW.pt (pw_or (pt_cmpR op_ne (pe_callB call_isi (by rfl) T.m_isinstance (by decide +kernel) (pa_cons (pv 8) (pa_cons (pe_glob (v := .ref T.All.C) rfl T.All.g rfl) pa_nil))) (pe_cmpR (op_eqD hr.units) (pv 9) (pe_lst pa_nil) (nomark _)) (nomark _)) (pw_or1 (pt_cmpR op_notBl (pe_either (pe_meth (pv 8) T.All.cl T.All_shows.meth (ok_All_shows T) (hr.mono (by decide)) T.All_shows.b .nil pass0 (pa_cons (pv 5) (pa_cons (pv 2) pa_nil))) (pe_meth (pv 8) T.Long.cl T.Long_shows.meth (ok_Long_shows T) (hr.mono (by decide)) T.Long_shows.b .nil pass0 (pa_cons (pv 5) (pa_cons (pv 2) pa_nil)))) pe_bl (nomark _)))))
      (pss_one (ps_ret pe_bl))
      pss_nil)
    (C8.pss_cut (ps_set (i := 11) sc_law_forty_right.nd rfl (.inl rfl) (pe_and (pe_cmpR op_lt (pe_callB call_len_seq (by rfl) T.m_len (by decide +kernel) (pa_cons (pv 9) pa_nil)) pe_int (nomark _)) (pe_one (pe_cmpR op_le (pe_callB (cr_max rfl) (by rfl) T.m_max (by decide +kernel) (pa_cons (pv 0) pa_nil)) (pe_op op_mulX pe_int (pv 2)) (nomark _)))))
    (pss_cons (ps_if (PW.pt (pw_or (pt_cmpR op_ne (pe_callB call_isi (by rfl) T.m_isinstance (by decide +kernel) (pa_cons (pv 10) (pa_cons (pe_glob (v := .ref T.Mend.C) rfl T.Mend.g rfl) pa_nil))) (pv 11) (nomark _)) (pw_or1 (pt_cmpR (op_neD hr.units) (pv 5) (pv 3) (nomark _)))))
      (pss_one (ps_ret pe_bl))
      pss_nil)
    (pss_cons (ps_if (pt_cmpR op_notBl (pe_either (pe_meth (pv 10) T.Mend.cl T.Mend_shows.meth (ok_Mend_shows T) (hr.mono (by decide)) T.Mend_shows.b .nil pass0 (pa_cons (pv 5) (pa_cons (pv 2) pa_nil))) (pe_meth (pv 10) T.Barred.cl T.Barred_shows.meth (ok_Barred_shows T) (hr.mono (by decide)) T.Barred_shows.b .nil pass0 (pa_cons (pv 5) (pa_cons (pv 2) pa_nil)))) pe_bl (nomark _))
      (pss_one (ps_ret pe_bl))
      pss_nil)
    (C8.pss_cut (ps_if (PW.pt (pw_and (pt_val (pe_callB call_isi (by rfl) T.m_isinstance (by decide +kernel) (pa_cons (pv 8) (pa_cons (pe_glob (v := .ref T.Long.C) rfl T.Long.g rfl) pa_nil)))) (pw_and1 (pt_not (pt_val (pe_df T.law_all_whole (ok_law_all_whole T) (hr.mono (by decide)) (pa_cons (pe_fld (pv 8) rfl) pa_nil)))))))
      (pss_one (ps_ret pe_bl))
      pss_nil)
    (pss_cons (ps_if (pt_val (pe_callB call_isi (by rfl) T.m_isinstance (by decide +kernel) (pa_cons (pv 10) (pa_cons (pe_glob (v := .ref T.Barred.C) rfl T.Barred.g rfl) pa_nil))))
      (pss_cons (ps_if (PW.pt (pw_or (pt_not (pt_val (pe_df T.law_all_whole (ok_law_all_whole T) (hr.mono (by decide)) (pa_cons (pe_fld (pv 10) rfl) pa_nil)))) (pw_or1 (pt_cmpR op_notBl (pe_meth (pe_make (T.Mend.mak T.Mend_init) (ok_Mend_init T) (hr.mono (by decide)) (by rfl) T.Mend.g T.Mend_init.b .nil pass0 (pa_cons pe_int (pa_cons pe_int pa_nil))) T.Mend.cl T.Mend_shows.meth (ok_Mend_shows T) (hr.mono (by decide)) T.Mend_shows.b .nil pass0 (pa_cons (pv 5) (pa_cons (pv 2) pa_nil))) pe_bl (nomark _)))))
        (pss_one (ps_ret pe_bl))
        pss_nil)
      (pss_cons (ps_expr (pe_bm PySem.F.plainAttrs_list PySem.F.slot_list_append PySem.F.type_list_append mt_append (pe_ix ix_list (pe_fld (pv 10) rfl) pe_int (fun _ _ => rfl)) (pa_cons (pe_ix ix_list (pe_ix ix_list (pe_fld (pv 10) rfl) pe_int (fun _ _ => rfl)) pe_int (fun _ _ => rfl)) pa_nil)))
      (pss_one (ps_ret (pe_cmpR op_isBl (pe_either (pe_meth (pv 10) T.Mend.cl T.Mend_shows.meth (ok_Mend_shows T) (hr.mono (by decide)) T.Mend_shows.b .nil pass0 (pa_cons (pv 5) (pa_cons (pv 2) pa_nil))) (pe_meth (pv 10) T.Barred.cl T.Barred_shows.meth (ok_Barred_shows T) (hr.mono (by decide)) T.Barred_shows.b .nil pass0 (pa_cons (pv 5) (pa_cons (pv 2) pa_nil)))) pe_bl (nomark _))))))
      pss_nil)
    (pss_one (ps_ret (pe_df T.law_all_whole (ok_law_all_whole T) (hr.mono (by decide)) (pa_cons (pe_lst (pa_cons (pe_fld (pv 10) rfl) (pa_cons (pe_fld (pv 10) rfl) pa_nil))) pa_nil)))))))))))))))), ?_⟩
    refine ⟨_, rfl, _, rfl, a, ls, fc, rfl, hS, hl1, by omega, hfc, fun H1 p fs f d ps L ep => ⟨p, _, rfl, .of ep, rfl, _, _, rfl, _, _, rfl, rfl, ?_⟩⟩
    have g := L.good
    have hfl : fs.length = 40 := by rw [L.many, hsum]
    refine ⟨_, rfl, f, _, rfl, .inl (.of L.ef), fun h nh => ?_⟩
    have s2 := same_upd (o := .lst (iv fs)) nh
    have eh : (upd H1 h (.lst (iv fs))) h = some (.lst (iv fs)) := upd_same
    have ef := s2 _ _ L.ef
    have Sd : Sees K (upd H1 h (.lst (iv fs))) d (ringsOf fs) := ⟨ps, .of (s2 _ _ L.ed), L.len, fun i q r h1 h2 => .of (s2 _ _ (L.row i q r h1 h2))⟩
    have ed := s2 _ _ L.ed
    have rows := fun i q r h1 h2 => s2 _ _ (L.row i q r h1 h2)
    have sH := L.same.trans s2
    have hA := sH.seq hS
    generalize upd H1 h (.lst (iv fs)) = H2 at *
    refine ⟨_, rfl, h, fs, rfl, .of eh, g, by omega, by omega, fun H3 p3 ps3 s3 n3 e3 R3 hp3 => ⟨_, rfl, ?_⟩⟩
    refine ne_rows (R3.sees e3) (Sd.same s3) ⟨_, rfl, iteNS rfl ?_⟩
    refine ⟨_, rfl, h, fs, rfl, .of (s3 _ _ eh), g, by omega, by omega, fun H4 p4 ps4 s4 n4 e4 R4 hp4 => ?_⟩
    refine ⟨_, .a ((ringsOf fs).map fun r => .inr (castN r)), rfl, by rw [it_rows]; exact (R4.sees e4).dp, rings_wt g (by omega), fun H5 s5 => ⟨_, rfl, iteF ?_⟩⟩
    have s25 := (s3.trans s4).trans s5
    -- the rings
    refine ⟨_, rfl, d, rfl, ⟨_, .of (s25 _ _ ed)⟩, ?_⟩
    refine for_list (K := K) (a := d) (xs := ps.map V.ref) (fun i σ H6 => ∃ w6 w7 w8, σ = [some (.ref a), some (.int (fc : Int)), some (.int (m : Int)), some (.ref f), some (.ref d), some (.ref h), w6, w7, w8, none, none, none, none] ∧ Same H2 H6) ⟨_, _, _, rfl, s25⟩ (fun i σ H6 _ h => ?_) (fun i x σ H6 hx hP => ?_) (fun σ H6 hP => ?_)
    · obtain ⟨_, _, _, _, s6⟩ := h
      exact .of (s6 _ _ ed)
    · obtain ⟨w6, w7, w8, rfl, s6⟩ := hP
      rw [List.getElem?_map] at hx
      obtain ⟨rp, hrp, rfl⟩ := Option.map_eq_some_iff.mp hx
      have hi : i < (ringsOf fs).length := by rw [← L.len]; exact (List.getElem?_eq_some_iff.mp hrp).1
      have er := s6 _ _ (rows i rp _ hrp (List.getElem?_eq_getElem hi))
      have hmem : (ringsOf fs)[i] ∈ ringsOf fs := List.getElem_mem hi
      generalize (ringsOf fs)[i] = r at er hmem
      have hrl : 1 ≤ r.length ∧ r.length ≤ 40 := by
        obtain ⟨k, hk, _, rfl⟩ := ringsOf_mem hmem
        have h1 := ringOf_pos g hk
        have h2 := ringOf_len g hk
        omega
      refine ⟨_, rfl, _, rfl, rp, _, rfl, .inl (.of er), fc, _, rfl, rfl, (by show (0 : Int) < (((iv r).length : Nat) : Int); rw [iv_len]; omega), ?_⟩
      dsimp only
      rw [iv_len, show (fc : Int) % (r.length : Int) = ((fc % r.length : Nat) : Int) by push_cast; rfl]
      have hk : fc % r.length < r.length := Nat.mod_lt _ (by omega)
      have hx0 := List.getElem?_eq_getElem hk
      generalize r[fc % r.length] = x0 at hx0
      generalize fc % r.length = k at *
      obtain ⟨hxl, ering⟩ := ring_turn g hmem hx0
      refine ⟨_, rfl, _, rfl, _, rfl, rp, _, _, _, rfl, rfl, .of er, iv_at hx0, h, fs, x0, rfl, .of (s6 _ _ eh), g, hxl, by omega, fun H7 p7 s7 n7 e7 => ?_⟩
      have er7 := s7 _ _ er
      refine ⟨_, rfl, _, rfl, _, rfl, _, rfl, rp, _, rfl, .of er7, fun c1 n1 => ?_⟩
      rw [cut_since]
      have t1 := same_upd (o := .lst ((iv r).drop k)) n1
      refine ⟨_, rfl, _, rfl, _, rfl, rp, _, rfl, t1.seq (.of er7), fun c2 n2 => ?_⟩
      rw [cut_to]
      have t2 := same_upd (o := .lst ((iv r).take k)) n2
      refine ⟨c1, c2, _, _, rfl, rfl, t2 _ _ upd_same, upd_same, ?_, fun c3 n3 => ?_⟩
      · rw [List.length_drop, List.length_take, iv_len]
        exact sz (by omega)
      have ecat : (iv r).drop k ++ (iv r).take k = iv (r.drop k ++ r.take k) := by
        show _ = List.map _ _
        rw [List.map_append, List.map_drop, List.map_take]
      rw [ecat]
      have t3 := same_upd (o := .lst (iv (r.drop k ++ r.take k))) n3
      have t13 := (t1.trans t2).trans t3
      refine ne_iv (x := ringOf fs x0) (y := r.drop k ++ r.take k) (.of (t13 _ _ e7)) (.of upd_same) ⟨_, rfl, iteNS ering ?_⟩
      refine ⟨_, rfl, _, .r (castN (ringOf fs x0)), rfl, dp_row (.of (t13 _ _ e7)), wt_row (by have := ringOf_len g hxl; omega), fun H8 s8 => ⟨_, rfl, iteF ?_⟩⟩
      exact ⟨_, _, _, rfl, ((s6.trans s7).trans t13).trans s8⟩
    obtain ⟨w6, w7, w8, rfl, s6⟩ := hP
    -- the lengths
    refine ⟨_, rfl, a, rfl, ⟨_, s6.seq hA⟩, fun D nD => ?_⟩
    refine lc_list (K := K) (a := a) (xs := iv ls) (fun i H7 => Same H6 H7 ∧ H7 D = some (.lst (iv ((ls.take i).filter fun l => decide (m < l))))) ⟨same_upd nD, upd_same⟩ (fun i H7 _ h => (s6.trans h.1).seq hA) (fun i x H7 hx h => ?_) (fun H7 h => ?_)
    · obtain ⟨s7, eD⟩ := h
      rw [iv_get?] at hx
      obtain ⟨l, hl, rfl⟩ := Option.map_eq_some_iff.mp hx
      have et : ls.take (i + 1) = ls.take i ++ [l] := by rw [List.take_add_one, hl]; rfl
      have hll : ((ls.take i).filter fun l => decide (m < l)).length ≤ 40 := by
        have h1 := List.length_filter_le (fun l => decide (m < l)) (ls.take i)
        have h2 := len_le_sum ls hl1
        rw [List.length_take] at h1
        omega
      refine ⟨rfl, _, rfl, _, rfl, _, _, rfl, rfl, _, rfl, ?_⟩
      by_cases hml : m < l
      · rw [show decide ((l : Int) > (m : Int)) = true from decide_eq_true (by omega)]
        refine iteT ⟨_, rfl, _, eD, by rw [iv_len]; exact szl (by omega), same_mut s7 nD, ?_⟩
        rw [upd_same, iv_snoc, et, List.filter_append, List.filter_cons_of_pos (by simpa using hml)]
        rfl
      · rw [show decide ((l : Int) > (m : Int)) = false from decide_eq_false (by omega)]
        refine iteF ⟨s7, ?_⟩
        rw [et, List.filter_append, List.filter_cons_of_neg (by simpa using hml), List.filter_nil, List.append_nil]
        exact eD
    obtain ⟨s7, eD⟩ := h
    rw [iv_len, List.take_length] at eD
    have s27 := s6.trans s7
    have hsh := short_lens (m := m) g L.lens
    -- judged, mended
    refine ⟨_, rfl, _, rfl, h, fs, m, rfl, .of (s27 _ _ eh), g, hm1, by omega, by omega, fun H8 x o J => ?_⟩
    have s28 := s27.trans J.same
    refine ⟨_, rfl, _, rfl, h, fs, m, rfl, .of (s28 _ _ eh), g, hm1, by omega, by omega, fun H9 y o2 M => ⟨_, _, rfl, ?_⟩⟩
    have s29 := s28.trans M.same
    have j9 := J.at_.same M.same
    have eD9 := M.same _ _ (J.same _ _ eD)
    obtain ⟨C, ty, k1, k2, k3, k4, k5⟩ := j_is T j9
    refine ⟨_, rfl, .ref x, .ref T.All.C, .ref C, .ref T.All.C, o.isNone, rfl, .own _, ty, k2, _, rfl, Nat.zero_le _, fun p5 n5 => ?_⟩
    have t1 := same_upd (o := .lst []) n5
    refine eq_iv (x := ls.filter fun l => decide (m < l)) (y := []) (.of (t1 _ _ eD9)) (.of upd_same) ⟨rfl, _, rfl, iteNS ?_ ?_⟩
    · congr 1
      rw [Bool.eq_iff_iff, decide_eq_true_iff, ← hsh, ← J.none_iff]
      simp
    have sa := M.same.trans t1
    have ja := j9.same t1
    have Ma := M.at_.same t1
    have s2a := s29.trans t1
    generalize upd H9 p5 (.lst []) = Ha at *
    clear ty k1 k2 k3 k4 k5
    refine either_J T (fun k hk => ⟨_, rfl, hk⟩) (fun k hk => ⟨_, rfl, _, rfl, hk⟩) ja (.of (s2a _ _ eh)) g (by omega) (fun b Hb sb hb => ?_)
    have : b = true := hb.mpr (J.due g)
    subst this
    refine ⟨true, true, rfl, rfl, _, rfl, iteNS rfl ?_⟩
    have s2b := s2a.trans sb
    have eDb := sb _ _ (t1 _ _ eD9)
    have hAb := s2b.seq hA
    have hAb' : SqL K Hb a ((ls.map fun (n : Nat) => (n : Int)).map V.int) := by rw [← iv_eq]; exact hAb
    have hlsl : 0 < ls.length := by
      cases ls with
      | nil => simp at hsum
      | cons x l => simp
    -- can
    refine ⟨fun σ' H' => ∃ c : Bool, (c = true ↔ Can fs m) ∧ H' = Hb ∧ σ' = [some (.ref a), some (.int (fc : Int)), some (.int (m : Int)), some (.ref f), some (.ref d), some (.ref h), w6, w7, some (.ref x), some (.ref D), some (.ref y), some (.bl c), none], ?_, fun σ' H' hM => ?_⟩
    · refine ⟨_, rfl, D, _, rfl, .inl (.of eDb), _, _, rfl, rfl, _, rfl, ?_⟩
      rw [iv_len]
      by_cases h2 : (ls.filter fun l => decide (m < l)).length < 2
      · rw [show decide ((((ls.filter fun l => decide (m < l)).length : Nat) : Int) < 2) = true from decide_eq_true (by omega)]
        refine iteT ⟨_, rfl, a, _, rfl, hAb', by rw [List.length_map]; exact hlsl, fun mx hmx hle => ?_⟩
        obtain ⟨mn, hmn, rfl⟩ := List.mem_map.mp hmx
        have hle' : ∀ x ∈ ls, x ≤ mn := fun x hx => by
          have := hle _ (List.mem_map.mpr ⟨x, hx, rfl⟩)
          omega
        refine ⟨_, rfl, 2, m, rfl, rfl, .of_left (bts2 (by decide) (by decide)), _, _, rfl, rfl, _, ?_, rfl, rfl⟩
        rw [can_lens g (by omega) hm1 L.lens hmn hle', decide_eq_true_iff]
        omega
      · rw [show decide ((((ls.filter fun l => decide (m < l)).length : Nat) : Int) < 2) = false from decide_eq_false (by omega)]
        refine iteF ⟨false, ⟨fun z => Bool.noConfusion z, fun z => ?_⟩, rfl, rfl⟩
        obtain ⟨mx, hmx, hle⟩ : ∃ mx, mx ∈ ls ∧ ∀ x ∈ ls, x ≤ mx := by
          have hmm := List.max?_eq_some_iff (xs := ls) |>.mp (Option.some_get (by rw [List.isSome_max?_iff]; exact List.length_pos_iff.mp hlsl)).symm
          exact ⟨_, hmm⟩
        exact absurd ((can_lens g (by omega) hm1 L.lens hmx hle).mp z).1 h2
    obtain ⟨c, hc, rfl, rfl⟩ := hM
    have Mb := Ma.same sb
    obtain ⟨C, ty, k1, k2, k3, k4, k5⟩ := m_is T Mb
    refine ⟨_, rfl, .ref y, .ref T.Mend.C, .ref C, .ref T.Mend.C, o2.isMend, rfl, .own _, ty, k2, _, rfl, rfl, _, rfl, iteNS (by rw [Bool.eq_iff_iff.mpr (M.can.trans hc.symm)]) ?_⟩
    refine ⟨_, rfl, _, rfl, ne_iv (x := fs) (y := fs) (.of (s2b _ _ eh)) (.of (s2b _ _ ef)) ⟨_, rfl, iteNS rfl ?_⟩⟩
    refine either_M T (fun k hk => ⟨_, rfl, hk⟩) (fun k hk => ⟨_, rfl, _, rfl, hk⟩) Mb (.of (s2b _ _ eh)) g (by omega) (fun b Hc sc hb => ?_)
    have : b = true := hb.mpr M.due
    subst this
    refine ⟨true, true, rfl, rfl, _, rfl, iteNS rfl ?_⟩
    have jc := (ja.same sb).same sc
    have s9c := (t1.trans sb).trans sc
    have s2c := s2b.trans sc
    -- the ring's numbers
    refine ⟨fun σ' H' => Same Hc H' ∧ σ' = [some (.ref a), some (.int (fc : Int)), some (.int (m : Int)), some (.ref f), some (.ref d), some (.ref h), w6, w7, some (.ref x), some (.ref D), some (.ref y), some (.bl c), none], ?_, fun σ' Hd hM => ?_⟩
    · obtain ⟨C, ty, _, _, k3, _, _⟩ := j_is T jc
      refine ⟨_, rfl, .ref x, .ref T.Long.C, .ref C, .ref T.Long.C, o.isSome, rfl, .own _, ty, k3, _, rfl, ?_⟩
      cases o with
      | none => exact iteF ⟨.refl _, rfl⟩
      | some r =>
        obtain ⟨dx, l, e1, e2, e3⟩ := jc
        refine iteT ⟨_, rfl, x, T.Long.C, dx, _, _, rfl, e1, T.Long.cl, T.n_Long_ring, lk_ring, _, .r r, rfl, dp_ints (.of e2), by show 1 + r.length ≤ 9000; omega, fun Hd sd => ⟨_, rfl, iteF ⟨sd, rfl⟩⟩⟩
    obtain ⟨sd, rfl⟩ := hM
    have s9d := s9c.trans sd
    have s2d := s2c.trans sd
    have Md := (Mb.same sc).same sd
    obtain ⟨C, ty, k1, k2, k3, k4, k5⟩ := m_is T Md
    refine ⟨_, rfl, .ref y, .ref T.Barred.C, .ref C, .ref T.Barred.C, !o2.isMend, rfl, .own _, ty, k3, _, rfl, ?_⟩
    cases o2 with
    | mend i j =>
      obtain ⟨dx, e⟩ := Md
      refine iteF ⟨_, rfl, y, T.Mend.C, dx, _, _, rfl, e, T.Mend.cl, T.n_Mend_one, lk_one, _, rfl, y, T.Mend.C, dx, _, _, rfl, e, T.Mend.cl, T.n_Mend_other, lk_other, sz (by simp), fun pn nn => ?_⟩
      exact ⟨_, .r [i, j], rfl, dp_ints (.of upd_same), by show 1 + 2 ≤ 9000; decide, fun He se => q _ (((sH.trans s2d).trans (same_upd nn)).trans se)⟩
    | barred rs =>
      have due := M.due
      have hncan : ¬ Can fs m := fun z => Bool.noConfusion (M.can.mpr z)
      obtain ⟨dx, l, ps0, e1, S0, e3, e4⟩ := M.at_
      obtain ⟨nl, pr, rs', e2, R, ers, hlp⟩ := M.fresh dx l e1
      cases ers
      have f1 := s9d _ _ e1
      have f2 := s9d _ _ e2
      have Rd := R.same s9d
      have hne : 0 < rs.length := by
        rcases due with ⟨_, ⟨a', e, _⟩ | ⟨a', b', e, _⟩⟩ <;> subst e <;> simp
      have hrl2 : rs.length ≤ 2 := by
        rcases due with ⟨_, ⟨a', e, _⟩ | ⟨a', b', e, _⟩⟩ <;> subst e <;> simp
      refine iteT ⟨_, rfl, y, T.Barred.C, dx, _, _, rfl, f1, T.Barred.cl, T.n_Barred_rings, lk_rings, _, .a (rs.map .inr), rfl, (Rd.seesI f2).dp, ?_, fun He se => ⟨_, rfl, iteF ?_⟩⟩
      · refine Nat.le_trans (rows_wt (c := 4000) rs e4) ?_
        have : rs.length * (1 + 4000) ≤ 2 * 4001 := Nat.mul_le_mul hrl2 (Nat.le_refl _)
        omega
      have s9e := s9d.trans se
      have s2e := s2d.trans se
      refine fun z dz nz ndz hnez => ⟨z, dz, .int 0, .int 0, rfl, upd_same, fun Hf ez kz => ⟨rfl, ?_⟩⟩
      have sf : Same He Hf := fun b u hb => by
        have hbz : b ≠ z := ne_of_none hb nz
        rw [kz b hbz, upd_ne hbz, upd_ne (ne_of_none hb ndz)]
        exact hb
      have s2f := s2e.trans sf
      refine ⟨z, dz, _, rfl, ez, ?_, _, rfl, _, rfl, z, h, dz, fs, 0, 0, m, rfl, ez, .of (s2f _ _ eh), g, by omega, fun b Hg sg hb => ?_⟩
      · have h1 : (("shows" : Str) == ("one" : Str)) = false := by decide +kernel
        have h2 : (("shows" : Str) == ("other" : Str)) = false := by decide +kernel
        simp only [List.lookup, h1, h2]
      have : b = false := by
        cases b with
        | false => rfl
        | true => exact absurd (Can.of (by omega) (by omega) (hb.mp rfl).2.2) hncan
      subst this
      refine ⟨false, false, rfl, rfl, _, rfl, iteNS rfl ?_⟩
      have s9g := (s9e.trans sf).trans sg
      have s2g := s2f.trans sg
      have g1 := s9g _ _ e1
      have g2 := s9g _ _ e2
      have Rg := R.same s9g
      obtain ⟨r0, rt, ers⟩ := List.exists_cons_of_length_pos hne
      subst ers
      obtain ⟨p0, pt, eps⟩ : ∃ p0 pt, pr = p0 :: pt := by
        cases pr with
        | nil => have := R.len; simp at this
        | cons p0 pt => exact ⟨p0, pt, rfl⟩
      subst eps
      have fr := Rg.row 0 p0 r0 rfl rfl
      have hr0 : RingI fs r0 := due.1 r0 (by simp)
      obtain ⟨k0, hk0, er0, hx0⟩ := ringI_of g hr0
      have n0 : p0 ≠ l := fun z => hlp (by rw [← z]; simp)
      have hx0' : y ≠ p0 := fun z => by rw [← z, g1] at fr; cases fr
      have at0 : atI ((p0 :: pt).map V.ref) 0 = some (.ref p0) := atI_nat (j := 0) rfl
      have at1 : atI (r0.map V.int) 0 = some (.int (k0 : Int)) := atI_nat (j := 0) (ints_at hx0)
      have hr4 := e4 r0 (by simp)
      refine ⟨_, rfl, y, T.Barred.C, dx, _, _, rfl, g1, T.Barred.cl, T.n_Barred_rings, lk_rings, l, _, 0, _, rfl, rfl, .of g2, at0, .inl ⟨rfl, _, .of fr⟩, _, rfl, y, T.Barred.C, dx, _, _, rfl, g1, T.Barred.cl, T.n_Barred_rings, lk_rings, l, _, 0, _, rfl, rfl, .of g2, at0, p0, _, 0, _, rfl, rfl, .of fr, at1, p0, _, _, rfl, rfl, fr, by rw [List.length_map]; exact szl (by omega), ?_⟩
      have e0 : r0.map V.int ++ [V.int (k0 : Int)] = (r0 ++ [(k0 : Int)]).map V.int := by rw [List.map_append]; rfl
      rw [e0]
      have np0 : H8 p0 = none := R.new p0 (by simp)
      have s2h : Same H2 (upd Hg p0 (.lst ((r0 ++ [(k0 : Int)]).map V.int))) := same_mut s2g (s28.free np0)
      have Sg : SeesI K (upd Hg p0 (.lst ((r0 ++ [(k0 : Int)]).map V.int))) l (p0 :: pt) ((r0 ++ [(k0 : Int)]) :: rt) := by
        refine ⟨.of (by rw [upd_ne n0.symm]; exact g2), R.len, fun i q' r' h1 h2 => ?_⟩
        cases i with
        | zero => cases h1; cases h2; exact .of upd_same
        | succ i =>
          have hq : q' ≠ p0 := fun z => by
            subst z
            have := R.nd
            rw [List.nodup_cons] at this
            exact this.1 (List.mem_of_getElem? (by simpa using h1))
          exact .of (by rw [upd_ne hq]; exact Rg.row (i + 1) q' r' h1 h2)
      have f4 : r0.length ≤ 40 := by
        rw [er0, List.length_map]
        have := ringOf_len g hk0
        omega
      have Mg : MAt T (upd Hg p0 (.lst ((r0 ++ [(k0 : Int)]).map V.int))) y (.barred ((r0 ++ [(k0 : Int)]) :: rt)) := by
        refine ⟨dx, l, p0 :: pt, by rw [upd_ne hx0']; exact g1, Sg, by simpa using e3, fun r hr => ?_⟩
        rcases List.mem_cons.mp hr with rfl | hr
        · rw [List.length_append]
          show r0.length + 1 ≤ 4000
          omega
        · exact e4 r (List.mem_cons_of_mem _ hr)
      refine either_M T (fun k hk => ⟨_, rfl, hk⟩) (fun k hk => ⟨_, rfl, _, rfl, hk⟩) Mg (.of (s2h _ _ eh)) g (by omega) (fun b Hi si hb => ?_)
      have : b = false := by
        cases b with
        | false => rfl
        | true =>
          have z := (hb.mp rfl).1 _ List.mem_cons_self
          rw [er0] at z
          exact absurd z (ring_more (x := k0) (ringOf_is g hk0))
      subst this
      exact ⟨false, false, rfl, rfl, q _ ((sH.trans s2h).trans si)⟩
end
end Sb
namespace Sb
open PySem PySem.Spec PyProof.Rows L2
theorem min_of_if9 (m n : Nat) : (if (m : Int) < ((n : Nat) : Int) then (m : Int) else ((n : Nat) : Int)) = ((min m n : Nat) : Int) := by
  by_cases h : (m : Int) < ((n : Nat) : Int)
  · rw [if_pos h, Nat.min_eq_left (by omega)]
  · rw [if_neg h, Nat.min_eq_right (by omega)]
section
variable {P : Program} {w : World} {K : PySem.W.Frag} {mg : Str → Option Value} {base : Heap}
/-! ### _law_count: the same recursion -/
abbrev n_law_count : List Str := ["_law_many", "_law_most", "_law_counts", "_law_size", "_law_ways", "_law_whole", "_law_length"]
theorem sc_law_count : FnScope n_law_count ["_law_many", "_law_most"] (defScope s_law_count) := ⟨rfl, rfl, rfl, by decide +kernel, rfl, by decide +kernel, by decide +kernel⟩
theorem ok_law_count (T : Tx K mg) : FnOk P w K mg base CX0 1 T.law_count.f T.law_count.fd ["_law_many", "_law_most"] spMany := by
  refine T.law_count.F.ok sc_law_count (fun vs H Q E h => ?_) (fun cdv A outer s H vs Q E hr h => ?_)
  · obtain ⟨n, m, rfl, _⟩ := h
    rfl
  · obtain ⟨n, m, rfl, h1, h2, h3, h4, q⟩ := h
    refine ⟨_, (pss_cons (ps_set (i := 2) sc_law_count.nd rfl (.inl rfl) (pe_lst (pa_cons pe_int pa_nil)))
    (pss_cons (ps_for PassesOwn.never rfl (pi_range2 (by rfl) T.m_range (pa_cons pe_int (pa_cons (pe_op op_add (pv 0) pe_int) pa_nil))) (pg_name (i := 3) sc_law_count.nd rfl (.inl rfl))
      (pss_cons (ps_asg (pe_tup (pa_cons pe_int (pa_cons pe_int pa_nil))) (pg_tup rfl (pgs_cons (pg_name (i := 4) sc_law_count.nd rfl (.inl rfl)) (pgs_cons (pg_name (i := 5) sc_law_count.nd rfl (.inl rfl)) pgs_nil))))
      (pss_cons (ps_for PassesOwn.never rfl (pi_range2 (by rfl) T.m_range (pa_cons pe_int (pa_cons (pe_op op_add (pe_callB (call_min2 rfl) (by rfl) T.m_min (by decide +kernel) (pa_cons (pv 3) (pa_cons (pv 1) pa_nil))) pe_int) pa_nil))) (pg_name (i := 6) sc_law_count.nd rfl (.inl rfl))
        (pss_cons (ps_set (i := 5) sc_law_count.nd rfl (.inl rfl) (pe_op op_add (pv 5) (pe_op op_mulX (pv 4) (pe_ix ix_list (pv 2) (pe_op op_sub (pv 3) (pv 6)) (fun _ _ => rfl)))))
        (pss_one (ps_set (i := 4) sc_law_count.nd rfl (.inl rfl) (pe_op op_mulX (pv 4) (pe_op op_sub (pv 3) (pv 6)))))))
      (pss_one (ps_expr (pe_bm PySem.F.plainAttrs_list PySem.F.slot_list_append PySem.F.type_list_append mt_append (pv 2) (pa_cons (pv 5) pa_nil)))))))
    (pss_one (ps_ret (pe_ix ix_list (pv 2) (pv 0) (fun _ _ => rfl)))))), ?_⟩
    refine ⟨sz (by simp), fun o no => ?_⟩
    refine ⟨_, rfl, n, 1, rfl, rfl, 1, _, rfl, ⟨by omega, by omega, by omega, by omega⟩, ?_⟩
    rw [show ((n : Int) + 1 - 1).toNat = n by omega]
    refine for_range (lo := 1) (n := n) (fun i σ H3 => ∃ w3 w4 w5 w6, σ = [some (.int (n : Int)), some (.int (m : Int)), some (.ref o), w3, w4, w5, w6] ∧ Same H H3 ∧ H3 o = some (.lst (iv (tbl m i)))) ⟨_, _, _, _, rfl, same_upd no, upd_same⟩ (fun i σ H3 hi hP => ?_) (fun σ H3 hP => ?_)
    · obtain ⟨w3, w4, w5, w6, rfl, sm, eo⟩ := hP
      refine ⟨sz (by simp), fun t nt => ⟨t, _, rfl, .of upd_same, rfl, _, _, rfl, _, _, rfl, rfl, ?_⟩⟩
      have st := same_upd (o := .tup [V.int 1, V.int 0]) nt
      refine ⟨_, rfl, _, rfl, _, _, rfl, _, 1, rfl, rfl, 1, _, rfl, ?_⟩
      rw [show (1 : Int) + ((i : Nat) : Int) = ((i + 1 : Nat) : Int) by omega, min_of_if9]
      refine ⟨⟨by omega, by omega, by omega, by omega⟩, ?_⟩
      rw [show (((min m (i + 1) : Nat) : Int) + 1 - 1).toNat = min m (i + 1) by omega]
      refine for_range (lo := 1) (n := min m (i + 1)) (fun s σ H4 => ∃ w6, σ = [some (.int (n : Int)), some (.int (m : Int)), some (.ref o), some (.int ((i + 1 : Nat) : Int)), some (.int (((gw (tbl m i) (i + 1) s).2 : Nat) : Int)), some (.int (((gw (tbl m i) (i + 1) s).1 : Nat) : Int)), w6] ∧ Same H H4 ∧ H4 o = some (.lst (iv (tbl m i)))) ⟨_, rfl, sm.trans st, st _ _ eo⟩ (fun s σ H4 hs hP => ?_) (fun σ H4 hP => ?_)
      · obtain ⟨w6, rfl, s4, eo4⟩ := hP
        have ea : atI (iv (tbl m i)) (((i + 1 : Nat) : Int) - (1 + ((s : Nat) : Int))) = some (.int ((hm (i - s) m : Nat) : Int)) := by
          rw [show ((i + 1 : Nat) : Int) - (1 + ((s : Nat) : Int)) = ((i - s : Nat) : Int) by omega]
          exact iv_at (tbl_get? (by omega))
        have b1 : Builtin.Int.intBits (((gw (tbl m i) (i + 1) s).2 : Nat) : Int) ≤ 700 := bits_of (gw_bits _ (by omega) s (by omega))
        have b2 : Builtin.Int.intBits ((hm (i - s) m : Nat) : Int) ≤ 600 := bits_of (hm_bits (by omega))
        have b3 : Builtin.Int.intBits (((i + 1 : Nat) : Int) - (1 + ((s : Nat) : Int))) ≤ 64 := by
          rw [show ((i + 1 : Nat) : Int) - (1 + ((s : Nat) : Int)) = ((i - s : Nat) : Int) by omega]
          exact bits_small (by omega)
        refine ⟨_, rfl, _, rfl, _, rfl, _, rfl, _, rfl, _, _, rfl, rfl, o, _, _, _, rfl, rfl, .of eo4, ea, _, _, rfl, rfl, PySem.IntMulOk.of_le b1 b2 (by decide), _, _, rfl, rfl, ?_⟩
        refine ⟨_, rfl, _, rfl, _, rfl, _, _, rfl, rfl, _, _, rfl, rfl, .of_right b3, ?_⟩
        refine ⟨some (.int (1 + ((s : Nat) : Int))), ?_, s4, eo4⟩
        have e1 : (((gw (tbl m i) (i + 1) (s + 1)).1 : Nat) : Int) = (((gw (tbl m i) (i + 1) s).1 : Nat) : Int) + (((gw (tbl m i) (i + 1) s).2 : Nat) : Int) * ((hm (i - s) m : Nat) : Int) := by
          rw [gw_succ, tbl_get (show i + 1 - (s + 1) ≤ i by omega), show i + 1 - (s + 1) = i - s by omega]
          push_cast
          rfl
        have e2 : (((gw (tbl m i) (i + 1) (s + 1)).2 : Nat) : Int) = (((gw (tbl m i) (i + 1) s).2 : Nat) : Int) * (((i + 1 : Nat) : Int) - (1 + ((s : Nat) : Int))) := by
          rw [gw_succ, show ((i + 1 : Nat) : Int) - (1 + ((s : Nat) : Int)) = ((i + 1 - (s + 1) : Nat) : Int) by omega, ← Int.natCast_mul]
        rw [e1, e2]
        rfl
      · obtain ⟨w6, rfl, s4, eo4⟩ := hP
        refine ⟨_, rfl, .inl ⟨rfl, _, .of eo4⟩, _, rfl, o, _, _, rfl, rfl, eo4, ?_, ?_⟩
        · rw [iv_len, tbl_len]
          exact szl (by omega)
        · refine ⟨_, _, _, _, rfl, same_mut s4 no, ?_⟩
          rw [upd_same, iv_snoc, tbl_succ]
    · obtain ⟨w3, w4, w5, w6, rfl, sm, eo⟩ := hP
      exact ⟨_, rfl, _, rfl, o, _, _, _, rfl, rfl, .of eo, iv_at (tbl_get? (Nat.le_refl _)), q _ sm⟩
end
end Sb
namespace Sb
open PySem PySem.Spec PyProof.Rows L2
theorem map_eraseIdx9 {α β : Type} (f : α → β) : ∀ (l : List α) (i : Nat), (l.map f).eraseIdx i = (l.eraseIdx i).map f
  | [], _ => rfl
  | _ :: _, 0 => rfl
  | a :: l, i + 1 => by
    show f a :: (l.map f).eraseIdx i = f a :: (l.eraseIdx i).map f
    rw [map_eraseIdx9 f l i]
section
variable {P : Program} {w : World} {K : PySem.W.Frag} {mg : Str → Option Value} {base : Heap}
/-! ### _law_numbers_right -/
def spNumbers (T : Tx K mg) : Sp := fun vs H Q _ => ∃ (n m num : Nat), vs = [.int (n : Int), .int (m : Int), .int (num : Int)] ∧ 1 ≤ n ∧ n ≤ 100 ∧ 1 ≤ m ∧ m ≤ n ∧ num < 40320 ∧ LamX.Tabs (lamTb T) H ∧ ∀ H', LamX.ExtN H H' → LamX.Tabs (lamTb T) H' → Q (.bl true) H'
abbrev n_law_numbers_right : List Str := ["_law_many", "_law_most", "_law_number", "_law_found", "_law_left", "_law_setting", "_law_size", "_law_rest", "_law_many_left", "_law_some", "_law_last", "_law_told"]
theorem sc_law_numbers_right : FnScope n_law_numbers_right ["_law_many", "_law_most", "_law_number"] (defScope s_law_numbers_right) := ⟨rfl, rfl, rfl, by decide +kernel, rfl, by decide +kernel, by decide +kernel⟩
theorem ok_law_numbers_right (T : Tx K mg) (TB : LamX.TabB base mg T.L_law_numbers_right.c T.L_law_numbers_right.P) : FnOk P w K mg base CX0 13 T.law_numbers_right.f T.law_numbers_right.fd ["_law_many", "_law_most", "_law_number"] (spNumbers T) := by
  have hmT : (T.L_law_numbers_right.P, ("_law_numbers_right" ++ ".<locals>." : Str) ++ "<lambda>") ∈ lamTb T := by simp [lamTb]
  have huT : ∀ p ∈ lamTb T, p.1 = T.L_law_numbers_right.P → p.2 = ("_law_numbers_right" ++ ".<locals>." : Str) ++ "<lambda>" := by
    intro p hp e
    simp only [lamTb, List.mem_cons, List.not_mem_nil, or_false] at hp
    rcases hp with rfl | rfl
    · rfl
    · exact (T.ld_law_numbers_right_law_spoiled_right e.symm).elim
  refine okC T.law_numbers_right.F T.L_law_numbers_right T.lf_law_numbers_right sc_law_numbers_right (fun vs H Q E h => ?_) (fun A outer s H vs Q E hr h => ?_)
  · obtain ⟨n, m, num, rfl, _⟩ := h
    rfl
  · obtain ⟨n, m, num, rfl, hn1, hn2, hm1, hm2, hnum, hT, q⟩ := h
    refine ⟨_, (pss_cons (ps_set (i := 3) sc_law_numbers_right.nd rfl (.inl rfl) (pe_df T.how_many (ok_how_many T) (hr.mono (by decide)) (pa_cons (pv 0) (pa_cons (pv 1) pa_nil))))
    (pss_cons (ps_if (PW.pt (pw_or (pt_cmpR op_ne (pv 3) (pe_df T.law_count (ok_law_count T) (hr.mono (by decide)) (pa_cons (pv 0) (pa_cons (pv 1) pa_nil))) (nomark _)) (pw_or1 (pt_not (pt_val (pe_df T.law_all_whole (ok_law_all_whole T) (hr.mono (by decide)) (pa_cons (pe_lst (pa_cons (pv 3) pa_nil)) pa_nil)))))))
      (pss_one (ps_ret pe_bl))
      pss_nil)
    (pss_cons (ps_par3 (i := 4) (j := 5) (l := 6) (by rfl) sc_law_numbers_right.nd rfl rfl rfl (by decide) (by decide) (by decide) rfl rfl rfl (pa_cons (pe_listRg rfl (by rfl) T.m_list (prg_1 (by rfl) T.m_range pe_int)) (pa_cons (pe_lst pa_nil) (pa_cons pe_int pa_nil))) (by rfl))
    (pss_cons (ps_set (i := 7) sc_law_numbers_right.nd rfl (.inl rfl) (pv 2))
    (pss_cons (ps_for PassesOwn.never rfl (pi_range3 (by rfl) T.m_range (pa_cons pe_int (pa_cons pe_int (pa_cons (pe_un un_neg pe_int) pa_nil)))) (pg_name (i := 8) sc_law_numbers_right.nd rfl (.inl rfl))
      (pss_cons (ps_set (i := 6) sc_law_numbers_right.nd rfl (.inl rfl) (pe_op op_fdiv (pv 6) (pv 8)))
      (pss_cons (ps_expr (pe_bm PySem.F.plainAttrs_list PySem.F.slot_list_append PySem.F.type_list_append mt_append (pv 5) (pa_cons (pe_bm PySem.F.plainAttrs_list PySem.F.slot_list_pop PySem.F.type_list_pop mt_popAt (pv 4) (pa_cons (pe_op op_fdiv (pv 7) (pv 6)) pa_nil)) pa_nil)))
      (pss_one (ps_set (i := 7) sc_law_numbers_right.nd rfl (.inl rfl) (pe_op op_mod (pv 7) (pv 6)))))))
    (pss_cons (ps_if (PW.pt (pw_or (pt_cmpR (op_neD hr.units) (pe_df T.setting_by (ok_setting_by T) (hr.mono (by decide)) (pa_cons pe_int (pa_cons pe_int (pa_cons (pv 2) pa_nil)))) (pv 5) (nomark _)) (pw_or1 (pt_cmpR op_ne (pe_df T.number_of (ok_number_of T) (hr.mono (by decide)) (pa_cons (pv 5) (pa_cons pe_int pa_nil))) (pv 2) (nomark _)))))
      (pss_one (ps_ret pe_bl))
      pss_nil)
    (pss_cons (ps_if (pt_cmpR op_ne (pe_df T.how_many (ok_how_many T) (hr.mono (by decide)) (pa_cons pe_int (pa_cons pe_int pa_nil))) pe_int (nomark _))
      (pss_one (ps_ret pe_bl))
      pss_nil)
    (pss_cons (ps_set (i := 9) sc_law_numbers_right.nd rfl (.inr rfl) (pe_op op_add pe_int (pe_op op_mod (pv 2) pe_int)))
    (pss_cons (ps_set (i := 10) sc_law_numbers_right.nd rfl (.inr rfl) (pe_op op_sub (pe_df T.how_many (ok_how_many T) (hr.mono (by decide)) (pa_cons pe_int (pa_cons (pv 9) pa_nil))) pe_int))
    (pss_cons (ps_set (i := 11) sc_law_numbers_right.nd rfl (.inl rfl) (pe_df T.setting_by (ok_setting_by T) (hr.mono (by decide)) (pa_cons pe_int (pa_cons (pv 9) (pa_cons (pv 10) pa_nil)))))
    (pss_cons (ps_if (PW.pt (pw_or (pt_cmpR op_ne (pe_df T.number_of (ok_number_of T) (hr.mono (by decide)) (pa_cons (pv 11) (pa_cons (pv 9) pa_nil))) (pv 10) (nomark _)) (pw_or1 (pt_not (pt_val (pe_df T.law_all_whole (ok_law_all_whole T) (hr.mono (by decide)) (pa_cons (pe_lst (pa_cons (pv 11) (pa_cons (pe_df T.number_of (ok_number_of T) (hr.mono (by decide)) (pa_cons (pv 11) (pa_cons (pv 9) pa_nil))) pa_nil))) pa_nil)))))))
      (pss_one (ps_ret pe_bl))
      pss_nil)
    (pss_cons (ps_if (pt_not (pt_val (pe_callB call_isi (by rfl) T.m_isinstance (by decide +kernel) (pa_cons (pe_df T.judged (ok_judged T) (hr.mono (by decide)) (pa_cons (pv 11) (pa_cons (pv 9) pa_nil))) (pa_cons (pe_glob (v := .ref T.All.C) rfl T.All.g rfl) pa_nil)))))
      (pss_one (ps_ret pe_bl))
      pss_nil)
    (pss_one (ps_ret (pe_cmpR (op_eqD hr.units) (pe_kinds (Tb := lamTb T) (k := 5) T TB rfl hmT huT (hr.mono (by decide)) (LamX.lamS_by (sc := defScope s_law_numbers_right) (by decide +kernel)) (fun A outer s H E f c' hr => (pe_dfX T.setting_by (okn_setting_by T) (hr.mono (by decide)) (takes_of rfl rfl rfl rfl) (fun _ _ _ _ h => h) (pa_cons pe_int (pa_cons (pv 9) (pa_cons (pe_op op_add (pv 10) pe_int) pa_nil)))))) (pe_df T.law_due (ok_law_due T) (hr.mono (by decide)) (pa_cons pe_int pa_nil)) (nomark _)))))))))))))))), ?_⟩
    refine ⟨_, rfl, _, rfl, n, m, rfl, hn1, hn2, hm1, hm2, fun H1 s1 => ?_⟩
    refine ⟨_, rfl, _, rfl, _, rfl, n, m, rfl, hn1, hn2, hm1, hm2, fun H2 s2 => ⟨rfl, _, rfl, iteNS rfl ?_⟩⟩
    refine ⟨_, rfl, sz (by simp), fun p3 n3 => ⟨_, .r [((hm n m : Nat) : Int)], rfl, dp_ints (.of upd_same), by show 1 + 1 ≤ 9000; decide, fun H3 s3 => ⟨_, rfl, iteF ?_⟩⟩⟩
    have sH3 := ((s1.trans s2).trans (same_upd n3)).trans s3
    -- digits
    refine ⟨_, rfl, RgOk.of_le (by omega) (by omega) (by omega) (by omega), fun lf nlf => ⟨Nat.zero_le _, fun st nst => ⟨_, _, _, rfl, ?_⟩⟩⟩
    have t1 := same_upd (o := .lst (rgV 0 8)) nlf
    have t2 := same_upd (o := .lst []) nst
    have elf := t2 _ _ (show (upd H3 lf (.lst (rgV 0 8))) lf = some (.lst (iv (begins 8 []))) by rw [upd_same, show (8 : Int) = ((8 : Nat) : Int) from rfl, rgV_iv]; rfl)
    have est : (upd (upd H3 lf (.lst (rgV 0 8))) st (.lst [])) st = some (.lst (iv [])) := upd_same
    have nlfs : lf ≠ st := fun e => by rw [← e, upd_same] at nst; cases nst
    have nlfH : H lf = none := sH3.free nlf
    have nstH : H st = none := (sH3.trans t1).free nst
    have sH4 := (sH3.trans t1).trans t2
    generalize upd (upd H3 lf (.lst (rgV 0 8))) st (.lst []) = H4 at *
    refine ⟨_, rfl, ?_⟩
    refine ⟨1, rfl, 8, 0, -1, 8, rfl, ⟨by decide, by decide, by decide, by decide⟩, ?_⟩
    refine for_rangeC (lo := 8) (c := -1) (n := 8) (fun i σ H5 => ∃ (p : List Nat) (rest : Nat) (w8 : Option V), σ = [some (.int (n : Int)), some (.int (m : Int)), some (.int (num : Int)), some (.int ((hm n m : Nat) : Int)), some (.ref lf), some (.ref st), some (.int ((fact (8 - i) : Nat) : Int)), some (.int (rest : Int)), w8, none, none, none] ∧ Same H H5 ∧ H5 lf = some (.lst (iv (begins 8 p))) ∧ H5 st = some (.lst (iv p)) ∧ p.length = i ∧ p.Nodup ∧ (∀ x ∈ p, x < 8) ∧ rest < fact (8 - i) ∧ (wins 8 8 8 [])[num]? = (wins 8 8 (8 - i) p)[rest]?) ⟨[], num, _, rfl, sH4, elf, est, rfl, List.nodup_nil, (fun x hx => by cases hx), by rw [show 8 - 0 = 8 from rfl, fact8]; exact hnum, rfl⟩ (fun i σ H5 hi hP => ?_) (fun σ H5 hP => ?_)
    · obtain ⟨p, rest, w8, rfl, s5, elf5, est5, hpl, nd, lt, hrest, hw⟩ := hP
      obtain ⟨f, ef⟩ : ∃ f, 8 - i = f + 1 := ⟨8 - i - 1, by omega⟩
      have ef2 : 8 - (i + 1) = f := by omega
      rw [ef] at hrest hw
      obtain ⟨sl, h1, h2, h3, h4, h5, h6, h7, h8⟩ := dig_step nd lt (by omega) hrest hw
      have hfp := fact_pos f
      have hf8 : fact f ≤ 40320 := by rw [← fact8]; exact fact_le f 8 (by omega)
      have e8 : (8 : Int) + ((i : Nat) : Int) * -1 = ((f + 1 : Nat) : Int) := by omega
      have esz : ((fact (8 - i) : Nat) : Int) / ((f + 1 : Nat) : Int) = ((fact f : Nat) : Int) := by
        rw [ef, ← Int.natCast_ediv]
        congr 1
        show (f + 1) * fact f / (f + 1) = fact f
        exact Nat.mul_div_cancel_left _ (by omega)
      rw [e8]
      refine ⟨_, rfl, _, rfl, _, _, rfl, rfl, ⟨by omega, by omega⟩, ?_⟩
      dsimp only
      rw [esz]
      have eix : (rest : Int) / ((fact f : Nat) : Int) = ((rest / fact f : Nat) : Int) := by push_cast; rfl
      refine ⟨_, rfl, .inl ⟨rfl, _, .of est5⟩, _, rfl, .inl ⟨rfl, _, .of elf5⟩, _, rfl, _, rfl, _, _, rfl, rfl, ⟨by omega, by omega⟩, lf, _, _, rest / fact f, .int (sl : Int), rfl, rfl, elf5, ?_, ?_, ?_, ?_, ?_⟩
      · rw [eix]; exact Int.le_trans (by decide) (Int.natCast_nonneg _)
      · rw [eix]; omega
      · rw [eix, iv_len, h2]
        exact (ixN_seq (ixN_nat h1)).1
      · rw [iv_get?, h3]; rfl
      have els : (iv (begins 8 p)).eraseIdx (rest / fact f) = iv (begins 8 (p ++ [sl])) := by
        rw [← h6]
        exact map_eraseIdx9 _ _ _
      rw [els]
      refine ⟨st, _, _, rfl, rfl, by rw [upd_ne nlfs.symm]; exact est5, by rw [iv_len]; exact szl (by omega), ?_⟩
      refine ⟨_, rfl, _, rfl, _, _, rfl, rfl, (by show (0 : Int) < ((fact f : Nat) : Int); omega), ?_⟩
      refine ⟨p ++ [sl], rest % fact f, some (.int ((f + 1 : Nat) : Int)), ?_, same_mut (same_mut s5 nlfH) nstH, ?_, ?_, ?_, snoc_nd nd h5, snoc_lt lt h4, ?_, ?_⟩
      · rw [ef2]
        push_cast
        rfl
      · rw [upd_ne nlfs, upd_same]
      · rw [upd_same, iv_snoc]
      · rw [List.length_append, hpl]; rfl
      · rw [ef2]; exact h7
      · rw [ef2]; exact h8
    obtain ⟨p, rest, w8, rfl, s5, elf5, est5, hpl, nd, lt, hrest, hw⟩ := hP
    obtain ⟨hx, gp, shp⟩ := dig_end nd lt hpl hrest hw
    -- setting_by(8, 8, number), number_of
    refine ⟨_, rfl, 8, 8, num, p, rfl, by omega, by omega, by omega, by omega, hx, fun H6 p6 s6 n6 e6 => ⟨_, rfl, ?_⟩⟩
    have est6 := s6 _ _ est5
    refine ne_iv (x := p) (y := p) (.of e6) (.of est6) ⟨_, rfl, iteNS rfl ?_⟩
    refine ⟨_, rfl, st, p, 8, rfl, .of est6, gp, by omega, by omega, by omega, by omega, shp, fun H7 i7 s7 hi7 => ?_⟩
    rw [hpl] at hi7
    have e7 := wins_uniq hi7 hx
    subst e7
    refine ⟨_, rfl, rfl, _, rfl, iteNS rfl ?_⟩
    have sH7 := (s5.trans s6).trans s7
    refine ⟨8, 8, rfl, by omega, by omega, by omega, by omega, fun H8 s8 => ⟨rfl, _, rfl, iteNS (by rw [hm88]; rfl) ?_⟩⟩
    -- the last one
    refine ⟨_, rfl, _, 8, rfl, rfl, (by show (0 : Int) < 8; decide), 1, _, rfl, rfl, ?_⟩
    obtain ⟨so, eso, hso1, hso2⟩ : ∃ so : Nat, (1 : Int) + (i7 : Int) % 8 = (so : Int) ∧ 1 ≤ so ∧ so ≤ 8 := ⟨1 + i7 % 8, by push_cast; rfl, by omega, by omega⟩
    dsimp only
    rw [eso]
    refine ⟨_, rfl, 8, so, rfl, by omega, by omega, hso1, hso2, fun H9 s9 => ⟨_, 1, rfl, rfl, ?_⟩⟩
    have hpos : 1 ≤ hm 8 so := hm_pos hso1
    obtain ⟨la, ela⟩ : ∃ la, hm 8 so = la + 1 := ⟨hm 8 so - 1, by omega⟩
    dsimp only
    rw [show ((hm 8 so : Nat) : Int) - 1 = (la : Int) by omega]
    obtain ⟨x, hx9⟩ := wins_at (n := 8) (m := so) (i := la) (by omega)
    obtain ⟨hxl, gx, shx⟩ := wins_all (List.mem_of_getElem? hx9)
    refine ⟨_, rfl, _, rfl, 8, so, la, x, rfl, by omega, by omega, hso1, hso2, hx9, fun Ha pa sa na ea => ?_⟩
    refine ⟨_, rfl, _, rfl, pa, x, so, rfl, .of ea, gx, by omega, by omega, hso1, by omega, shx, fun Hb ib sb hib => ?_⟩
    rw [hxl] at hib
    have eb := wins_uniq hib hx9
    subst eb
    refine ⟨_, rfl, rfl, _, rfl, iteNS rfl ?_⟩
    have eb := sb _ _ ea
    refine ⟨_, rfl, _, rfl, _, rfl, pa, x, so, rfl, .of eb, gx, by omega, by omega, hso1, by omega, shx, fun Hc ic sc hic => ⟨sz (by simp), fun pc nc => ?_⟩⟩
    have ec := sc _ _ eb
    have uc := same_upd (o := .lst [V.ref pa, V.int (ic : Int)]) nc
    refine ⟨_, .a [.inr (castN x), .inl (ic : Int)], rfl, .lst (.of upd_same) (.cons (dp_row (.of (uc _ _ ec))) (.cons (.int _) .nil)), ?_, fun Hd sd => ⟨_, rfl, iteF ?_⟩⟩
    · show 1 + ((1 + (castN x).length) + (1 + 0)) ≤ 9000
      rw [List.length_map]
      omega
    have ed := sd _ _ (uc _ _ ec)
    refine ⟨_, rfl, _, rfl, pa, x, so, rfl, .of ed, gx, hso1, by omega, by omega, fun He y o J => ?_⟩
    have ho : o = none := J.none_iff.mpr shx
    subst ho
    obtain ⟨C, ty, k1, k2, _⟩ := j_is T J.at_
    refine ⟨.ref y, .ref T.All.C, .ref C, .ref T.All.C, true, rfl, .own _, ty, k2, _, rfl, iteF ?_⟩
    have sAll := (((((((sH7.trans s8).trans s9).trans sa).trans sb).trans sc).trans uc).trans sd).trans J.same
    refine lam_ref T (kd_number T) (hT.ext sAll) (fun Hf Ef Qf ef qf => ?_) fun Hf pf ef tf epf => ?_
    · exact ⟨_, rfl, _, rfl, _, 1, rfl, rfl, 8, so, _, rfl, by omega, by omega, hso1, hso2, .inr ⟨_, rfl, .inr (by omega)⟩, qf⟩
    refine ⟨2, rfl, fun Hg pg sg epg => ?_⟩
    refine eq_bl (x := dueB 2) (y := dueB 2) (.of (sg _ _ epf)) (.of epg) ?_
    rw [decide_eq_true rfl]
    exact q _ ((LamX.ExtN.of sAll).trans (ef.trans (.of sg))) (tf.ext sg)
end
end Sb
namespace Sb
open PySem PySem.Spec PyProof.Rows L2
/-! ### rings and answers decided -/
def ringB (ns q : List Nat) : Bool := !q.isEmpty && q.all (fun x => decide (x < ns.length)) && decide (q = ringOf ns (q.headD 0))
theorem ringB_iff {ns : List Nat} (g : Good ns) (q : List Nat) : ringB ns q = true ↔ RingI ns (castN q) := by
  unfold ringB
  cases q with
  | nil =>
    constructor
    · intro h; simp at h
    · intro h; exact absurd rfl (ringI_steps.mp h).1
  | cons x r =>
    rw [Bool.and_eq_true, Bool.and_eq_true, List.all_eq_true, decide_eq_true_iff]
    constructor
    · rintro ⟨⟨_, lt⟩, e⟩
      have hx : x < ns.length := by simpa using lt x List.mem_cons_self
      rw [e]
      exact ringOf_ringI g hx
    · intro h
      obtain ⟨k, hk, e, h0⟩ := ringI_of g h
      have e2 : x :: r = ringOf ns k := castN_inj e
      have hx : x = k := by
        have : some (x : Int) = some (k : Int) := h0
        have := Option.some.inj this
        omega
      subst hx
      refine ⟨⟨rfl, fun y hy => ?_⟩, e2⟩
      rw [decide_eq_true_iff]
      exact ringOf_lt g hk (by rw [← e2]; exact hy)
def barB (ns : List Nat) (m : Nat) (rs : List (List Nat)) : Bool := rs.all (ringB ns) && (match rs with | [a] => decide (2 * m < a.length) | [a, b] => a.all (fun x => !b.contains x) && decide (m < a.length) && decide (m < b.length) | _ => false)
theorem barB_iff {ns : List Nat} (g : Good ns) (m : Nat) (rs : List (List Nat)) : barB ns m rs = true ↔ BarD ns m (rs.map castN) := by
  have hall : rs.all (ringB ns) = true ↔ ∀ r ∈ rs.map castN, RingI ns r := by
    rw [List.all_eq_true]
    constructor
    · intro h r hr
      obtain ⟨q, hq, rfl⟩ := List.mem_map.mp hr
      exact (ringB_iff g q).mp (h q hq)
    · intro h q hq
      exact (ringB_iff g q).mpr (h _ (List.mem_map.mpr ⟨q, hq, rfl⟩))
  unfold barB BarD
  rw [Bool.and_eq_true, hall]
  refine and_congr_right fun _ => ?_
  match rs with
  | [] =>
    constructor
    · intro h; cases h
    · rintro (⟨a, e, _⟩ | ⟨a, b, e, _⟩) <;> cases e
  | [a] =>
    show decide (2 * m < a.length) = true ↔ _
    rw [decide_eq_true_iff]
    constructor
    · intro h
      exact .inl ⟨castN a, rfl, by rw [List.length_map]; exact h⟩
    · rintro (⟨a', e, h⟩ | ⟨a', b', e, _⟩)
      · cases e
        rw [List.length_map] at h
        exact h
      · cases e
  | [a, b] =>
    show (a.all (fun x => !b.contains x) && decide (m < a.length) && decide (m < b.length)) = true ↔ _
    rw [Bool.and_eq_true, Bool.and_eq_true, decide_eq_true_iff, decide_eq_true_iff, List.all_eq_true]
    have hd : (∀ x ∈ a, (!b.contains x) = true) ↔ ∀ x ∈ castN a, x ∉ castN b := by
      constructor
      · intro h x hx
        obtain ⟨y, hy, rfl⟩ := List.mem_map.mp hx
        have := h y hy
        rw [castN_mem]
        simpa using this
      · intro h y hy
        have := h (y : Int) (List.mem_map.mpr ⟨y, hy, rfl⟩)
        rw [castN_mem] at this
        simpa using this
    rw [hd]
    constructor
    · rintro ⟨⟨h1, h2⟩, h3⟩
      exact .inr ⟨castN a, castN b, rfl, h1, by rw [List.length_map]; exact h2, by rw [List.length_map]; exact h3⟩
    · rintro (⟨a', e, h⟩ | ⟨a', b', e, h1, h2, h3⟩)
      · cases e
      · cases e
        rw [List.length_map] at h2 h3
        exact ⟨⟨h1, h2⟩, h3⟩
  | a :: b :: c :: l =>
    constructor
    · intro h; cases h
    · rintro (⟨a, e, _⟩ | ⟨a, b, e, _⟩) <;> cases e
def mendB (ns : List Nat) (m : Nat) (i j : Int) : Bool := (decide (0 ≤ i) && decide (i < (ns.length : Int))) && ((decide (0 ≤ j) && decide (j < (ns.length : Int))) && (longOf (exch ns i.toNat j.toNat) m).isEmpty)
theorem mendB_iff {ns : List Nat} (g : Good ns) (m : Nat) (i j : Int) : mendB ns m i j = true ↔ MendD ns m i j := by
  unfold mendB MendD
  rw [Bool.and_eq_true, Bool.and_eq_true, Bool.and_eq_true, Bool.and_eq_true, decide_eq_true_iff, decide_eq_true_iff, decide_eq_true_iff, decide_eq_true_iff]
  refine and_congr_right fun h1 => and_congr_right fun h2 => ?_
  rw [List.isEmpty_iff]
  exact longOf_nil (exch_good g (by omega) (by omega))
theorem iff_bool {b c : Bool} {p : Prop} (h1 : b = true ↔ p) (h2 : c = true ↔ p) : b = c := by
  rw [Bool.eq_iff_iff]; exact h1.trans h2.symm
def B1 : List Nat := [1, 2, 3, 4, 0, 6, 5]
def B2 : List Nat := [3, 2, 1, 4, 0, 6, 5]
theorem gB1 : Good B1 := ⟨by decide⟩
theorem gB2 : Good B2 := ⟨by decide⟩
theorem g10 : Good [1, 0] := ⟨by decide⟩
theorem g0 : Good [0] := ⟨by decide⟩
theorem fB1 : ∀ h, h < 7 → 4 < (ringOf B1 h).length → (ringOf B1 h).length = 5 ∧ ringB B1 (ringOf B1 h) = true ∧ ringB B1 ((ringOf B1 h).drop 2 ++ (ringOf B1 h).take 2) = true ∧ ringB B1 (ringOf B1 h).reverse = false ∧ ringB B2 (ringOf B1 h) = false := by decide +kernel
theorem sq_cast {K : PySem.W.Frag} {H : Hp} {l : Addr} {q : List Nat} (h : SqL K H l (iv q)) : SqL K H l ((castN q).map V.int) := by
  rw [iv_eq] at h
  exact h
section
variable {P : Program} {w : World} {K : PySem.W.Frag} {mg : Str → Option Value} {base : Heap}
theorem lk_shows1 {y : Str} {v : V} (h : (("shows" : Str) == y) = false) : List.lookup ("shows" : Str) [(y, v)] = none := by simp only [List.lookup, h]
theorem lk_shows2 {y z : Str} {v u : V} (h : (("shows" : Str) == y) = false) (h2 : (("shows" : Str) == z) = false) : List.lookup ("shows" : Str) [(y, v), (z, u)] = none := by simp only [List.lookup, h, h2]
/-- Long(..).shows(..) -/
theorem mk_long (T : Tx K mg) {t u : TA} {σ : L2.St} {H : Hp} {Q : VK} {q : List Int} {ns : List Nat} {m : Nat} (ht : ∀ k : List V → Hp → Prop, (∀ H1 c, Same H H1 → SqL K H1 c (q.map V.int) → k [.ref c] H1) → t σ H k)
    (hu : ∀ (H1 : Hp) (k : List V → Hp → Prop), Same H H1 → (∀ H2 b, Same H1 H2 → SqL K H2 b (iv ns) → k [.ref b, .int (m : Int)] H2) → u σ H1 k) (h1 : ns.length ≤ 100) (h2 : q.length ≤ 4000) (fin : Says H Q (RingI ns q ∧ m < q.length)) :
    tMeth T.Long.C "shows" (spLongS T.Long.C K) [] E0 (tMake T.Long.C (spLongI T.Long.C K) [] E0 t) u σ H Q := by
  refine ht _ fun H1 c s1 hc x dx nx ndx hne => ?_
  have sx : Same H1 (upd (upd H1 dx (.own x)) x (.ins T.Long.C dx [])) := fun b u hb => by
    rw [upd_ne (ne_of_none hb nx), upd_ne (ne_of_none hb ndx)]
    exact hb
  refine ⟨x, c, dx, _, rfl, upd_same, sx.seq hc, fun l nl => ⟨rfl, ?_⟩⟩
  have nxl : l ≠ x := fun e => by rw [e, upd_same] at nl; cases nl
  have sl := same_upd (o := .lst (q.map V.int)) nl
  have s2 : Same H1 (upd (upd (upd (upd H1 dx (.own x)) x (.ins T.Long.C dx [])) l (.lst (q.map V.int))) x (.ins T.Long.C dx [("ring", .ref l)])) := same_mut (sx.trans sl) nx
  have e1 : (upd (upd (upd (upd H1 dx (.own x)) x (.ins T.Long.C dx [])) l (.lst (q.map V.int))) x (.ins T.Long.C dx [("ring", .ref l)])) x = some (.ins T.Long.C dx [("ring", .ref l)]) := upd_same
  have e2 : (upd (upd (upd (upd H1 dx (.own x)) x (.ins T.Long.C dx [])) l (.lst (q.map V.int))) x (.ins T.Long.C dx [("ring", .ref l)])) l = some (.lst (q.map V.int)) := by rw [upd_ne nxl, upd_same]
  generalize upd (upd (upd (upd H1 dx (.own x)) x (.ins T.Long.C dx [])) l (.lst (q.map V.int))) x (.ins T.Long.C dx [("ring", .ref l)]) = H2 at *
  refine ⟨x, dx, _, rfl, e1, lk_shows1 (by decide +kernel), hu H2 _ (s1.trans s2) fun H3 b s3 hb => ?_⟩
  exact ⟨x, b, l, dx, ns, q, m, rfl, s3 _ _ e1, .of (s3 _ _ e2), hb, h1, h2, fin.back ((s1.trans s2).trans s3)⟩
/-- Mend(..).shows(..) -/
theorem mk_mend (T : Tx K mg) {t u : TA} {σ : L2.St} {H : Hp} {Q : VK} {i j : Int} {ns : List Nat} {m : Nat} (g : Good ns) (ht : ∀ k : List V → Hp → Prop, k [.int i, .int j] H → t σ H k)
    (hu : ∀ (H1 : Hp) (k : List V → Hp → Prop), Same H H1 → (∀ b, SqL K H1 b (iv ns) → k [.ref b, .int (m : Int)] H1) → u σ H1 k) (h1 : ns.length ≤ 100) (fin : Says H Q (MendD ns m i j)) :
    tMeth T.Mend.C "shows" (spMendS T.Mend.C K) [] E0 (tMake T.Mend.C (spMendI T.Mend.C) [] E0 t) u σ H Q := by
  refine ht _ fun x dx nx ndx hne => ⟨x, dx, .int i, .int j, rfl, upd_same, fun H2 e2 k2 => ⟨rfl, ?_⟩⟩
  have s2 : Same H H2 := fun b u hb => by
    have hbx : b ≠ x := ne_of_none hb nx
    rw [k2 b hbx, upd_ne hbx, upd_ne (ne_of_none hb ndx)]
    exact hb
  refine ⟨x, dx, _, rfl, e2, lk_shows2 (by decide +kernel) (by decide +kernel), hu H2 _ s2 fun b hb => ?_⟩
  exact ⟨x, b, dx, ns, i, j, m, rfl, e2, hb, g, h1, fin.back s2⟩
/-- Barred(..).shows(..) -/
theorem mk_bar (T : Tx K mg) {t u : TA} {σ : L2.St} {H : Hp} {Q : VK} {l0 : Addr} {ps0 : List Addr} {rs : List (List Int)} {ns : List Nat} {m : Nat} (g : Good ns) (ht : ∀ k : List V → Hp → Prop, k [.ref l0] H → t σ H k) (S : SeesI K H l0 ps0 rs)
    (hu : ∀ (H1 : Hp) (k : List V → Hp → Prop), Same H H1 → (∀ b, SqL K H1 b (iv ns) → k [.ref b, .int (m : Int)] H1) → u σ H1 k) (h1 : ns.length ≤ 100) (h2 : rs.length ≤ 1000) (h3 : ∀ r ∈ rs, r.length ≤ 4000) (fin : Says H Q (BarD ns m rs)) :
    tMeth T.Barred.C "shows" (spBarS T.Barred.C K) [] E0 (tMake T.Barred.C (spBarI T.Barred.C K) [] E0 t) u σ H Q := by
  refine ht _ fun x dx nx ndx hne => ?_
  have sx : Same H (upd (upd H dx (.own x)) x (.ins T.Barred.C dx [])) := fun b u hb => by
    rw [upd_ne (ne_of_none hb nx), upd_ne (ne_of_none hb ndx)]
    exact hb
  refine ⟨x, dx, l0, ps0, rs, rfl, upd_same, S.same sx, h2, fun H2 l ps e2 k2 nl el R hl => ⟨rfl, ?_⟩⟩
  have s2 : Same H H2 := fun b u hb => k2 b u (ne_of_none hb nx) (sx _ _ hb)
  refine ⟨x, dx, _, rfl, e2, lk_shows1 (by decide +kernel), hu H2 _ s2 fun b hb => ?_⟩
  exact ⟨x, b, dx, l, ps, ns, rs, m, rfl, e2, R.seesI el, hb, g, h1, h2, h3, fin.back s2⟩
theorem far_no : ¬ RingI [0] ((List.range 3000).map fun (n : Nat) => (n : Int)) := fun h => by
  have := ((ringI_steps.mp h).2.2.1 ((1 : Nat) : Int) (List.mem_map.mpr ⟨1, List.mem_range.mpr (by decide), rfl⟩)).2
  exact absurd this (by decide)
theorem SqL.of2 {H H' : Hp} {a : Addr} {xs : List V} (s : Same H H') (h : H a = some (.lst xs)) : SqL K H' a xs := .of (s _ _ h)
/-! ### _law_fields_right -/
def spFields : Sp := fun vs H Q _ => vs = [] ∧ ∀ H', Same H H' → Q (.bl true) H'
abbrev n_law_fields_right : List Str := ["_law_boxes", "_law_found", "_law_kept", "_law_rows", "_law_ring", "_law_good", "_law_told", "_law_far", "_law_two", "_law_one", "_law_other"]
theorem sc_law_fields_right : FnScope n_law_fields_right [] (defScope s_law_fields_right) := ⟨rfl, rfl, rfl, by decide +kernel, rfl, by decide +kernel, by decide +kernel⟩
theorem ok_law_fields_right (T : Tx K mg) : FnOk P w K mg base CX0 6 T.law_fields_right.f T.law_fields_right.fd [] spFields := by
  refine T.law_fields_right.F.ok sc_law_fields_right (fun vs H Q E h => ?_) (fun cdv A outer s H vs Q E hr h => ?_)
  · obtain ⟨rfl, _⟩ := h
    rfl
  · obtain ⟨rfl, q⟩ := h
    refine ⟨_, (pss_cons (ps_set (i := 0) sc_law_fields_right.nd rfl (.inl rfl) (pe_lst (pa_cons pe_int (pa_cons pe_int (pa_cons pe_int (pa_cons pe_int (pa_cons pe_int (pa_cons pe_int (pa_cons pe_int pa_nil)))))))))
    (pss_cons (ps_set (i := 1) sc_law_fields_right.nd rfl (.inl rfl) (pe_df T.judged (ok_judged T) (hr.mono (by decide)) (pa_cons (pv 0) (pa_cons pe_int pa_nil))))
    (pss_cons (ps_set (i := 2) sc_law_fields_right.nd rfl (.inl rfl) (pe_callTy call_list_of (by rfl) T.m_list (by decide +kernel) (pa_cons (pe_fld (pv 1) rfl) pa_nil)))
    (pss_cons (ps_set (i := 3) sc_law_fields_right.nd rfl (.inl rfl) (pe_lst (pa_cons (pe_tup (pa_cons (pe_op op_cat (pe_slice sl_list (pv 2) (po_some pe_int) po_none) (pe_slice sl_list (pv 2) po_none (po_some pe_int))) (pa_cons pe_bl pa_nil))) (pa_cons (pe_tup (pa_cons (pe_revL (pv 2)) (pa_cons pe_bl pa_nil))) (pa_cons (pe_tup (pa_cons (pe_slice sl_list (pv 2) po_none (po_some pe_int)) (pa_cons pe_bl pa_nil))) (pa_cons (pe_tup (pa_cons (pe_lst (pa_cons pe_int (pa_cons pe_int pa_nil))) (pa_cons pe_bl pa_nil))) pa_nil))))))
    (pss_cons (ps_for PassesOwn.never rfl (pi_list (pe_op op_cat (pv 3) (pe_lst (pa_cons (pe_tup (pa_cons (pe_lst pa_nil) (pa_cons pe_bl pa_nil))) pa_nil)))) (pg_tup rfl (pgs_cons (pg_name (i := 4) sc_law_fields_right.nd rfl (.inl rfl)) (pgs_cons (pg_name (i := 5) sc_law_fields_right.nd rfl (.inl rfl)) pgs_nil)))
      (pss_cons (ps_expr (pe_bm0 PySem.F.plainAttrs_list PySem.F.slot_list_clear PySem.F.type_list_clear mt_clear (pe_fld (pv 1) rfl)))
      (pss_cons (ps_expr (pe_bm PySem.F.plainAttrs_list PySem.F.slot_list_extend PySem.F.type_list_extend mt_extend (pe_fld (pv 1) rfl) (pa_cons (pv 4) pa_nil)))
      (pss_one (ps_if (pt_cmpR op_ne (pe_meth (pv 1) T.Long.cl T.Long_shows.meth (ok_Long_shows T) (hr.mono (by decide)) T.Long_shows.b .nil pass0 (pa_cons (pv 0) (pa_cons pe_int pa_nil))) (pv 5) (nomark _))
        (pss_one (ps_ret pe_bl))
        pss_nil)))))
    (pss_cons (ps_expr (pe_bm0 PySem.F.plainAttrs_list PySem.F.slot_list_clear PySem.F.type_list_clear mt_clear (pe_fld (pv 1) rfl)))
    (pss_cons (ps_expr (pe_bm PySem.F.plainAttrs_list PySem.F.slot_list_extend PySem.F.type_list_extend mt_extend (pe_fld (pv 1) rfl) (pa_cons (pv 2) pa_nil)))
    (pss_cons (ps_set (i := 6) sc_law_fields_right.nd rfl (.inl rfl) (pe_df T.mended (ok_mended T) (hr.mono (by decide)) (pa_cons (pv 0) (pa_cons pe_int pa_nil))))
    (pss_cons (ps_if (PW.pt (pw_or (pt_cmpR (op_neD hr.units) (pe_lst (pa_cons (pe_meth (pv 1) T.Long.cl T.Long_shows.meth (ok_Long_shows T) (hr.mono (by decide)) T.Long_shows.b .nil pass0 (pa_cons (pv 0) (pa_cons pe_int pa_nil))) (pa_cons (pe_meth (pv 1) T.Long.cl T.Long_shows.meth (ok_Long_shows T) (hr.mono (by decide)) T.Long_shows.b .nil pass0 (pa_cons (pv 0) (pa_cons pe_int pa_nil))) pa_nil))) (pe_lst (pa_cons pe_bl (pa_cons pe_bl pa_nil))) (nomark _)) (pw_or1 (pt_not (pt_val (pe_callB call_isi (by rfl) T.m_isinstance (by decide +kernel) (pa_cons (pv 6) (pa_cons (pe_glob (v := .ref T.Barred.C) rfl T.Barred.g rfl) pa_nil))))))))
      (pss_one (ps_ret pe_bl))
      pss_nil)
    (pss_cons (ps_asg (pe_tup (pa_cons (pe_ix ix_list (pv 0) pe_int (fun _ _ => rfl)) (pa_cons (pe_ix ix_list (pv 0) pe_int (fun _ _ => rfl)) pa_nil))) (pg_tup rfl (pgs_cons (pg_sub (pv 0) pe_int set_list) (pgs_cons (pg_sub (pv 0) pe_int set_list) pgs_nil))))
    (pss_cons (ps_if (PW.pt (pw_or (pt_cmpR op_notBl (pe_meth (pv 1) T.Long.cl T.Long_shows.meth (ok_Long_shows T) (hr.mono (by decide)) T.Long_shows.b .nil pass0 (pa_cons (pv 0) (pa_cons pe_int pa_nil))) pe_bl (nomark _)) (pw_or1 (pt_cmpR (op_neD hr.units) (pe_df T.opened (ok_opened T) (hr.mono (by decide)) (pa_cons (pv 0) (pa_cons pe_int pa_nil))) (pe_lst (pa_cons pe_int (pa_cons pe_int (pa_cons pe_int pa_nil)))) (nomark _)))))
      (pss_one (ps_ret pe_bl))
      pss_nil)
    (pss_cons (ps_if (PW.pt (pw_or (pt_cmpR (op_neD hr.units) (pe_df T.rings (ok_rings T) (hr.mono (by decide)) (pa_cons (pv 0) pa_nil)) (pe_lst (pa_cons (pe_lst (pa_cons pe_int (pa_cons pe_int (pa_cons pe_int pa_nil)))) (pa_cons (pe_lst (pa_cons pe_int (pa_cons pe_int pa_nil))) (pa_cons (pe_lst (pa_cons pe_int (pa_cons pe_int pa_nil))) pa_nil)))) (nomark _)) (pw_or1 (pt_not (pt_val (pe_callB call_isi (by rfl) T.m_isinstance (by decide +kernel) (pa_cons (pe_df T.judged (ok_judged T) (hr.mono (by decide)) (pa_cons (pv 0) (pa_cons pe_int pa_nil))) (pa_cons (pe_glob (v := .ref T.All.C) rfl T.All.g rfl) pa_nil))))))))
      (pss_one (ps_ret pe_bl))
      pss_nil)
    (pss_cons (ps_if (pt_cmpR (op_neD hr.units) (pe_lst (pa_cons (pe_meth (pe_make (T.Mend.mak T.Mend_init) (ok_Mend_init T) (hr.mono (by decide)) (by rfl) T.Mend.g T.Mend_init.b .nil pass0 (pa_cons pe_int (pa_cons pe_int pa_nil))) T.Mend.cl T.Mend_shows.meth (ok_Mend_shows T) (hr.mono (by decide)) T.Mend_shows.b .nil pass0 (pa_cons (pv 0) (pa_cons pe_int pa_nil))) (pa_cons (pe_meth (pe_make (T.Mend.mak T.Mend_init) (ok_Mend_init T) (hr.mono (by decide)) (by rfl) T.Mend.g T.Mend_init.b .nil pass0 (pa_cons pe_int (pa_cons pe_int pa_nil))) T.Mend.cl T.Mend_shows.meth (ok_Mend_shows T) (hr.mono (by decide)) T.Mend_shows.b .nil pass0 (pa_cons (pv 0) (pa_cons pe_int pa_nil))) pa_nil))) (pe_lst (pa_cons pe_bl (pa_cons pe_bl pa_nil))) (nomark _))
      (pss_one (ps_ret pe_bl))
      pss_nil)
    (pss_cons (ps_for PassesOwn.never rfl (pi_tup (pe_tup (pa_cons (pe_tup (pa_cons (pe_lst (pa_cons (pe_lst (pa_cons pe_int (pa_cons pe_int pa_nil))) (pa_cons (pe_lst (pa_cons pe_int (pa_cons pe_int pa_nil))) pa_nil))) (pa_cons pe_bl pa_nil))) (pa_cons (pe_tup (pa_cons (pe_lst (pa_cons (pe_lst (pa_cons pe_int (pa_cons pe_int (pa_cons pe_int pa_nil)))) pa_nil)) (pa_cons pe_bl pa_nil))) (pa_cons (pe_tup (pa_cons (pe_lst (pa_cons (pe_lst (pa_cons pe_int (pa_cons pe_int pa_nil))) (pa_cons (pe_lst (pa_cons pe_int (pa_cons pe_int pa_nil))) pa_nil))) (pa_cons pe_bl pa_nil))) (pa_cons (pe_tup (pa_cons (pe_lst (pa_cons (pe_lst (pa_cons pe_int (pa_cons pe_int pa_nil))) pa_nil)) (pa_cons pe_bl pa_nil))) pa_nil)))))) (pg_tup rfl (pgs_cons (pg_name (i := 3) sc_law_fields_right.nd rfl (.inl rfl)) (pgs_cons (pg_name (i := 5) sc_law_fields_right.nd rfl (.inl rfl)) pgs_nil)))
      (pss_one (ps_if (pt_cmpR op_ne (pe_meth (pe_make (T.Barred.mak T.Barred_init) (ok_Barred_init T) (hr.mono (by decide)) (by rfl) T.Barred.g T.Barred_init.b .nil pass0 (pa_cons (pv 3) pa_nil)) T.Barred.cl T.Barred_shows.meth (ok_Barred_shows T) (hr.mono (by decide)) T.Barred_shows.b .nil pass0 (pa_cons (pv 0) (pa_cons pe_int pa_nil))) (pv 5) (nomark _))
        (pss_one (ps_ret pe_bl))
        pss_nil)))
    (pss_cons (ps_set (i := 7) sc_law_fields_right.nd rfl (.inl rfl) (pe_listRg rfl (by rfl) T.m_list (prg_1 (by rfl) T.m_range pe_int)))
    (pss_cons (ps_if (pt_cmpR op_notBl (pe_meth (pe_make (T.Long.mak T.Long_init) (ok_Long_init T) (hr.mono (by decide)) (by rfl) T.Long.g T.Long_init.b .nil pass0 (pa_cons (pv 7) pa_nil)) T.Long.cl T.Long_shows.meth (ok_Long_shows T) (hr.mono (by decide)) T.Long_shows.b .nil pass0 (pa_cons (pe_lst (pa_cons pe_int pa_nil)) (pa_cons pe_int pa_nil))) pe_bl (nomark _))
      (pss_one (ps_ret pe_bl))
      pss_nil)
    (pss_cons (ps_set (i := 8) sc_law_fields_right.nd rfl (.inr rfl) (pe_lst (pa_cons pe_int (pa_cons pe_int pa_nil))))
    (pss_cons (ps_if (pt_cmpR (op_neD hr.units) (pe_lst (pa_cons (pe_meth (pe_make (T.Long.mak T.Long_init) (ok_Long_init T) (hr.mono (by decide)) (by rfl) T.Long.g T.Long_init.b .nil pass0 (pa_cons (pe_lst (pa_cons pe_int (pa_cons pe_int pa_nil))) pa_nil)) T.Long.cl T.Long_shows.meth (ok_Long_shows T) (hr.mono (by decide)) T.Long_shows.b .nil pass0 (pa_cons (pv 8) (pa_cons pe_int pa_nil))) (pa_cons (pe_meth (pe_make (T.Long.mak T.Long_init) (ok_Long_init T) (hr.mono (by decide)) (by rfl) T.Long.g T.Long_init.b .nil pass0 (pa_cons (pe_lst (pa_cons pe_int (pa_cons pe_int pa_nil))) pa_nil)) T.Long.cl T.Long_shows.meth (ok_Long_shows T) (hr.mono (by decide)) T.Long_shows.b .nil pass0 (pa_cons (pv 8) (pa_cons pe_int pa_nil))) pa_nil))) (pe_lst (pa_cons pe_bl (pa_cons pe_bl pa_nil))) (nomark _))
      (pss_one (ps_ret pe_bl))
      pss_nil)
    (pss_one (ps_ret (pe_cmpR (op_eqD hr.units) (pe_lc (own := [("_law_one", 9), ("_law_other", 10)]) (g := gTup K 2 (gCons (gName 9) (gCons (gName 10) gNil))) rfl sc_law_fields_right.nd (pi_tup (pe_tup (pa_cons (pe_tup (pa_cons (pe_un un_neg pe_int) (pa_cons pe_int pa_nil))) (pa_cons (pe_tup (pa_cons pe_int (pa_cons pe_int pa_nil))) (pa_cons (pe_tup (pa_cons pe_int (pa_cons pe_int pa_nil))) pa_nil))))) (blkOk_by (own := [("_law_one", 9), ("_law_other", 10)]) (N := n_law_fields_right) (sc := defScope s_law_fields_right) (by decide +kernel)) (fun _ _ _ _ _ => (pg_tup rfl (pgs_cons (pg_name (i := 9) sc_law_fields_right.nd rfl (.inl rfl)) (pgs_cons (pg_name (i := 10) sc_law_fields_right.nd rfl (.inl rfl)) pgs_nil)))) (fun _ _ _ _ _ => pts_nil) (fun _ _ _ _ _ => (pe_meth (pe_make (T.Mend.mak T.Mend_init) (ok_Mend_init T) (hr.mono (by decide)) (by rfl) T.Mend.g T.Mend_init.b .nil pass0 (pa_cons (pv 9) (pa_cons (pv 10) pa_nil))) T.Mend.cl T.Mend_shows.meth (ok_Mend_shows T) (hr.mono (by decide)) T.Mend_shows.b .nil pass0 (pa_cons (pv 8) (pa_cons pe_int pa_nil))))) (pe_lst (pa_cons pe_bl (pa_cons pe_bl (pa_cons pe_bl pa_nil)))) (nomark _)))))))))))))))))))))), ?_⟩
    refine ⟨sz (by simp), fun b nb => ?_⟩
    generalize hG : upd _ b _ = G0
    obtain ⟨u0, f0⟩ := gen_upd nb hG
    clear hG
    have eb : G0 b = some (.lst (iv B1)) := f0
    refine ⟨_, rfl, b, B1, 4, rfl, .of eb, gB1, by decide, by decide, by decide, fun H1 x o J => ?_⟩
    obtain ⟨r, rfl⟩ : ∃ r, o = some r := by
      cases o with
      | none => exact absurd ((longOf_nil gB1).mpr (J.none_iff.mp rfl)) (by decide +kernel)
      | some r => exact ⟨r, rfl⟩
    obtain ⟨⟨h, hh, er⟩, hl⟩ := J.ring r rfl
    obtain ⟨dx, l, ex, el, _⟩ := J.at_
    have nl : G0 l = none := J.fresh dx l ex
    have eb1 := J.same _ _ eb
    have su1 := u0.trans J.same
    have nlH : H l = none := u0.free nl
    subst er
    rw [List.length_map] at hl
    obtain ⟨h5, hr1, hr2, hr3, hr4⟩ := fB1 h hh hl
    rw [← iv_eq] at el
    generalize ringOf B1 h = rr at *
    have nbl : b ≠ l := ne_of_none eb nl
    have nxl : x ≠ l := fun e => by rw [e, el] at ex; cases ex
    clear J nl hl hh
    -- kept
    refine ⟨_, rfl, x, T.Long.C, dx, _, _, rfl, ex, T.Long.cl, T.n_Long_ring, lk_ring, l, _, rfl, .inl (.of el), fun kp n2 => ?_⟩
    generalize hG : upd _ kp _ = G2
    obtain ⟨u2, ekp⟩ := gen_upd n2 hG
    clear hG
    have nkl : kp ≠ l := (ne_of_none el n2).symm
    have el2 := u2 _ _ el
    refine ⟨_, rfl, 2, rfl, kp, _, rfl, .of ekp, fun c1 nn1 => ?_⟩
    generalize hG : upd _ c1 _ = G3
    obtain ⟨u3, f3⟩ := gen_upd nn1 hG
    clear hG
    refine ⟨_, rfl, 2, rfl, kp, _, rfl, .of (u3 _ _ ekp), fun c2 nn2 => ?_⟩
    generalize hG : upd _ c2 _ = G4
    obtain ⟨u4, f4⟩ := gen_upd nn2 hG
    clear hG
    rw [show (2 : Int) = ((2 : Nat) : Int) from rfl, cut_since] at f3
    rw [show (2 : Int) = ((2 : Nat) : Int) from rfl, cut_to] at f4
    refine ⟨c1, c2, _, _, rfl, rfl, u4 _ _ f3, f4, (by rw [List.length_drop, List.length_take, iv_len]; exact sz (by omega)), fun c3 n5 => ?_⟩
    generalize hG : upd _ c3 _ = G5
    obtain ⟨u5, f5⟩ := gen_upd n5 hG
    clear hG
    rw [show (iv rr).drop 2 ++ (iv rr).take 2 = iv (rr.drop 2 ++ rr.take 2) by
      show _ = List.map _ _
      rw [List.map_append, List.map_drop, List.map_take]] at f5
    have v5 := ((u2.trans u3).trans u4).trans u5
    have w3 : c3 ≠ l := (ne_of_none (((u2.trans u3).trans u4) _ _ el) n5).symm
    refine ⟨sz (by simp), fun t1 nn3 => ?_⟩
    generalize hG : upd _ t1 _ = G6
    obtain ⟨u6, f6⟩ := gen_upd nn3 hG
    clear hG
    have v6 := v5.trans u6
    have k5 := ((u3.trans u4).trans u5).trans u6
    refine ⟨_, rfl, kp, _, rfl, .of (k5 _ _ ekp), fun c4 n7 => ?_⟩
    generalize hG : upd _ c4 _ = G7
    obtain ⟨u7, f7⟩ := gen_upd n7 hG
    clear hG
    rw [rev_iv] at f7
    have w4 : c4 ≠ l := (ne_of_none (v6 _ _ el) n7).symm
    refine ⟨sz (by simp), fun t2 nn4 => ?_⟩
    generalize hG : upd _ t2 _ = G8
    obtain ⟨u8, f8⟩ := gen_upd nn4 hG
    clear hG
    have v8 := (v6.trans u7).trans u8
    have k8 := (k5.trans u7).trans u8
    refine ⟨_, rfl, 4, rfl, kp, _, rfl, .of (k8 _ _ ekp), fun c5 n9 => ?_⟩
    generalize hG : upd _ c5 _ = G9
    obtain ⟨u9, f9⟩ := gen_upd n9 hG
    clear hG
    rw [show (4 : Int) = ((4 : Nat) : Int) from rfl, cut_to, ← List.map_take] at f9
    have w5 : c5 ≠ l := (ne_of_none (v8 _ _ el) n9).symm
    refine ⟨sz (by simp), fun t3 nn5 => ?_⟩
    generalize hG : upd _ t3 _ = G10
    obtain ⟨u10, f10⟩ := gen_upd nn5 hG
    clear hG
    have v10 := (v8.trans u9).trans u10
    refine ⟨sz (by simp), fun c6 n11 => ?_⟩
    generalize hG : upd _ c6 _ = G11
    obtain ⟨u11, f11⟩ := gen_upd n11 hG
    clear hG
    have w6 : c6 ≠ l := (ne_of_none (v10 _ _ el) n11).symm
    refine ⟨sz (by simp), fun t4 nn6 => ?_⟩
    generalize hG : upd _ t4 _ = G12
    obtain ⟨u12, f12⟩ := gen_upd nn6 hG
    clear hG
    refine ⟨sz (by simp), fun ro nn7 => ?_⟩
    generalize hG : upd _ ro _ = G13
    obtain ⟨u13, f13⟩ := gen_upd nn7 hG
    clear hG
    have v13 := ((v10.trans u11).trans u12).trans u13
    refine ⟨_, rfl, Nat.zero_le _, fun c7 n14 => ?_⟩
    generalize hG : upd _ c7 _ = G14
    obtain ⟨u14, f14⟩ := gen_upd n14 hG
    clear hG
    have w7 : c7 ≠ l := (ne_of_none (v13 _ _ el) n14).symm
    refine ⟨sz (by simp), fun t5 nn8 => ?_⟩
    generalize hG : upd _ t5 _ = G15
    obtain ⟨u15, f15⟩ := gen_upd nn8 hG
    clear hG
    refine ⟨sz (by simp), fun ww nn9 => ?_⟩
    generalize hG : upd _ ww _ = G16
    obtain ⟨u16, f16⟩ := gen_upd nn9 hG
    clear hG
    have u1316 := (u14.trans u15).trans u16
    refine ⟨ro, ww, _, _, rfl, rfl, u1316 _ _ f13, f16, sz (by simp), fun it n17 => ?_⟩
    generalize hG : upd _ it _ = G17
    obtain ⟨u17, f17⟩ := gen_upd n17 hG
    clear hG
    have nitl : it ≠ l := (ne_of_none (u1316 _ _ (v13 _ _ el)) n17).symm
    have z16 := u16.trans u17
    have z15 := u15.trans z16
    have z14 := u14.trans z15
    have z13 := u13.trans z14
    have z12 := u12.trans z13
    have z11 := u11.trans z12
    have z10 := u10.trans z11
    have z9 := u9.trans z10
    have z8 := u8.trans z9
    have z7 := u7.trans z8
    have z6 := u6.trans z7
    have z5 := u5.trans z6
    have z2 := (u3.trans u4).trans z5
    have z1 := u2.trans z2
    have el17 := z1 _ _ el
    have ex17 := z1 _ _ ex
    have eb17 := z1 _ _ eb1
    have ekp17 := z2 _ _ ekp
    have su17 := su1.trans z1
    have hit : ∀ (i : Nat) (v : V), ([V.ref t1, V.ref t2, V.ref t3, V.ref t4] ++ [V.ref t5])[i]? = some v → ∃ (t c : Addr) (p : List Nat) (bb : Bool), v = .ref t ∧ G17 t = some (.tup [.ref c, .bl bb]) ∧ G17 c = some (.lst (iv p)) ∧ c ≠ l ∧ p.length ≤ 10 ∧ (ringB B1 p && decide (4 < p.length)) = bb := by
      intro i v hv
      match i, hv with
      | 0, hv =>
        cases hv
        refine ⟨t1, c3, _, _, rfl, z7 _ _ f6, z6 _ _ f5, w3, ?_, ?_⟩
        · rw [List.length_append, List.length_drop, List.length_take]; omega
        · rw [hr2, List.length_append, List.length_drop, List.length_take, h5]; rfl
      | 1, hv =>
        cases hv
        refine ⟨t2, c4, _, _, rfl, z9 _ _ f8, z8 _ _ f7, w4, ?_, ?_⟩
        · rw [List.length_reverse]; omega
        · rw [hr3]; rfl
      | 2, hv =>
        cases hv
        refine ⟨t3, c5, _, _, rfl, z11 _ _ f10, z10 _ _ f9, w5, ?_, ?_⟩
        · rw [List.length_take]; omega
        · rw [List.length_take, h5]; exact Bool.and_false _
      | 3, hv =>
        cases hv
        exact ⟨t4, c6, [5, 6], _, rfl, z13 _ _ f12, z12 _ _ f11, w6, by decide, Bool.and_false _⟩
      | 4, hv =>
        cases hv
        exact ⟨t5, c7, [], _, rfl, z16 _ _ f15, z15 _ _ f14, w7, by decide, rfl⟩
      | n + 5, hv => simp at hv
    clear u3 u4 u5 u6 u7 u8 u9 u10 u11 u12 u13 u14 u15 u16 u17 v5 v6 v8 v10 v13 k5 k8 z16 z15 z14 z13 z12 z11 z10 z9 z8 z7 z6 z5 z2 z1 f3 f4 f5 f6 f7 f8 f9 f10 f11 f12 f13 f14 f15 f16 u1316
    refine ⟨it, rfl, ⟨_, .of f17⟩, ?_⟩
    refine for_list (K := K) (a := it) (xs := [V.ref t1, V.ref t2, V.ref t3, V.ref t4] ++ [V.ref t5]) (fun i σ H3 => ∃ w4 w5 zs, σ = [some (.ref b), some (.ref x), some (.ref kp), some (.ref ro), w4, w5, none, none, none, none, none] ∧ Keeps [l] G17 H3 ∧ H3 l = some (.lst zs)) ⟨_, _, _, rfl, .of (.refl _), el17⟩ (fun i σ H3 _ h => ?_) (fun i v σ H3 hv h => ?_) (fun σ H3 h => ?_)
    · obtain ⟨_, _, _, _, kk, _⟩ := h
      exact .of (kk.at f17 nitl)
    · obtain ⟨w4', w5', zs, rfl, kk, el3⟩ := h
      obtain ⟨t, c, p, bb, rfl, et, ec, hcl, hpl, hbb⟩ := hit i v hv
      have htl : t ≠ l := fun e => by rw [e, el17] at et; cases et
      have et3 := kk.at et htl
      have ec3 := kk.at ec hcl
      have ex3 := kk.at ex17 nxl
      refine ⟨t, _, rfl, .of et3, rfl, _, _, rfl, _, _, rfl, rfl, ?_⟩
      refine ⟨_, rfl, x, T.Long.C, dx, _, _, rfl, ex3, T.Long.cl, T.n_Long_ring, lk_ring, .inl ⟨rfl, _, .of el3⟩, l, _, rfl, rfl, el3, ?_⟩
      have k4 := kk.put (o := .lst [])
      have el4 : (upd H3 l (.lst [])) l = some (.lst []) := upd_same
      generalize upd H3 l (.lst []) = H4 at *
      refine ⟨_, rfl, x, T.Long.C, dx, _, _, rfl, k4.at ex17 nxl, T.Long.cl, T.n_Long_ring, lk_ring, .inl ⟨rfl, _, .of el4⟩, _, rfl, l, c, [], _, rfl, rfl, el4, k4.at ec hcl, by rw [iv_len]; exact sz (by simp; omega), ?_⟩
      have k5 := k4.put (o := .lst ([] ++ iv p))
      have el5 : (upd H4 l (.lst ([] ++ iv p))) l = some (.lst (iv p)) := upd_same
      generalize upd H4 l (.lst ([] ++ iv p)) = H5 at *
      have ex5 := k5.at ex17 nxl
      refine ⟨_, rfl, x, dx, _, rfl, ex5, lk_shows1 (by decide +kernel), _, rfl, x, b, l, dx, B1, castN p, 4, rfl, ex5, sq_cast (.of el5), .of (k5.at eb17 nbl), by decide, by rw [List.length_map]; omega, fun b5 H6 s6 hb5 => ?_⟩
      refine ⟨_, rfl, rfl, _, rfl, iteNS ?_ ?_⟩
      · congr 1
        rw [← hbb]
        refine iff_bool hb5 ?_
        rw [Bool.and_eq_true, decide_eq_true_iff, ringB_iff gB1, List.length_map]
      · exact ⟨_, _, _, rfl, k5.trans (.of s6), s6 _ _ el5⟩
    obtain ⟨w4', w5', zs, rfl, kk, el3⟩ := h
    have ex3 := kk.at ex17 nxl
    refine ⟨_, rfl, x, T.Long.C, dx, _, _, rfl, ex3, T.Long.cl, T.n_Long_ring, lk_ring, .inl ⟨rfl, _, .of el3⟩, l, _, rfl, rfl, el3, ?_⟩
    have k4 := kk.put (o := .lst [])
    have el4 : (upd H3 l (.lst [])) l = some (.lst []) := upd_same
    generalize upd H3 l (.lst []) = H4 at *
    refine ⟨_, rfl, x, T.Long.C, dx, _, _, rfl, k4.at ex17 nxl, T.Long.cl, T.n_Long_ring, lk_ring, .inl ⟨rfl, _, .of el4⟩, _, rfl, l, kp, [], _, rfl, rfl, el4, k4.at ekp17 nkl, by rw [iv_len]; exact sz (by simp; omega), ?_⟩
    have k5 := k4.put (o := .lst ([] ++ iv rr))
    have el5 : (upd H4 l (.lst ([] ++ iv rr))) l = some (.lst (iv rr)) := upd_same
    generalize upd H4 l (.lst ([] ++ iv rr)) = H5 at *
    have ex5 := k5.at ex17 nxl
    have eb5 := k5.at eb17 nbl
    have su5 : Same H H5 := k5.same su17 fun a ha => by
      have : a = l := by simpa using ha
      rw [this]; exact nlH
    clear hit kk k4 k5 el4 ex3 el3 f17 el17 ex17 eb17 ekp17 su17
    -- mended
    refine ⟨_, rfl, b, B1, 1, rfl, .of eb5, gB1, by decide, by decide, by decide, fun H6 y o2 M => ?_⟩
    have hbar : o2.isMend = false := by
      cases e : o2.isMend with
      | false => rfl
      | true =>
        have := (can_iff gB1 (by decide) (by decide)).mp (M.can.mp e)
        rcases this with z | ⟨r, z, _⟩
        · exact absurd z (by decide +kernel)
        · have z2 : (longOf B1 1).length = 1 := by rw [z]; rfl
          exact absurd z2 (by decide +kernel)
    have ex6 := M.same _ _ ex5
    have el6 := M.same _ _ el5
    have eb6 := M.same _ _ eb5
    have hR : RingI B1 (castN rr) := (ringB_iff gB1 rr).mp hr1
    refine ⟨_, rfl, x, dx, _, rfl, ex6, lk_shows1 (by decide +kernel), _, rfl, x, b, l, dx, B1, castN rr, 5, rfl, ex6, sq_cast (.of el6), .of eb6, by decide, by rw [List.length_map]; omega, fun b7 H7 s7 hb7 => ?_⟩
    have e7 : b7 = false := by
      cases b7 with
      | false => rfl
      | true =>
        have := (hb7.mp rfl).2
        rw [List.length_map] at this
        omega
    refine ⟨_, rfl, x, dx, _, rfl, s7 _ _ ex6, lk_shows1 (by decide +kernel), _, rfl, x, b, l, dx, B1, castN rr, 4, rfl, s7 _ _ ex6, sq_cast (.of (s7 _ _ el6)), .of (s7 _ _ eb6), by decide, by rw [List.length_map]; omega, fun b8 H8 s8 hb8 => ?_⟩
    have e8 : b8 = true := hb8.mpr ⟨hR, by rw [List.length_map]; omega⟩
    subst e7 e8
    refine ⟨sz (by simp), fun p9 nn10 => ?_⟩
    generalize hG : upd _ p9 _ = G9
    obtain ⟨u9, f9⟩ := gen_upd nn10 hG
    clear hG
    refine ⟨sz (by simp), fun pa nn11 => ?_⟩
    generalize hG : upd _ pa _ = Ga
    obtain ⟨ua, fa⟩ := gen_upd nn11 hG
    clear hG
    refine ne_bl (x := [false, true]) (y := [false, true]) (.of (ua _ _ f9)) (.of fa) ⟨_, rfl, iteNS rfl ?_⟩
    have w1 := ((s7.trans s8).trans u9).trans ua
    obtain ⟨C, ty, k1, k2, k3, k4, k5⟩ := m_is T (M.at_.same w1)
    refine ⟨_, rfl, .ref y, .ref T.Barred.C, .ref C, .ref T.Barred.C, !o2.isMend, rfl, .own _, ty, k3, _, rfl, ?_⟩
    rw [hbar]
    refine iteF ?_
    have suA := (su5.trans M.same).trans w1
    have exA := w1 _ _ ex6
    have elA := w1 _ _ el6
    have ebA := w1 _ _ eb6
    clear k1 k2 k3 k4 k5 ty M
    -- exchanged in place
    refine ⟨_, rfl, b, _, 2, _, rfl, rfl, .of ebA, atI_nat (j := 2) rfl, _, rfl, b, _, 0, _, rfl, rfl, .of ebA, atI_nat (j := 0) rfl, sz (by simp), fun tt nbb => ?_⟩
    generalize hG : upd _ tt _ = Gb
    obtain ⟨ub, fb⟩ := gen_upd nbb hG
    clear hG
    refine ⟨tt, _, rfl, .of fb, rfl, _, _, rfl, _, rfl, b, _, _, 0, rfl, rfl, ub _ _ ebA, rfl, ?_⟩
    refine ⟨_, _, rfl, _, rfl, b, _, _, 2, rfl, rfl, upd_same, rfl, rfl, ?_⟩
    have suC : ∀ {o1 o2 : HO}, Same H (upd (upd Gb b o1) b o2) := fun {o1 o2} => same_mut (same_mut (suA.trans ub) nb) nb
    have kC : ∀ {o1 o2 : HO} {a : Addr} {u : HO}, a ≠ b → Ga a = some u → (upd (upd Gb b o1) b o2) a = some u := fun {o1 o2 a u} hn h => by
      rw [upd_ne hn, upd_ne hn]
      exact ub _ _ h
    generalize hG : upd (upd Gb b _) b _ = Gc
    have ebC : Gc b = some (.lst (iv B2)) := by rw [← hG]; exact upd_same
    have exC : Gc x = some (.ins T.Long.C dx [("ring", .ref l)]) := by rw [← hG]; exact kC (fun e => by rw [e, ebA] at exA; cases exA) exA
    have elC : Gc l = some (.lst (iv rr)) := by rw [← hG]; exact kC nbl.symm elA
    have suC' : Same H Gc := by rw [← hG]; exact suC
    clear hG suC kC
    refine ⟨_, rfl, x, dx, _, rfl, exC, lk_shows1 (by decide +kernel), _, rfl, x, b, l, dx, B2, castN rr, 4, rfl, exC, sq_cast (.of elC), .of ebC, by decide, by rw [List.length_map]; omega, fun bd Hd sd hbd => ?_⟩
    have ed : bd = false := by
      cases bd with
      | false => rfl
      | true =>
        have := (ringB_iff gB2 rr).mpr (hbd.mp rfl).1
        rw [hr4] at this
        cases this
    subst ed
    refine ⟨false, false, rfl, rfl, _, rfl, iteNS rfl ?_⟩
    have ebD := sd _ _ ebC
    refine ⟨_, rfl, b, B2, 4, rfl, .of ebD, gB2, by decide, by decide, fun He pe se ne ee => ⟨sz (by simp), fun pf nn12 => ?_⟩⟩
    generalize hG : upd _ pf _ = Gf
    obtain ⟨uf, ff⟩ := gen_upd nn12 hG
    clear hG
    refine ne_iv (x := ringOf B2 4) (y := [4, 0, 3]) (.of (uf _ _ ee)) (.of ff) ⟨_, rfl, iteNS (by decide +kernel) ?_⟩
    have ebF := uf _ _ (se _ _ ebD)
    have suF := ((suC'.trans sd).trans se).trans uf
    -- rings
    refine ⟨_, rfl, b, B2, rfl, .of ebF, gB2, by decide, by decide, fun Hg pg psg sg ng eg Rg hpg => ?_⟩
    refine ⟨sz (by simp), fun q1 nn13 => ?_⟩
    generalize hG : upd _ q1 _ = Gh
    obtain ⟨uh, fh⟩ := gen_upd nn13 hG
    clear hG
    refine ⟨sz (by simp), fun q2 nn14 => ?_⟩
    generalize hG : upd _ q2 _ = Gi
    obtain ⟨ui, fi⟩ := gen_upd nn14 hG
    clear hG
    refine ⟨sz (by simp), fun q3 nn15 => ?_⟩
    generalize hG : upd _ q3 _ = Gj
    obtain ⟨uj, fj⟩ := gen_upd nn15 hG
    clear hG
    refine ⟨sz (by simp), fun q4 nn16 => ?_⟩
    generalize hG : upd _ q4 _ = Gk
    obtain ⟨uk, fk⟩ := gen_upd nn16 hG
    clear hG
    have wk := ((uh.trans ui).trans uj).trans uk
    have SD : Sees K Gk q4 [[0, 3, 4], [1, 2], [5, 6]] := by
      refine ⟨[q1, q2, q3], .of fk, rfl, fun i q r h1 h2 => ?_⟩
      match i, h1, h2 with
      | 0, h1, h2 => cases h1; cases h2; exact .of (((ui.trans uj).trans uk) _ _ fh)
      | 1, h1, h2 => cases h1; cases h2; exact .of ((uj.trans uk) _ _ fi)
      | 2, h1, h2 => cases h1; cases h2; exact .of (uk _ _ fj)
      | n + 3, h1, h2 => simp at h1
    refine ne_rows (x := ringsOf B2) (y := [[0, 3, 4], [1, 2], [5, 6]]) ((Rg.sees eg).same wk) SD ⟨_, rfl, iteNS (by decide +kernel) ?_⟩
    have ebK := wk _ _ (sg _ _ ebF)
    have suK := (suF.trans sg).trans wk
    refine ⟨_, rfl, b, B2, 3, rfl, .of ebK, gB2, by decide, by decide, by decide, fun Hl yl ol Jl => ?_⟩
    have hol : ol = none := Jl.none_iff.mpr ((longOf_nil gB2).mp (by decide +kernel))
    subst hol
    obtain ⟨C, ty, k1, k2, _⟩ := j_is T Jl.at_
    refine ⟨.ref yl, .ref T.All.C, .ref C, .ref T.All.C, true, rfl, .own _, ty, k2, _, rfl, iteF ?_⟩
    have ebL := Jl.same _ _ ebK
    have suL := suK.trans Jl.same
    -- two Mends
    refine mk_mend T (t := (tCons (tC (V.int 0)) (tCons (tC (V.int 2)) tNil))) (u := (tCons (tVar 0) (tCons (tC (V.int 3)) tNil))) (i := 0) (j := 2) (ns := B2) (m := 3) gB2 (fun k hk => hk) (fun H1 k s1 hk => ⟨_, rfl, hk b (.of (s1 _ _ ebL))⟩) (by decide) (fun bm Hm sm hbm => ?_)
    have em : bm = false := iff_bool hbm ((show (mendB B2 3 0 2 = true ↔ _) from mendB_iff gB2 3 0 2) |> fun z => by rw [show mendB B2 3 0 2 = false by decide +kernel] at z; exact z)
    subst em
    have ebM := sm _ _ ebL
    refine mk_mend T (t := (tCons (tC (V.int 3)) (tCons (tC (V.int 3)) tNil))) (u := (tCons (tVar 0) (tCons (tC (V.int 3)) tNil))) (i := 3) (j := 3) (ns := B2) (m := 3) gB2 (fun k hk => hk) (fun H1 k s1 hk => ⟨_, rfl, hk b (.of (s1 _ _ ebM))⟩) (by decide) (fun bn Hn sn hbn => ?_)
    have en : bn = true := hbn.mpr ((mendB_iff gB2 3 3 3).mp (by decide +kernel))
    subst en
    refine ⟨sz (by simp), fun po nn17 => ?_⟩
    generalize hG : upd _ po _ = Go
    obtain ⟨uo, fo⟩ := gen_upd nn17 hG
    clear hG
    refine ⟨sz (by simp), fun pp nn18 => ?_⟩
    generalize hG : upd _ pp _ = Gp
    obtain ⟨up, fp⟩ := gen_upd nn18 hG
    clear hG
    refine ne_bl (x := [false, true]) (y := [false, true]) (.of (up _ _ fo)) (.of fp) ⟨_, rfl, iteNS rfl ?_⟩
    have wp := ((sm.trans sn).trans uo).trans up
    have ebP := wp _ _ ebL
    have suP := suL.trans wp
    clear hr1 hr2 hr3 hr4
    -- four rows of rings
    refine ⟨sz (by simp), fun a1 nn19 => ?_⟩
    generalize hG : upd _ a1 _ = X1
    obtain ⟨x1, g1⟩ := gen_upd nn19 hG
    clear hG
    refine ⟨sz (by simp), fun a2 nn20 => ?_⟩
    generalize hG : upd _ a2 _ = X2
    obtain ⟨x2, g2⟩ := gen_upd nn20 hG
    clear hG
    refine ⟨sz (by simp), fun a3 nn21 => ?_⟩
    generalize hG : upd _ a3 _ = X3
    obtain ⟨x3, g3⟩ := gen_upd nn21 hG
    clear hG
    refine ⟨sz (by simp), fun a4 nn22 => ?_⟩
    generalize hG : upd _ a4 _ = X4
    obtain ⟨x4, g4⟩ := gen_upd nn22 hG
    clear hG
    refine ⟨sz (by simp), fun a5 nn23 => ?_⟩
    generalize hG : upd _ a5 _ = X5
    obtain ⟨x5, g5⟩ := gen_upd nn23 hG
    clear hG
    refine ⟨sz (by simp), fun a6 nn24 => ?_⟩
    generalize hG : upd _ a6 _ = X6
    obtain ⟨x6, g6⟩ := gen_upd nn24 hG
    clear hG
    refine ⟨sz (by simp), fun a7 nn25 => ?_⟩
    generalize hG : upd _ a7 _ = X7
    obtain ⟨x7, g7⟩ := gen_upd nn25 hG
    clear hG
    refine ⟨sz (by simp), fun a8 nn26 => ?_⟩
    generalize hG : upd _ a8 _ = X8
    obtain ⟨x8, g8⟩ := gen_upd nn26 hG
    clear hG
    refine ⟨sz (by simp), fun a9 nn27 => ?_⟩
    generalize hG : upd _ a9 _ = X9
    obtain ⟨x9, g9⟩ := gen_upd nn27 hG
    clear hG
    refine ⟨sz (by simp), fun a10 nn28 => ?_⟩
    generalize hG : upd _ a10 _ = X10
    obtain ⟨x10, g10'⟩ := gen_upd nn28 hG
    clear hG
    refine ⟨sz (by simp), fun a11 nn29 => ?_⟩
    generalize hG : upd _ a11 _ = X11
    obtain ⟨x11, g11⟩ := gen_upd nn29 hG
    clear hG
    refine ⟨sz (by simp), fun a12 nn30 => ?_⟩
    generalize hG : upd _ a12 _ = X12
    obtain ⟨x12, g12⟩ := gen_upd nn30 hG
    clear hG
    refine ⟨sz (by simp), fun a13 nn31 => ?_⟩
    generalize hG : upd _ a13 _ = X13
    obtain ⟨x13, g13⟩ := gen_upd nn31 hG
    clear hG
    refine ⟨sz (by simp), fun a14 nn32 => ?_⟩
    generalize hG : upd _ a14 _ = X14
    obtain ⟨x14, g14⟩ := gen_upd nn32 hG
    clear hG
    refine ⟨sz (by simp), fun a15 nn33 => ?_⟩
    generalize hG : upd _ a15 _ = X15
    obtain ⟨x15, g15⟩ := gen_upd nn33 hG
    clear hG
    have y14 := x14.trans x15
    have y13 := x13.trans y14
    have y12 := x12.trans y13
    have y11 := x11.trans y12
    have y10 := x10.trans y11
    have y9 := x9.trans y10
    have y8 := x8.trans y9
    have y7 := x7.trans y8
    have y6 := x6.trans y7
    have y5 := x5.trans y6
    have y4 := x4.trans y5
    have y3 := x3.trans y4
    have y2 := x2.trans y3
    have y1 := x1.trans y2
    have hit : ∀ (i : Nat) (v : V), [V.ref a4, V.ref a7, V.ref a11, V.ref a14][i]? = some v → ∃ (t c : Addr) (ps : List Addr) (rs : List (List Nat)) (bb : Bool), v = .ref t ∧ X15 t = some (.tup [.ref c, .bl bb]) ∧ SeesI K X15 c ps (rs.map castN) ∧ rs.length ≤ 10 ∧ (∀ r ∈ rs, r.length ≤ 10) ∧ barB B2 1 rs = bb := by
      intro i v hv
      match i, hv with
      | 0, hv =>
        cases hv
        refine ⟨a4, a3, [a1, a2], [[1, 2], [5, 6]], _, rfl, y5 _ _ g4, ⟨.of (y4 _ _ g3), rfl, fun i q r h1 h2 => ?_⟩, by decide, by decide, by decide +kernel⟩
        match i, h1, h2 with
        | 0, h1, h2 => cases h1; cases h2; exact .of (y2 _ _ g1)
        | 1, h1, h2 => cases h1; cases h2; exact .of (y3 _ _ g2)
        | n + 2, h1, h2 => simp at h1
      | 1, hv =>
        cases hv
        refine ⟨a7, a6, [a5], [[0, 3, 4]], _, rfl, y8 _ _ g7, ⟨.of (y7 _ _ g6), rfl, fun i q r h1 h2 => ?_⟩, by decide, by decide, by decide +kernel⟩
        match i, h1, h2 with
        | 0, h1, h2 => cases h1; cases h2; exact .of (y6 _ _ g5)
        | n + 1, h1, h2 => simp at h1
      | 2, hv =>
        cases hv
        refine ⟨a11, a10, [a8, a9], [[5, 6], [6, 5]], _, rfl, y12 _ _ g11, ⟨.of (y11 _ _ g10'), rfl, fun i q r h1 h2 => ?_⟩, by decide, by decide, by decide +kernel⟩
        match i, h1, h2 with
        | 0, h1, h2 => cases h1; cases h2; exact .of (y9 _ _ g8)
        | 1, h1, h2 => cases h1; cases h2; exact .of (y10 _ _ g9)
        | n + 2, h1, h2 => simp at h1
      | 3, hv =>
        cases hv
        refine ⟨a14, a13, [a12], [[1, 2]], _, rfl, x15 _ _ g14, ⟨.of (y14 _ _ g13), rfl, fun i q r h1 h2 => ?_⟩, by decide, by decide, by decide +kernel⟩
        match i, h1, h2 with
        | 0, h1, h2 => cases h1; cases h2; exact .of (y13 _ _ g12)
        | n + 1, h1, h2 => simp at h1
      | n + 4, hv => simp at hv
    have ebX := y1 _ _ ebP
    have suX := suP.trans y1
    clear y1 y2 y3 y4 y5 y6 y7 y8 y9 y10 y11 y12 y13 y14 x1 x2 x3 x4 x5 x6 x7 x8 x9 x10 x11 x12 x13 x14 g1 g2 g3 g4 g5 g6 g7 g8 g9 g10' g11 g12 g13 g14
    refine ⟨a15, rfl, ⟨_, .of g15⟩, ?_⟩
    refine for_tup (K := K) (a := a15) (xs := [V.ref a4, V.ref a7, V.ref a11, V.ref a14]) (fun i σ H3 => ∃ w3 w5, σ = [some (.ref b), some (.ref x), some (.ref kp), w3, w4', w5, some (.ref y), none, none, none, none] ∧ Same X15 H3) ⟨_, _, rfl, .refl _⟩ (fun i σ H3 _ h => ?_) (fun i v σ H3 hv h => ?_) (fun σ H3 h => ?_)
    · obtain ⟨_, _, _, s3⟩ := h
      exact .of (s3 _ _ g15)
    · obtain ⟨w3', w5'', rfl, s3⟩ := h
      obtain ⟨t, c, ps, rs, bb, rfl, et, S, hrs, hrl, hbb⟩ := hit i v hv
      refine ⟨t, _, rfl, .of (s3 _ _ et), rfl, _, _, rfl, _, _, rfl, rfl, ?_⟩
      have eb3 := s3 _ _ ebX
      refine mk_bar T (t := (tCons (tVar 3) tNil)) (u := (tCons (tVar 0) (tCons (tC (V.int 1)) tNil))) (l0 := c) (ps0 := ps) (rs := rs.map castN) (ns := B2) (m := 1) gB2 (fun k hk => ⟨_, rfl, hk⟩) (S.same s3) (fun H1 k s1 hk => ⟨_, rfl, hk b (.of (s1 _ _ eb3))⟩) (by decide) (by rw [List.length_map]; omega) (fun r hr => ?_) (fun b4 H4 s4 hb4 => ?_)
      · obtain ⟨r', hr', rfl⟩ := List.mem_map.mp hr
        rw [List.length_map]
        have := hrl r' hr'
        omega
      refine ⟨_, rfl, rfl, _, rfl, iteNS ?_ ⟨_, _, rfl, s3.trans s4⟩⟩
      congr 1
      rw [← hbb]
      exact iff_bool hb4 (barB_iff gB2 1 rs)
    obtain ⟨w3', w5'', rfl, s3⟩ := h
    have su3 := suX.trans s3
    -- far
    refine ⟨_, rfl, RgOk.of_le (by omega) (by omega) (by omega) (by omega), fun fa4 nn34 => ?_⟩
    generalize hG : upd _ fa4 _ = Y1
    obtain ⟨v1, e1⟩ := gen_upd nn34 hG
    clear hG
    rw [show (3000 : Int) = ((3000 : Nat) : Int) from rfl, rgV_iv] at e1
    refine mk_long T (t := (tCons (tVar 7) tNil)) (u := (tCons (tLst (tCons (tC (V.int 0)) tNil)) (tCons (tC (V.int 1)) tNil))) (q := castN (List.range 3000)) (ns := [0]) (m := 1) (fun k hk => ⟨_, rfl, hk _ fa4 (.refl _) (sq_cast (.of e1))⟩) (fun H1 k s1 hk => ⟨sz (by simp), fun p np => hk _ p (same_upd np) (.of upd_same)⟩) (by decide) (by rw [List.length_map, List.length_range]; decide) (fun b4 Y2 v2 hb4 => ?_)
    have e4 : b4 = false := by
      cases b4 with
      | false => rfl
      | true => exact absurd (hb4.mp rfl).1 far_no
    subst e4
    refine ⟨false, false, rfl, rfl, _, rfl, iteNS rfl ?_⟩
    refine ⟨sz (by simp), fun tw nn35 => ?_⟩
    generalize hG : upd _ tw _ = Y3
    obtain ⟨v3, etw⟩ := gen_upd nn35 hG
    clear hG
    have etw : Y3 tw = some (.lst (iv [1, 0])) := etw
    -- two Longs
    refine mk_long T (t := (tCons (tLst (tCons (tC (V.int 0)) (tCons (tC (V.int 1)) tNil))) tNil)) (u := (tCons (tVar 8) (tCons (tC (V.int 1)) tNil))) (q := castN [0, 1]) (ns := [1, 0]) (m := 1) (fun k hk => ⟨sz (by simp), fun p np => hk _ p (same_upd np) (.of upd_same)⟩) (fun H1 k s1 hk => ⟨_, rfl, hk _ tw (.refl _) (.of (s1 _ _ etw))⟩) (by decide) (by decide) (fun b5 Y4 v4 hb5 => ?_)
    have e5 : b5 = true := hb5.mpr ⟨(ringB_iff g10 [0, 1]).mp (by decide +kernel), by decide⟩
    subst e5
    have etw4 := v4 _ _ etw
    refine mk_long T (t := (tCons (tLst (tCons (tC (V.int 0)) (tCons (tC (V.int 9)) tNil))) tNil)) (u := (tCons (tVar 8) (tCons (tC (V.int 1)) tNil))) (q := castN [0, 9]) (ns := [1, 0]) (m := 1) (fun k hk => ⟨sz (by simp), fun p np => hk _ p (same_upd np) (.of upd_same)⟩) (fun H1 k s1 hk => ⟨_, rfl, hk _ tw (.refl _) (.of (s1 _ _ etw4))⟩) (by decide) (by decide) (fun b6 Y5 v5 hb6 => ?_)
    have e6 : b6 = false := by
      cases b6 with
      | false => rfl
      | true =>
        have := (ringB_iff g10 [0, 9]).mpr (hb6.mp rfl).1
        exact absurd this (by decide +kernel)
    subst e6
    refine ⟨sz (by simp), fun p7 nn36 => ?_⟩
    generalize hG : upd _ p7 _ = Y6
    obtain ⟨v6, e7⟩ := gen_upd nn36 hG
    clear hG
    refine ⟨sz (by simp), fun p8 nn37 => ?_⟩
    generalize hG : upd _ p8 _ = Y7
    obtain ⟨v7, e8⟩ := gen_upd nn37 hG
    clear hG
    refine ne_bl (x := [true, false]) (y := [true, false]) (.of (v7 _ _ e7)) (.of e8) ⟨_, rfl, iteNS rfl ?_⟩
    have v37 := ((v4.trans v5).trans v6).trans v7
    have etw7 := v37 _ _ etw
    have su7 := (((su3.trans v1).trans v2).trans v3).trans v37
    -- three Mends
    refine ⟨1, rfl, sz (by simp), fun d1 nn38 => ?_⟩
    generalize hG : upd _ d1 _ = Z1
    obtain ⟨i1, m1⟩ := gen_upd nn38 hG
    clear hG
    refine ⟨sz (by simp), fun d2 nn39 => ?_⟩
    generalize hG : upd _ d2 _ = Z2
    obtain ⟨i2, m2⟩ := gen_upd nn39 hG
    clear hG
    refine ⟨sz (by simp), fun d3 nn40 => ?_⟩
    generalize hG : upd _ d3 _ = Z3
    obtain ⟨i3, m3⟩ := gen_upd nn40 hG
    clear hG
    refine ⟨sz (by simp), fun d4 nn41 => ?_⟩
    generalize hG : upd _ d4 _ = Z4
    obtain ⟨i4, m4⟩ := gen_upd nn41 hG
    clear hG
    have hit2 : ∀ (i : Nat) (v : V), [V.ref d1, V.ref d2, V.ref d3][i]? = some v → ∃ (t : Addr) (a c : Int), v = .ref t ∧ Z4 t = some (.tup [.int a, .int c]) ∧ i < 3 ∧ [mendB [1, 0] 1 a c] = ([false, false, true].drop i).take 1 := by
      intro i v hv
      match i, hv with
      | 0, hv => cases hv; exact ⟨d1, -1, 0, rfl, ((i2.trans i3).trans i4) _ _ m1, by decide, by decide +kernel⟩
      | 1, hv => cases hv; exact ⟨d2, 0, 2, rfl, (i3.trans i4) _ _ m2, by decide, by decide +kernel⟩
      | 2, hv => cases hv; exact ⟨d3, 1, 0, rfl, i4 _ _ m3, by decide, by decide +kernel⟩
      | n + 3, hv => simp at hv
    have i14 := ((i1.trans i2).trans i3).trans i4
    have etwZ := i14 _ _ etw7
    have suZ := su7.trans i14
    refine ⟨d4, rfl, ⟨_, .of m4⟩, fun D nD => ?_⟩
    refine lc_tup (K := K) (a := d4) (xs := [V.ref d1, V.ref d2, V.ref d3]) (fun i H3 => Same Z4 H3 ∧ H3 D = some (.lst ((([false, false, true] : List Bool).take i).map V.bl))) ⟨same_upd nD, upd_same⟩ (fun i H3 _ h => .of (h.1 _ _ m4)) (fun i v H3 hv h => ?_) (fun H3 h => ?_)
    · obtain ⟨s3, eD⟩ := h
      obtain ⟨t, a, c, rfl, et, hi3, hm⟩ := hit2 i v hv
      refine ⟨t, _, rfl, .of (s3 _ _ et), rfl, _, _, rfl, _, _, rfl, rfl, rfl, ?_⟩
      have etw3 := s3 _ _ etwZ
      refine mk_mend T (t := (tCons (tVar 9) (tCons (tVar 10) tNil))) (u := (tCons (tVar 8) (tCons (tC (V.int 1)) tNil))) (i := a) (j := c) (ns := [1, 0]) (m := 1) g10 (fun k hk => ⟨_, rfl, _, rfl, hk⟩) (fun H1 k s1 hk => ⟨_, rfl, hk tw (.of (s1 _ _ etw3))⟩) (by decide) (fun b4 H4 s4 hb4 => ?_)
      refine ⟨_, s4 _ _ eD, by rw [List.length_map, List.length_take]; exact szl (by omega), same_mut (s3.trans s4) nD, ?_⟩
      rw [upd_same, iff_bool hb4 (mendB_iff g10 1 a c)]
      have e9 : ([false, false, true] : List Bool).take (i + 1) = ([false, false, true] : List Bool).take i ++ [mendB [1, 0] 1 a c] := by
        rw [hm, ← List.take_add]
      rw [e9, List.map_append]
      rfl
    · obtain ⟨s3, eD⟩ := h
      refine ⟨sz (by simp), fun pz nn42 => ?_⟩
      generalize hG : upd _ pz _ = Zz
      obtain ⟨uz, fz⟩ := gen_upd nn42 hG
      clear hG
      refine eq_bl (x := [false, false, true]) (y := [false, false, true]) (.of (uz _ _ eD)) (.of fz) ?_
      rw [decide_eq_true rfl]
      exact q _ ((suZ.trans s3).trans uz)
end
end Sb
namespace Sb
open PySem PySem.Spec PyProof.Rows L2
theorem rgV_from (a b : Nat) : rgV (a : Int) (b : Int) = iv (List.range' a (b - a)) := by
  unfold rgV
  rw [show ((b : Int) - (a : Int)).toNat = b - a by omega, List.range'_eq_map_range]
  show _ = List.map _ (List.map _ _)
  rw [List.map_map]
  apply List.map_congr_left
  intro i _
  show V.int ((a : Int) + (i : Int)) = V.int ((a + i : Nat) : Int)
  congr 1
def G40 : List Nat := List.range' 1 39 ++ [0]
theorem gG40 : Good G40 := ⟨by decide +kernel⟩
theorem ring40 : ∀ p, p < 40 → ringOf G40 p = List.range' p (40 - p) ++ List.range p := by decide +kernel
theorem next40 : ∀ p, p < 40 → nxt G40 p = (p + 1) % 40 := by decide +kernel
/-- boxes with one strange slip -/
theorem bad_set {H : Hp} {a : Addr} {ns : List Nat} {j : Nat} {x : V} {m : Int} (hj : j < ns.length) (hl : ns.length ≤ 60) (hx : BadH H x (ns.length : Int)) (e : H a = some (.lst ((iv ns).set j x))) : BadB H (.ref a) m := by
  rcases hx with hx | ⟨i, rfl, hi⟩
  · refine .inr ⟨a, _, (List.replicate ns.length true).set j false, rfl, e, by rw [List.length_set, iv_len]; exact hl, by rw [List.length_set, iv_len, List.length_set, List.length_replicate], fun i y b h1 h2 => ?_, .inr (.inr (.inl ?_))⟩
    · by_cases hij : j = i
      · subst hij
        rw [List.getElem?_set_self (by rw [iv_len]; exact hj)] at h1
        rw [List.getElem?_set_self (by rw [List.length_replicate]; exact hj)] at h2
        cases h1
        cases h2
        exact hx
      · rw [List.getElem?_set_ne hij, iv_get?] at h1
        rw [List.getElem?_set_ne hij, List.getElem?_replicate] at h2
        obtain ⟨n, _, rfl⟩ := Option.map_eq_some_iff.mp h1
        split at h2
        · cases h2
          exact .int _
        · cases h2
    · rw [List.all_eq_false]
      exact ⟨false, List.mem_set (by rw [List.length_replicate]; exact hj) false, by decide⟩
  · have e2 : (iv ns).set j (.int i) = ((castN ns).set j i).map V.int := by rw [iv_eq, List.map_set]
    rw [e2] at e
    refine bad_ints e (by rw [List.length_set, List.length_map]; exact hl) (.inr (.inr fun pm => ?_))
    have hm : i ∈ (castN ns).set j i := List.mem_set (by rw [List.length_map]; exact hj) i
    obtain ⟨n, hn, en⟩ := List.mem_map.mp (pm.mem_iff.mp hm)
    rw [List.mem_range, List.length_set, List.length_map] at hn
    omega
/-- boxes with one slip twice -/
theorem bad_twice {H : Hp} {a : Addr} {ns : List Nat} {j k y : Nat} {m : Int} (hj : j < ns.length) (hk : ns[k]? = some y) (hjk : j ≠ k) (hl : ns.length ≤ 60) (e : H a = some (.lst ((iv ns).set j (.int (y : Int))))) : BadB H (.ref a) m := by
  have e2 : (iv ns).set j (.int (y : Int)) = (castN (ns.set j y)).map V.int := by
    rw [iv_eq, ← List.map_set]
    congr 1
    exact List.map_set.symm
  rw [e2] at e
  refine bad_ints e (by rw [List.length_map, List.length_set]; exact hl) (.inr (.inr fun pm => ?_))
  have nd : (ns.set j y).Nodup := castN_nodup.mp (pm.nodup_iff.mpr (castN_nodup.mpr List.nodup_range))
  have h1 : (ns.set j y)[j]? = some y := List.getElem?_set_self hj
  have h2 : (ns.set j y)[k]? = some y := by rw [List.getElem?_set_ne hjk]; exact hk
  exact hjk (nd_ix nd h1 h2)
section
variable {P : Program} {w : World} {K : PySem.W.Frag} {mg : Str → Option Value} {base : Heap}
/-! ### _law_spoiled_right -/
def SS (T : Tx K mg) (f : Addr) (sp : Sp) : Prop := (f = T.judged.f ∧ sp = spB_judged T) ∨ (f = T.mended.f ∧ sp = spB_mended T) ∨ (f = T.opened.f ∧ sp = spB_opened T)
theorem heldS (T : Tx K mg) (f : Addr) (sp : Sp) (h : SS T f sp) : HeldX P w K mg base 3 f sp := by
  rcases h with ⟨rfl, rfl⟩ | ⟨rfl, rfl⟩ | ⟨rfl, rfl⟩
  · exact ⟨_, _, okb_judged T, T.judged.F.kp, T.judged.b⟩
  · exact ⟨_, _, okb_mended T, T.mended.F.kp, T.mended.b⟩
  · exact ⟨_, _, okb_opened T, T.opened.F.kp, T.opened.b⟩
theorem SS.asks (T : Tx K mg) {f : Addr} {sp : Sp} (h : SS T f sp) {v u : V} {H : Hp} {Q : VK} {E : XK} (hb : BadB H v 40) (q : ∀ H', Same H H' → E (.ref T.BadBoxes.C) none H') : sp [v, u] H Q E := by
  rcases h with ⟨rfl, rfl⟩ | ⟨rfl, rfl⟩ | ⟨rfl, rfl⟩
  · exact ⟨v, u, rfl, hb, q⟩
  · exact ⟨v, u, rfl, hb, q⟩
  · exact ⟨v, u, rfl, hb, q⟩
def spSpoil (T : Tx K mg) : Sp := fun vs H Q _ => ∃ (pl : Nat) (at_ : Int), vs = [.int (pl : Int), .int at_] ∧ pl < 40 ∧ LamX.Tabs (lamTb T) H ∧ ∀ H', LamX.ExtN H H' → LamX.Tabs (lamTb T) H' → Q (.bl true) H'
abbrev n_law_spoiled_right : List Str := ["_law_place", "_law_at", "_law_good", "_law_bad", "_law_twice", "_law_boxes", "_law_ask"]
theorem sc_law_spoiled_right : FnScope n_law_spoiled_right ["_law_place", "_law_at"] (defScope s_law_spoiled_right) := ⟨rfl, rfl, rfl, by decide +kernel, rfl, by decide +kernel, by decide +kernel⟩
theorem ok_law_spoiled_right (T : Tx K mg) (TB : LamX.TabB base mg T.L_law_spoiled_right.c T.L_law_spoiled_right.P) : FnOk P w K mg base CX0 8 T.law_spoiled_right.f T.law_spoiled_right.fd ["_law_place", "_law_at"] (spSpoil T) := by
  have hmT : (T.L_law_spoiled_right.P, ("_law_spoiled_right" ++ ".<locals>." : Str) ++ "<lambda>") ∈ lamTb T := by simp [lamTb]
  have huT : ∀ p ∈ lamTb T, p.1 = T.L_law_spoiled_right.P → p.2 = ("_law_spoiled_right" ++ ".<locals>." : Str) ++ "<lambda>" := by
    intro p hp e
    simp only [lamTb, List.mem_cons, List.not_mem_nil, or_false] at hp
    rcases hp with rfl | rfl
    · exact (T.ld_law_numbers_right_law_spoiled_right e).elim
    · rfl
  refine okC T.law_spoiled_right.F T.L_law_spoiled_right T.lf_law_spoiled_right sc_law_spoiled_right (fun vs H Q E h => ?_) (fun A outer s H vs Q E hr h => ?_)
  · obtain ⟨pl, at_, rfl, _⟩ := h
    rfl
  · obtain ⟨pl, at_, rfl, hpl, hT, q⟩ := h
    have nt : ∀ {xs : List V} (ps : Array Value), HO.lst xs ≠ .tbl ps := fun ps z => nomatch z
    refine ⟨_, (pss_cons (ps_set (i := 2) sc_law_spoiled_right.nd rfl (.inl rfl) (pe_op op_cat (pe_listRg rfl (by rfl) T.m_list (prg_2 (by rfl) T.m_range pe_int pe_int)) (pe_lst (pa_cons pe_int pa_nil))))
    (pss_cons (ps_par (i := 3) (j := 4) (by rfl) sc_law_spoiled_right.nd rfl rfl (by decide) rfl rfl (pa_cons (pe_callTy call_list_of (by rfl) T.m_list (by decide +kernel) (pa_cons (pv 2) pa_nil)) (pa_cons (pe_callTy call_list_of (by rfl) T.m_list (by decide +kernel) (pa_cons (pv 2) pa_nil)) pa_nil)) (by rfl))
    (pss_cons (ps_asg (pe_ix ix_list (pe_lst (pa_cons pe_non (pa_cons pe_bl (pa_cons (pe_un un_neg pe_int) (pa_cons pe_int (pa_cons pe_str (pa_cons (pe_lst (pa_cons pe_int pa_nil)) pa_nil))))))) (pe_op op_mod (pv 1) pe_int) (fun _ _ => rfl)) (pg_sub (pv 3) (pv 0) set_list))
    (pss_cons (ps_asg (pe_ix ix_list (pv 4) (pe_op op_mod (pe_op op_add (pv 0) pe_int) pe_int) (fun _ _ => rfl)) (pg_sub (pv 4) (pv 0) set_list))
    (pss_cons (ps_for PassesOwn.never rfl (pi_tup (pe_tup (pa_cons (pv 3) (pa_cons (pv 4) (pa_cons (pe_listRg rfl (by rfl) T.m_list (prg_1 (by rfl) T.m_range pe_int)) (pa_cons (pe_callTy call_tuple_of (by rfl) T.m_tuple (by decide +kernel) (pa_cons (pv 2) pa_nil)) (pa_cons (pe_lst pa_nil) (pa_cons (pe_slice sl_list (pv 2) po_none (po_some pe_int)) pa_nil)))))))) (pg_name (i := 5) sc_law_spoiled_right.nd rfl (.inr rfl))
      (pss_cons (ps_for PassesOwn.never rfl (pi_tup (pe_tup (pa_cons (pe_glob (v := .ref T.judged.f) rfl T.judged.g rfl) (pa_cons (pe_glob (v := .ref T.mended.f) rfl T.mended.g rfl) (pa_cons (pe_glob (v := .ref T.opened.f) rfl T.opened.g rfl) pa_nil))))) (pg_name (i := 6) sc_law_spoiled_right.nd rfl (.inr rfl))
        (pss_one (ps_if (pt_cmpR (op_neD hr.units) (pe_kinds (Tb := lamTb T) (k := 5) T TB rfl hmT huT (hr.mono (by decide)) (LamX.lamS_by (sc := defScope s_law_spoiled_right) (by decide +kernel)) (fun A outer s H E f c' hr => (pe_callAX (i := 6) (heldS T) (hr.mono (by decide)) rfl (.inr (.inr rfl)) (takes_of rfl rfl rfl rfl) (fun _ _ _ _ h => h) (pa_cons (pv 5) (pa_cons pe_int pa_nil))))) (pe_df T.law_due (ok_law_due T) (hr.mono (by decide)) (pa_cons pe_int pa_nil)) (nomark _))
          (pss_one (ps_ret pe_bl))
          pss_nil)))
      (pss_cons (ps_if (pt_cmpR (op_neD hr.units) (pe_kinds (Tb := lamTb T) (k := 5) T TB rfl hmT huT (hr.mono (by decide)) (LamX.lamS_by (sc := defScope s_law_spoiled_right) (by decide +kernel)) (fun A outer s H E f c' hr => (pe_dfX T.rings (okb_rings T) (hr.mono (by decide)) (takes_of rfl rfl rfl rfl) (fun _ _ _ _ h => h) (pa_cons (pv 5) pa_nil)))) (pe_df T.law_due (ok_law_due T) (hr.mono (by decide)) (pa_cons pe_int pa_nil)) (nomark _))
        (pss_one (ps_ret pe_bl))
        pss_nil)
      (pss_one (ps_if (pt_cmpR (op_neD hr.units) (pe_kinds (Tb := lamTb T) (k := 5) T TB rfl hmT huT (hr.mono (by decide)) (LamX.lamS_by (sc := defScope s_law_spoiled_right) (by decide +kernel)) (fun A outer s H E f c' hr => (pe_dfX T.number_of (okb_number_of T) (hr.mono (by decide)) (takes_of rfl rfl rfl rfl) (fun _ _ _ _ h => h) (pa_cons (pv 5) (pa_cons pe_int pa_nil))))) (pe_df T.law_due (ok_law_due T) (hr.mono (by decide)) (pa_cons pe_int pa_nil)) (nomark _))
        (pss_one (ps_ret pe_bl))
        pss_nil)))))
    (pss_cons (ps_if (pt_cmpR (op_neD hr.units) (pe_df T.opened (ok_opened T) (hr.mono (by decide)) (pa_cons (pv 2) (pa_cons (pv 0) pa_nil))) (pe_op op_cat (pe_listRg rfl (by rfl) T.m_list (prg_2 (by rfl) T.m_range (pv 0) pe_int)) (pe_listRg rfl (by rfl) T.m_list (prg_1 (by rfl) T.m_range (pv 0)))) (nomark _))
      (pss_one (ps_ret pe_bl))
      pss_nil)
    (pss_one (ps_ret (pe_and (pe_cmpR (op_eqD hr.units) (pe_kinds (Tb := lamTb T) (k := 5) T TB rfl hmT huT (hr.mono (by decide)) (LamX.lamS_by (sc := defScope s_law_spoiled_right) (by decide +kernel)) (fun A outer s H E f c' hr => (pe_dfX T.number_of (okb_number_of T) (hr.mono (by decide)) (takes_of rfl rfl rfl rfl) (fun _ _ _ _ h => h) (pa_cons (pe_listRg rfl (by rfl) T.m_list (prg_1 (by rfl) T.m_range pe_int)) (pa_cons pe_int pa_nil))))) (pe_df T.law_due (ok_law_due T) (hr.mono (by decide)) (pa_cons pe_int pa_nil)) (nomark _)) (pe_one (pe_cmpR op_gt (pe_df T.how_many (ok_how_many T) (hr.mono (by decide)) (pa_cons pe_int (pa_cons pe_int pa_nil))) (pe_op op_pow pe_int pe_int) (nomark _)))))))))))), ?_⟩
    refine ⟨1, 40, rfl, rfl, RgOk.of_le (by omega) (by omega) (by omega) (by omega), fun c1 nn1 => ?_⟩
    generalize hG : upd _ c1 _ = G1
    obtain ⟨u1, f1⟩ := gen_upd nn1 hG
    clear hG
    rw [show (1 : Int) = ((1 : Nat) : Int) from rfl, show (40 : Int) = ((40 : Nat) : Int) from rfl, rgV_from] at f1
    refine ⟨sz (by simp), fun c2 nn2 => ?_⟩
    generalize hG : upd _ c2 _ = G2
    obtain ⟨u2, f2⟩ := gen_upd nn2 hG
    clear hG
    refine ⟨c1, c2, _, _, rfl, rfl, u2 _ _ f1, f2, sz (by rw [iv_len, List.length_range']; decide), fun go nn3 => ?_⟩
    generalize hG : upd _ go _ = G3
    obtain ⟨u3, f3⟩ := gen_upd nn3 hG
    clear hG
    have ego : G3 go = some (.lst (iv G40)) := f3
    refine ⟨_, rfl, go, _, rfl, .inl (.of ego), fun ba nba => ?_⟩
    generalize hG : upd _ ba _ = G4
    obtain ⟨u4, eba⟩ := gen_upd nba hG
    clear hG
    refine ⟨_, rfl, go, _, rfl, .inl (.of (u4 _ _ ego)), fun tw ntw => ?_⟩
    generalize hG : upd _ tw _ = G5
    obtain ⟨u5, etw⟩ := gen_upd ntw hG
    clear hG
    refine ⟨_, _, rfl, ?_⟩
    have u13 := (u1.trans u2).trans u3
    have nbaH : H ba = none := u13.free nba
    have ntwH : H tw = none := (u13.trans u4).free ntw
    have eba5 := u5 _ _ eba
    have ego5 := u5 _ _ (u4 _ _ ego)
    have nbt : ba ≠ tw := ne_of_none eba ntw
    have ngb : go ≠ ba := ne_of_none ego nba
    have ngt : go ≠ tw := ne_of_none (u4 _ _ ego) ntw
    have uH5 := (u13.trans u4).trans u5
    clear u1 u2 u3 u4 u5 f1 f2 f3 nba ntw
    -- the strange slip
    refine ⟨1, rfl, sz (by simp), fun sl nsl => ?_⟩
    generalize hG : upd _ sl _ = G6
    obtain ⟨u6, fsl⟩ := gen_upd nsl hG
    clear hG
    refine ⟨sz (by simp), fun st nn4 => ?_⟩
    generalize hG : upd _ st _ = G7
    obtain ⟨u7, fst⟩ := gen_upd nn4 hG
    clear hG
    have fsl7 := u7 _ _ fsl
    have nsb : sl ≠ ba := (ne_of_none eba5 nsl).symm
    have nstw : sl ≠ tw := (ne_of_none etw nsl).symm
    have h60 := Int.emod_nonneg at_ (show (6 : Int) ≠ 0 by decide)
    have h66 := Int.emod_lt_of_pos at_ (show (0 : Int) < 6 by decide)
    obtain ⟨v, hv, hbv⟩ : ∃ v, atI [V.non, .bl true, .int (-1), .int 40, .str "1", .ref sl] (at_ % 6) = some v ∧ ∀ H', H' sl = some (.lst [V.int 1]) → BadH H' v ((G40.length : Nat) : Int) := by
      generalize at_ % 6 = k at h60 h66
      have hk : k = 0 ∨ k = 1 ∨ k = 2 ∨ k = 3 ∨ k = 4 ∨ k = 5 := by omega
      rcases hk with rfl | rfl | rfl | rfl | rfl | rfl
      · exact ⟨_, atI_nat (j := 0) rfl, fun _ _ => .inl .non⟩
      · exact ⟨_, atI_nat (j := 1) rfl, fun _ _ => .inl (.bl _)⟩
      · exact ⟨_, atI_nat (j := 2) rfl, fun _ _ => .inr ⟨_, rfl, .inl (by omega)⟩⟩
      · exact ⟨_, atI_nat (j := 3) rfl, fun _ _ => .inr ⟨_, rfl, .inr (by decide)⟩⟩
      · exact ⟨_, atI_nat (j := 4) rfl, fun _ _ => .inl (.str _)⟩
      · exact ⟨_, atI_nat (j := 5) rfl, fun _ e => .inl (.lst e)⟩
    have u67 := u6.trans u7
    have eba7 := u67 _ _ eba5
    refine ⟨_, rfl, _, 6, rfl, rfl, (by show (0 : Int) < 6; decide), st, _, _, v, rfl, rfl, .of fst, hv, ?_⟩
    refine ⟨_, rfl, _, rfl, ba, _, _, pl, rfl, rfl, eba7, by rw [iv_len]; exact ixN_nat hpl, ?_⟩
    have uH8 : Same H (upd G7 ba (.lst ((iv G40).set pl v))) := same_mut (uH5.trans u67) nbaH
    have eba8 : (upd G7 ba (.lst ((iv G40).set pl v))) ba = some (.lst ((iv G40).set pl v)) := upd_same
    have ego8 : (upd G7 ba (.lst ((iv G40).set pl v))) go = some (.lst (iv G40)) := by rw [upd_ne ngb]; exact u67 _ _ ego5
    have etw8 : (upd G7 ba (.lst ((iv G40).set pl v))) tw = some (.lst (iv G40)) := by rw [upd_ne nbt.symm]; exact u67 _ _ etw
    have esl8 : (upd G7 ba (.lst ((iv G40).set pl v))) sl = some (.lst [V.int 1]) := by rw [upd_ne nsb]; exact fsl7
    generalize upd G7 ba (.lst ((iv G40).set pl v)) = G8 at *
    -- the slip twice
    have hk2 : (pl + 1) % 40 < G40.length := Nat.mod_lt _ (by decide)
    have hy := nxt_get? hk2
    generalize nxt G40 ((pl + 1) % 40) = yv at hy
    refine ⟨_, rfl, _, rfl, pl, 1, rfl, rfl, _, 40, rfl, rfl, (by show (0 : Int) < 40; decide), tw, _, _, .int (yv : Int), rfl, rfl, .of etw8, ?_, ?_⟩
    · show atI (iv G40) (((pl : Int) + 1) % 40) = _
      rw [show ((pl : Int) + 1) % 40 = (((pl + 1) % 40 : Nat) : Int) by push_cast; rfl]
      exact iv_at hy
    refine ⟨_, rfl, _, rfl, tw, _, _, pl, rfl, rfl, etw8, by rw [iv_len]; exact ixN_nat hpl, ?_⟩
    have uH9 : Same H (upd G8 tw (.lst ((iv G40).set pl (.int (yv : Int))))) := same_mut uH8 ntwH
    have etw9 : (upd G8 tw (.lst ((iv G40).set pl (.int (yv : Int))))) tw = some (.lst ((iv G40).set pl (.int (yv : Int)))) := upd_same
    have ego9 : (upd G8 tw (.lst ((iv G40).set pl (.int (yv : Int))))) go = some (.lst (iv G40)) := by rw [upd_ne ngt]; exact ego8
    have eba9 : (upd G8 tw (.lst ((iv G40).set pl (.int (yv : Int))))) ba = some (.lst ((iv G40).set pl v)) := by rw [upd_ne nbt]; exact eba8
    have esl9 : (upd G8 tw (.lst ((iv G40).set pl (.int (yv : Int))))) sl = some (.lst [V.int 1]) := by rw [upd_ne nstw]; exact esl8
    generalize upd G8 tw (.lst ((iv G40).set pl (.int (yv : Int)))) = G9 at *
    -- the six
    refine ⟨_, rfl, _, rfl, _, rfl, RgOk.of_le (by omega) (by omega) (by omega) (by omega), fun r1 nn5 => ?_⟩
    generalize hG : upd _ r1 _ = I1
    obtain ⟨v1, e1⟩ := gen_upd nn5 hG
    clear hG
    rw [show (41 : Int) = ((41 : Nat) : Int) from rfl, rgV_iv, iv_eq] at e1
    refine ⟨_, rfl, go, _, rfl, .inl ⟨.of (v1 _ _ ego9), fun r2 nn6 => ?_⟩⟩
    generalize hG : upd _ r2 _ = I2
    obtain ⟨v2, e2⟩ := gen_upd nn6 hG
    clear hG
    refine ⟨Nat.zero_le _, fun r3 nn7 => ?_⟩
    generalize hG : upd _ r3 _ = I3
    obtain ⟨v3, e3⟩ := gen_upd nn7 hG
    clear hG
    have v13 := (v1.trans v2).trans v3
    refine ⟨_, rfl, 39, rfl, go, _, rfl, .of (v13 _ _ ego9), fun r4 nn8 => ?_⟩
    generalize hG : upd _ r4 _ = I4
    obtain ⟨v4, e4⟩ := gen_upd nn8 hG
    clear hG
    rw [show (39 : Int) = ((39 : Nat) : Int) from rfl, cut_to, ← List.map_take] at e4
    refine ⟨sz (by simp), fun tt nn9 => ?_⟩
    generalize hG : upd _ tt _ = I5
    obtain ⟨v5, e5⟩ := gen_upd nn9 hG
    clear hG
    refine ⟨tt, rfl, ⟨_, .of e5⟩, ?_⟩
    have v35 := v4.trans v5
    have v25 := v3.trans v35
    have v15 := v2.trans v25
    have v05 := v1.trans v15
    have hbad : ∀ x ∈ [V.ref ba, V.ref tw, V.ref r1, V.ref r2, V.ref r3, V.ref r4], BadB I5 x 40 := by
      intro x hx
      simp only [List.mem_cons, List.not_mem_nil, or_false] at hx
      rcases hx with rfl | rfl | rfl | rfl | rfl | rfl
      · exact bad_set (ns := G40) hpl (by decide) (hbv _ (v05 _ _ esl9)) (v05 _ _ eba9)
      · refine bad_twice (ns := G40) hpl hy ?_ (by decide) (v05 _ _ etw9)
        intro e
        rcases Nat.lt_or_ge (pl + 1) 40 with z | z
        · rw [Nat.mod_eq_of_lt z] at e
          omega
        · have : pl = 39 := by omega
          subst this
          exact absurd e (by decide)
      · exact bad_ints (v15 _ _ e1) (by decide) (.inr (.inl (by decide)))
      · exact .inl (.tup (v25 _ _ e2))
      · exact bad_ints (ns := []) (v35 _ _ e3) (by decide) (.inl (by decide))
      · have e4' : I5 r4 = some (.lst ((castN (G40.take 39)).map V.int)) := by rw [v5 _ _ e4, ← iv_eq]
        refine bad_ints e4' (by decide) (.inr (.inr fun pm => ?_))
        have := pm.mem_iff.mp (List.mem_map.mpr ⟨39, by decide, rfl⟩ : ((39 : Nat) : Int) ∈ castN (G40.take 39))
        obtain ⟨n, hn, en⟩ := List.mem_map.mp this
        rw [List.mem_range] at hn
        have h39 : (castN (G40.take 39)).length = 39 := by decide
        omega
    have ego5' := v05 _ _ ego9
    have hT5 : LamX.Tabs (lamTb T) I5 := hT.ext (uH9.trans v05)
    have eH5 : LamX.ExtN H I5 := .of (uH9.trans v05)
    clear v1 v2 v3 v4 v5 v13 v35 v25 v15 v05 e1 e2 e3 e4 hbv
    refine for_tup (K := K) (a := tt) (xs := [V.ref ba, V.ref tw, V.ref r1, V.ref r2, V.ref r3, V.ref r4]) (fun i σ H2 => ∃ y z, σ = [some (.int (pl : Int)), some (.int at_), some (.ref go), some (.ref ba), some (.ref tw), y, z] ∧ LamX.ExtN I5 H2 ∧ LamX.Tabs (lamTb T) H2) ⟨_, _, rfl, .refl _, hT5⟩ (fun i σ H2 _ h => ?_) (fun i x σ H2 hx h => ?_) (fun σ H2 h => ?_)
    · obtain ⟨y, z, rfl, e2, t2⟩ := h
      exact .of (e2 _ _ e5 fun ps z => nomatch z)
    · obtain ⟨y, z, rfl, e2, t2⟩ := h
      have hbx := (hbad x (List.mem_of_getElem? hx)).ext e2
      refine ⟨sz (by simp), fun pt np => ⟨pt, rfl, ⟨_, .of upd_same⟩, ?_⟩⟩
      have s5 := same_upd (o := .tup [V.ref T.judged.f, .ref T.mended.f, .ref T.opened.f]) np
      refine for_tup (K := K) (a := pt) (xs := [V.ref T.judged.f, .ref T.mended.f, .ref T.opened.f]) (fun j σ H6 => ∃ z, σ = [some (.int (pl : Int)), some (.int at_), some (.ref go), some (.ref ba), some (.ref tw), some x, z] ∧ LamX.ExtN (upd H2 pt (.tup [V.ref T.judged.f, .ref T.mended.f, .ref T.opened.f])) H6 ∧ LamX.Tabs (lamTb T) H6) ⟨_, rfl, .refl _, t2.ext s5⟩ (fun j σ H6 _ h => ?_) (fun j f σ H6 hf h => ?_) (fun σ H6 h => ?_)
      · obtain ⟨z, rfl, e6, t6⟩ := h
        exact .of (e6 _ _ upd_same fun ps z => nomatch z)
      · obtain ⟨z, rfl, e6, t6⟩ := h
        have e26 := (LamX.ExtN.of s5).trans e6
        obtain ⟨gf, sp, rfl, hS⟩ : ∃ gf sp, f = .ref gf ∧ SS T gf sp := by
          have := List.mem_of_getElem? hf
          simp only [List.mem_cons, List.not_mem_nil, or_false] at this
          rcases this with rfl | rfl | rfl
          · exact ⟨_, _, rfl, .inl ⟨rfl, rfl⟩⟩
          · exact ⟨_, _, rfl, .inr (.inl ⟨rfl, rfl⟩)⟩
          · exact ⟨_, _, rfl, .inr (.inr ⟨rfl, rfl⟩)⟩
        refine lam_ref T (kd_boxes T) t6 (fun H7 E7 Q7 e7 q7 => ?_) fun H7 p7 e7 t7 ep7 => ?_
        · exact ⟨gf, sp, rfl, hS, _, rfl, hS.asks T ((hbx.ext e26).ext e7) q7⟩
        refine ⟨0, rfl, fun H8 p8 s8 ep8 => ?_⟩
        refine ne_bl (x := dueB 0) (y := dueB 0) (.of (s8 _ _ ep7)) (.of ep8) ⟨_, rfl, iteF ?_⟩
        exact ⟨_, rfl, e6.trans (e7.trans (.of s8)), t7.ext s8⟩
      obtain ⟨z, rfl, e6, t6⟩ := h
      have e26 := (LamX.ExtN.of s5).trans e6
      refine lam_ref T (kd_boxes T) t6 (fun H7 E7 Q7 e7 q7 => ?_) fun H7 p7 e7 t7 ep7 => ?_
      · exact ⟨_, rfl, x, rfl, (hbx.ext e26).ext e7, q7⟩
      refine ⟨0, rfl, fun H8 p8 s8 ep8 => ?_⟩
      refine ne_bl (x := dueB 0) (y := dueB 0) (.of (s8 _ _ ep7)) (.of ep8) ⟨_, rfl, iteF ?_⟩
      have e28 := (e26.trans e7).trans (.of s8)
      have t8 := t7.ext s8
      refine lam_ref T (kd_boxes T) t8 (fun H9 E9 Q9 e9 q9 => ?_) fun H9 p9 e9 t9 ep9 => ?_
      · exact ⟨_, rfl, x, _, rfl, ((hbx.ext e28).ext e9).less (by omega), q9⟩
      refine ⟨0, rfl, fun Ha pa sa epa => ?_⟩
      refine ne_bl (x := dueB 0) (y := dueB 0) (.of (sa _ _ ep9)) (.of epa) ⟨_, rfl, iteF ?_⟩
      exact ⟨_, _, rfl, e2.trans ((e28.trans e9).trans (.of sa)), t9.ext sa⟩
    obtain ⟨y, z, rfl, e2, t2⟩ := h
    have ego2 := e2 _ _ ego5' nt
    refine ⟨_, rfl, _, rfl, go, G40, pl, rfl, .of ego2, gG40, hpl, by decide, fun H3 p3 s3 n3 e3 => ?_⟩
    refine ⟨_, rfl, _, 40, rfl, rfl, RgOk.of_le (by omega) (by omega) (by omega) (by omega), fun c1' nn10 => ?_⟩
    generalize hG : upd _ c1' _ = J1
    obtain ⟨w1, k1⟩ := gen_upd nn10 hG
    clear hG
    rw [show (40 : Int) = ((40 : Nat) : Int) from rfl, rgV_from] at k1
    refine ⟨_, rfl, _, rfl, RgOk.of_le (by omega) (by omega) (by omega) (by omega), fun c2' nn11 => ?_⟩
    generalize hG : upd _ c2' _ = J2
    obtain ⟨w2, k2⟩ := gen_upd nn11 hG
    clear hG
    rw [rgV_iv] at k2
    refine ⟨c1', c2', _, _, rfl, rfl, w2 _ _ k1, k2, sz (by rw [iv_len, iv_len, List.length_range', List.length_range]; omega), fun c3' nn12 => ?_⟩
    generalize hG : upd _ c3' _ = J3
    obtain ⟨w3, k3⟩ := gen_upd nn12 hG
    clear hG
    rw [iv_append] at k3
    have w13 := (w1.trans w2).trans w3
    refine ne_iv (x := ringOf G40 pl) (y := List.range' pl (40 - pl) ++ List.range pl) (.of (w13 _ _ e3)) (.of k3) ⟨_, rfl, iteNS (ring40 pl hpl) ?_⟩
    have s33 := s3.trans w13
    refine lam_ref T (kd_boxes T) (t2.ext s33) (fun H9 E9 Q9 e9 q9 => ?_) fun H9 p9 e9 t9 ep9 => ?_
    · refine ⟨_, rfl, RgOk.of_le (by omega) (by omega) (by omega) (by omega), fun pr nr => ?_⟩
      refine ⟨_, _, rfl, bad_ints (ns := (List.range 9).map fun (n : Nat) => (n : Int)) ?_ (by decide) (.inr (.inl (by decide))), fun H' s' => q9 _ ((same_upd nr).trans s')⟩
      rw [upd_same, show rgV 0 9 = ((List.range 9).map fun (n : Nat) => (n : Int)).map V.int by rw [show (9 : Int) = ((9 : Nat) : Int) from rfl, rgV_iv, iv_eq]]
    refine ⟨0, rfl, fun Ha pa sa epa => ?_⟩
    refine eq_bl (x := dueB 0) (y := dueB 0) (.of (sa _ _ ep9)) (.of epa) ⟨_, rfl, ?_⟩
    rw [decide_eq_true rfl]
    refine iteT ⟨100, 100, rfl, by omega, by omega, by omega, by omega, fun Hb sb => ?_⟩
    refine ⟨10, 60, rfl, rfl, ⟨by decide, by decide, by decide⟩, _, _, rfl, rfl, ?_⟩
    show Q (V.bl (decide ((10 : Int) ^ (60 : Int).toNat < ((hm 100 100 : Nat) : Int)))) Hb
    rw [show decide ((10 : Int) ^ (60 : Int).toNat < ((hm 100 100 : Nat) : Int)) = true by
      rw [decide_eq_true_iff]
      have h2 : (10 : Int) ^ (60 : Int).toNat = ((10 ^ 60 : Nat) : Int) := by decide
      rw [h2]
      exact Int.ofNat_lt.mpr hm100]
    exact q _ (eH5.trans (e2.trans ((LamX.ExtN.of s33).trans (e9.trans (.of (sa.trans sb)))))) (t9.ext (sa.trans sb))
end
end Sb
namespace Sb
open PySem PySem.Spec PyProof.Rows L2
theorem pe_df0 {X : Cx} {x : Str} {st : Stmt} {k : Nat} {sp : Sp} {p pos : Pos} (D : Df X.K X.mg x st []) (G : FnOk X.prog X.w X.K X.mg X.base CX0 k D.f D.fd [] sp) (hr : Room k X.A) (hg : Gl X x := by rfl) (hdb : (x == ("__debug__" : Str)) = false := by decide) :
    PE X (.Call (.Name x p) [] [] pos) (tCall sp [] E0 tNil) := pe_call0 G hr hg D.g D.F.kp D.b .nil pass0 hdb
section
variable {P : Program} {w : World} {K : PySem.W.Frag} {mg : Str → Option Value} {base : Heap}
/-! ### the law -/
def spLaw (T : Tx K mg) : Sp := fun vs H Q _ => ∃ (a : Addr) (cs : List Int), vs = [.ref a] ∧ SqL K H a (cs.map V.int) ∧ cs.length ≤ 63 ∧ Cells cs ∧ LamX.Tabs (lamTb T) H ∧ ∀ H', Q (.bl true) H'
abbrev n_law : List Str := ["_law_script", "_law_value_here", "_law_lengths", "_law_left", "_law_most", "_law_at", "_law_drawn", "_law_length", "_law_some", "_law_rows", "_law_many"]
theorem sc_law : FnScope n_law ["_law_script"] (defScope s_law) := ⟨rfl, rfl, rfl, by decide +kernel, rfl, by decide +kernel, by decide +kernel⟩
theorem ok_law (T : Tx K mg) (TB1 : LamX.TabB base mg T.L_law_numbers_right.c T.L_law_numbers_right.P) (TB2 : LamX.TabB base mg T.L_law_spoiled_right.c T.L_law_spoiled_right.P) {f : Addr} {fd : FuncData} (F : Fun K "law" "law" s_law f fd) : FnOk P w K mg base CX0 14 f fd ["_law_script"] (spLaw T) := by
  refine F.ok sc_law (fun vs H Q E h => ?_) (fun cdv A outer s H vs Q E hr h => ?_)
  · obtain ⟨a, cs, rfl, _⟩ := h
    rfl
  · obtain ⟨a, cs, rfl, hS, hlen, hC, hT, q⟩ := h
    refine ⟨_, (pss_cons (ps_set (i := 0) sc_law.nd rfl (.inl rfl) (pe_slice sl_list (pv 0) po_none (po_some pe_int)))
    (pss_cons (ps_set (i := 1) sc_law.nd rfl (.inl rfl) (pe_df T.law_value (ok_law_value T) (hr.mono (by decide)) (pa_cons (pe_df T.law_cell_at (ok_law_cell_at T) (hr.mono (by decide)) (pa_cons (pv 0) (pa_cons pe_int pa_nil))) (pa_cons pe_int pa_nil))))
    (pss_cons (ps_par3 (i := 2) (j := 3) (l := 4) (by rfl) sc_law.nd rfl rfl rfl (by decide) (by decide) (by decide) rfl rfl rfl (pa_cons (pe_lst pa_nil) (pa_cons pe_int (pa_cons (pe_op op_add pe_int (pe_op op_mod (pv 1) pe_int)) pa_nil))) (by rfl))
    (pss_cons (ps_while PassesOwn.never (pt_cmpR op_gt (pv 3) pe_int (nomark _))
      (pss_cons (ps_set (i := 5) sc_law.nd rfl (.inl rfl) (pe_callB call_len_seq (by rfl) T.m_len (by decide +kernel) (pa_cons (pv 2) pa_nil)))
      (pss_cons (ps_set (i := 6) sc_law.nd rfl (.inl rfl) (pe_df T.law_value (ok_law_value T) (hr.mono (by decide)) (pa_cons (pe_df T.law_cell_at (ok_law_cell_at T) (hr.mono (by decide)) (pa_cons (pv 0) (pa_cons (pe_op op_mod (pv 5) pe_int) pa_nil))) (pa_cons (pe_op op_mod (pv 5) pe_int) pa_nil))))
      (pss_cons (ps_set (i := 7) sc_law.nd rfl (.inl rfl) (pe_op op_add pe_int (pe_op op_mod (pv 6) (pe_callB (call_min2 rfl) (by rfl) T.m_min (by decide +kernel) (pa_cons (pv 3) (pa_cons (pe_op op_add pe_int (pe_op op_mod (pe_op op_fdiv (pv 1) pe_int) pe_int)) pa_nil))))))
      (pss_cons (ps_expr (pe_bm PySem.F.plainAttrs_list PySem.F.slot_list_append PySem.F.type_list_append mt_append (pv 2) (pa_cons (pv 7) pa_nil)))
      (pss_one (ps_set (i := 3) sc_law.nd rfl (.inl rfl) (pe_op op_sub (pv 3) (pv 7)))))))))
    (pss_cons (ps_set (i := 8) sc_law.nd rfl (.inl rfl) (pe_lst (pa_cons (pe_callB (call_min2 rfl) (by rfl) T.m_min (by decide +kernel) (pa_cons pe_int (pa_cons (pe_op op_mulX pe_int (pv 4)) pa_nil))) pa_nil)))
    (C8.pss_cut (ps_if (pt_cmpR op_lt (pe_ix ix_list (pv 8) pe_int (fun _ _ => rfl)) pe_int (nomark _))
      (pss_one (ps_expr (pe_bm PySem.F.plainAttrs_list PySem.F.slot_list_append PySem.F.type_list_append mt_append (pv 8) (pa_cons (pe_op op_sub pe_int (pe_ix ix_list (pv 8) pe_int (fun _ _ => rfl))) pa_nil))))
      pss_nil)
    (pss_cons (ps_for PassesOwn.never rfl (pi_tup (pe_tup (pa_cons (pv 2) (pa_cons (pv 8) (pa_cons (pe_lst (pa_cons pe_int pa_nil)) (pa_cons (pe_lst (pa_cons pe_int (pa_cons pe_int pa_nil))) pa_nil)))))) (pg_name (i := 9) sc_law.nd rfl (.inl rfl))
      (pss_one (ps_if (pt_not (pt_val (pe_df T.law_forty_right (ok_law_forty_right T) (hr.mono (by decide)) (pa_cons (pv 9) (pa_cons (pe_op op_add pe_int (pe_op op_mod (pe_op op_fdiv (pv 1) pe_int) pe_int)) (pa_cons (pv 4) pa_nil))))))
        (pss_one (ps_ret pe_bl))
        pss_nil)))
    (pss_cons (ps_if (pt_not (pt_val (pe_df T.law_numbers_right (ok_law_numbers_right T TB1) (hr.mono (by decide)) (pa_cons (pe_op op_add pe_int (pe_op op_mod (pe_op op_fdiv (pv 1) pe_int) pe_int)) (pa_cons pe_int (pa_cons (pe_op op_mod (pe_op op_fdiv (pv 1) pe_int) pe_int) pa_nil))))))
      (pss_one (ps_ret pe_bl))
      pss_nil)
    (pss_cons (ps_set (i := 10) sc_law.nd rfl (.inl rfl) (pe_op op_add pe_int (pe_op op_mod (pe_op op_fdiv (pv 1) pe_int) pe_int)))
    (pss_cons (ps_if (pt_not (pt_val (pe_df T.law_numbers_right (ok_law_numbers_right T TB1) (hr.mono (by decide)) (pa_cons (pv 10) (pa_cons (pe_op op_add pe_int (pe_op op_mod (pe_op op_fdiv (pv 1) pe_int) (pe_op op_sub (pv 10) pe_int))) (pa_cons (pe_op op_mod (pe_op op_fdiv (pv 1) pe_int) pe_int) pa_nil))))))
      (pss_one (ps_ret pe_bl))
      pss_nil)
    (pss_cons (ps_if (pt_not (pt_val (pe_df0 T.law_fields_right (ok_law_fields_right T) (hr.mono (by decide)))))
      (pss_one (ps_ret pe_bl))
      pss_nil)
    (pss_one (ps_ret (pe_and (pe_df T.law_spoiled_right (ok_law_spoiled_right T TB2) (hr.mono (by decide)) (pa_cons (pe_op op_mod (pe_op op_fdiv (pv 1) pe_int) pe_int) (pa_cons (pe_op op_fdiv (pv 1) pe_int) pa_nil))) (pe_one (pe_df T.law_spoiled_right (ok_law_spoiled_right T TB2) (hr.mono (by decide)) (pa_cons pe_int (pa_cons (pe_op op_fdiv (pv 1) pe_int) pa_nil)))))))))))))))))), ?_⟩
    refine ⟨_, rfl, 63, rfl, a, _, rfl, hS, fun sc nsc => ?_⟩
    rw [show (63 : Int) = ((63 : Nat) : Int) from rfl, cut_to, List.take_of_length_le (by rw [List.length_map]; omega)]
    have esc : (upd H sc (.lst (cs.map V.int))) sc = some (.lst (cs.map V.int)) := upd_same
    have tsc := hT.ext (same_upd (o := .lst (cs.map V.int)) nsc)
    generalize upd H sc (.lst (cs.map V.int)) = H0 at *
    refine ⟨_, rfl, sc, cs, 0, rfl, .of esc, hC, fun c hc => ?_⟩
    refine ⟨c, 3, rfl, hc, by omega, fun H1 v s1 hv => ?_⟩
    refine ⟨Nat.zero_le _, fun ln nln => ⟨_, rfl, v, 40, rfl, rfl, (by show (0 : Int) < 40; decide), 1, _, rfl, rfl, _, _, _, rfl, ?_⟩⟩
    obtain ⟨mo, emo, hmo1, hmo2⟩ : ∃ mo : Nat, (1 : Int) + v % 40 = (mo : Int) ∧ 1 ≤ mo ∧ mo ≤ 40 := by
      have e1 := Int.emod_nonneg v (show (40 : Int) ≠ 0 by decide)
      have e2 := Int.emod_lt_of_pos v (show (0 : Int) < 40 by decide)
      exact ⟨(1 + v % 40).toNat, by omega, by omega, by omega⟩
    have s2 := same_upd (o := .lst []) nln
    have eln : (upd H1 ln (.lst [])) ln = some (.lst (iv [])) := upd_same
    have esc2 := s2 _ _ (s1 _ _ esc)
    have nls : ln ≠ sc := (ne_of_none (s1 _ _ esc) nln).symm
    have nlnH : H0 ln = none := s1.free nln
    have s02 := s1.trans s2
    generalize upd H1 ln (.lst []) = H2 at *
    refine ⟨fun m σ H3 => ∃ (ls : List Nat) (left : Nat) (w5 w6 w7 : Option V), σ = [some (.ref sc), some (.int v), some (.ref ln), some (.int (left : Int)), some (.int (mo : Int)), w5, w6, w7, none, none, none] ∧ Same H0 H3 ∧ H3 ln = some (.lst (iv ls)) ∧ (∀ l ∈ ls, 1 ≤ l) ∧ ls.sum + left = 40 ∧ m = left,
      ⟨_, [], 40, none, none, none, by rw [← emo]; rfl, s02, eln, (fun l hl => by cases hl), rfl, rfl⟩, fun m σ H3 hW => ?_⟩
    obtain ⟨ls, left, w5, w6, w7, rfl, s3, eln3, hl1, hsum, rfl⟩ := hW
    refine ⟨_, rfl, m, 0, rfl, rfl, _, rfl, ?_⟩
    by_cases hleft : 0 < m
    · rw [show decide ((m : Int) > 0) = true from decide_eq_true (by omega)]
      refine iteT ?_
      have hll := len_le_sum ls hl1
      refine ⟨fun σ' H' => ∃ (ls' : List Nat) (left' : Nat) (w5 w6 w7 : Option V), σ' = [some (.ref sc), some (.int v), some (.ref ln), some (.int (left' : Int)), some (.int (mo : Int)), w5, w6, w7, none, none, none] ∧ Same H0 H' ∧ H' ln = some (.lst (iv ls')) ∧ (∀ l ∈ ls', 1 ≤ l) ∧ ls'.sum + left' = 40 ∧ left' < m, fun σ' H' hN => ?_, ?_⟩
      · obtain ⟨ls', left', w5, w6, w7, e1, e2, e3, e4, e5, e6⟩ := hN
        exact ⟨left', e6, ls', left', w5, w6, w7, e1, e2, e3, e4, e5, rfl⟩
      have esc3 := s3 _ _ esc
      refine ⟨_, rfl, ln, _, rfl, .inl (.of eln3), ?_⟩
      rw [iv_len]
      refine ⟨_, rfl, _, rfl, _, 4, rfl, rfl, (by show (0 : Int) < 4; decide), sc, cs, ls.length % 4, by push_cast; rfl, .of esc3, hC, fun c2 hc2 => ?_⟩
      refine ⟨_, rfl, _, 9, rfl, rfl, (by show (0 : Int) < 9; decide), c2, ls.length % 9, by push_cast; rfl, hc2, by omega, fun H4 d s4 hd => ?_⟩
      refine ⟨_, rfl, _, rfl, _, rfl, v, 40, rfl, rfl, ⟨by decide, by decide⟩, _, 38, rfl, rfl, (by show (0 : Int) < 38; decide), 3, _, rfl, rfl, _, _, rfl, ?_⟩
      have e38 := Int.emod_nonneg (v / 40) (show (38 : Int) ≠ 0 by decide)
      obtain ⟨mn, emn, hmn1, hmn2⟩ : ∃ mn : Int, (if 3 + v / 40 % 38 < (m : Int) then 3 + v / 40 % 38 else (m : Int)) = mn ∧ 1 ≤ mn ∧ mn ≤ (m : Int) := by
        by_cases h : 3 + v / 40 % 38 < (m : Int)
        · rw [if_pos h]; exact ⟨_, rfl, by omega, by omega⟩
        · rw [if_neg h]; exact ⟨_, rfl, by omega, by omega⟩
      dsimp only
      rw [emn]
      refine ⟨d, mn, rfl, rfl, (by show (0 : Int) < mn; omega), 1, _, rfl, rfl, ?_⟩
      have d1 := Int.emod_nonneg d (show mn ≠ 0 by omega)
      have d2 := Int.emod_lt_of_pos d (show 0 < mn by omega)
      obtain ⟨le, ele, hle1, hle2⟩ : ∃ le : Nat, (1 : Int) + d % mn = (le : Int) ∧ 1 ≤ le ∧ le ≤ m := ⟨(1 + d % mn).toNat, by omega, by omega, by omega⟩
      dsimp only
      rw [ele]
      have eln4 := s4 _ _ eln3
      refine ⟨_, rfl, .inl ⟨rfl, _, .of eln4⟩, _, rfl, ln, _, _, rfl, rfl, eln4, by rw [iv_len]; exact szl (by omega), ?_⟩
      refine ⟨_, rfl, _, rfl, _, _, rfl, rfl, ?_⟩
      refine ⟨ls ++ [le], m - le, some (.int (ls.length : Int)), some (.int d), some (.int (le : Int)), ?_, same_mut (s3.trans s4) nlnH, by rw [upd_same, iv_snoc], fun l hl => ?_, ?_, by omega⟩
      · rw [show ((m - le : Nat) : Int) = (m : Int) - (le : Int) by omega]
        rfl
      · rcases List.mem_append.mp hl with z | z
        · exact hl1 l z
        · simp at z; omega
      · rw [List.sum_append]
        simp
        omega
    rw [show decide ((m : Int) > 0) = false from decide_eq_false (by omega)]
    refine iteF ?_
    have hm0 : m = 0 := by omega
    subst hm0
    have hs40 : ls.sum = 40 := by omega
    -- some
    refine ⟨_, rfl, 2, mo, rfl, rfl, .of_left (bts2 (by decide) (by decide)), 40, _, rfl, ?_⟩
    obtain ⟨a0, ea0, ha1, ha2⟩ : ∃ a0 : Nat, (if 2 * (mo : Int) < 40 then 2 * (mo : Int) else 40) = (a0 : Int) ∧ 1 ≤ a0 ∧ a0 ≤ 40 := by
      by_cases h : 2 * (mo : Int) < 40
      · rw [if_pos h]; exact ⟨2 * mo, by push_cast; rfl, by omega, by omega⟩
      · rw [if_neg h]; exact ⟨40, rfl, by omega, by omega⟩
    refine ⟨sz (by simp), fun so nso => ?_⟩
    generalize hG : upd _ so _ = H4
    obtain ⟨t1, eso'⟩ := gen_upd nso hG
    clear hG
    have eso : H4 so = some (.lst (iv [a0])) := by
      rw [eso']
      show some (HO.lst [V.int (if 2 * (mo : Int) < 40 then 2 * (mo : Int) else 40)]) = some (HO.lst [V.int (a0 : Int)])
      rw [ea0]
    have eln4 := t1 _ _ eln3
    have nsoH : H0 so = none := s3.free nso
    have nsl : ln ≠ so := ne_of_none eln3 nso
    have s4 := s3.trans t1
    refine ⟨fun σ' H' => ∃ ss : List Nat, σ' = [some (.ref sc), some (.int v), some (.ref ln), some (.int ((0 : Nat) : Int)), some (.int (mo : Int)), w5, w6, w7, some (.ref so), none, none] ∧ Same H0 H' ∧ H' ln = some (.lst (iv ls)) ∧ H' so = some (.lst (iv ss)) ∧ (∀ l ∈ ss, 1 ≤ l) ∧ ss.sum = 40, ?_, fun σ' H5 hM => ?_⟩
    · refine ⟨_, rfl, so, _, 0, _, rfl, rfl, .of eso, atI_nat (j := 0) rfl, _, 40, rfl, rfl, _, rfl, ?_⟩
      by_cases h40 : a0 < 40
      · rw [show decide ((a0 : Int) < 40) = true from decide_eq_true (by omega)]
        refine iteT ⟨_, rfl, .inl ⟨rfl, _, .of eso⟩, _, rfl, so, _, 0, _, rfl, rfl, .of eso, atI_nat (j := 0) rfl, 40, _, rfl, rfl, so, _, _, rfl, rfl, eso, szl (by simp), ?_⟩
        refine ⟨[a0, 40 - a0], rfl, same_mut s4 nsoH, by rw [upd_ne nsl]; exact eln4, ?_, fun l hl => ?_, ?_⟩
        · rw [upd_same]
          show some (HO.lst [V.int (a0 : Int), V.int (40 - (a0 : Int))]) = some (HO.lst [V.int (a0 : Int), V.int ((40 - a0 : Nat) : Int)])
          rw [show ((40 - a0 : Nat) : Int) = 40 - (a0 : Int) by omega]
        · simp only [List.mem_cons, List.not_mem_nil, or_false] at hl
          omega
        · show a0 + (40 - a0 + 0) = 40
          omega
      · rw [show decide ((a0 : Int) < 40) = false from decide_eq_false (by omega)]
        refine iteF ⟨[a0], rfl, s4, eln4, eso, fun l hl => ?_, ?_⟩
        · simp only [List.mem_cons, List.not_mem_nil, or_false] at hl
          omega
        · show a0 + 0 = 40
          omega
    obtain ⟨ss, rfl, s5, eln5, eso5, hss1, hss2⟩ := hM
    refine ⟨_, rfl, _, rfl, sz (by simp), fun p1 n1 => ⟨sz (by simp), fun p2 n2 => ⟨sz (by simp), fun pt npt => ⟨pt, rfl, ⟨_, .of upd_same⟩, ?_⟩⟩⟩⟩
    have u1 := same_upd (o := .lst [V.int 40]) n1
    have u2 := same_upd (o := .lst [V.int 20, V.int 20]) n2
    have u3 := same_upd (o := .tup [V.ref ln, V.ref so, V.ref p1, V.ref p2]) npt
    have u13 := (u1.trans u2).trans u3
    have ept : (upd (upd (upd H5 p1 (.lst [V.int 40])) p2 (.lst [V.int 20, V.int 20])) pt (.tup [V.ref ln, V.ref so, V.ref p1, V.ref p2])) pt = some (.tup [V.ref ln, V.ref so, V.ref p1, V.ref p2]) := upd_same
    have ep1 := u3 _ _ (u2 _ _ (show (upd H5 p1 (.lst [V.int 40])) p1 = some (.lst (iv [40])) from upd_same))
    have ep2 := u3 _ _ (show (upd (upd H5 p1 (.lst [V.int 40])) p2 (.lst [V.int 20, V.int 20])) p2 = some (.lst (iv [20, 20])) from upd_same)
    have eln6 := u13 _ _ eln5
    have eso6 := u13 _ _ eso5
    have s6 := s5.trans u13
    generalize upd (upd (upd H5 p1 (.lst [V.int 40])) p2 (.lst [V.int 20, V.int 20])) pt (.tup [V.ref ln, V.ref so, V.ref p1, V.ref p2]) = H6 at *
    have hit : ∀ x ∈ [V.ref ln, V.ref so, V.ref p1, V.ref p2], ∃ (c : Addr) (rs : List Nat), x = .ref c ∧ H6 c = some (.lst (iv rs)) ∧ (∀ l ∈ rs, 1 ≤ l) ∧ rs.sum = 40 := by
      intro x hx
      simp only [List.mem_cons, List.not_mem_nil, or_false] at hx
      rcases hx with rfl | rfl | rfl | rfl
      · exact ⟨_, _, rfl, eln6, hl1, hs40⟩
      · exact ⟨_, _, rfl, eso6, hss1, hss2⟩
      · exact ⟨_, _, rfl, ep1, by decide, by decide⟩
      · exact ⟨_, _, rfl, ep2, by decide, by decide⟩
    obtain ⟨fc, efc, hfc⟩ : ∃ fc : Nat, (1 : Int) + v / 1520 % 39 = (fc : Int) ∧ fc ≤ 1000 := by
      have e1 := Int.emod_nonneg (v / 1520) (show (39 : Int) ≠ 0 by decide)
      have e2 := Int.emod_lt_of_pos (v / 1520) (show (0 : Int) < 39 by decide)
      exact ⟨(1 + v / 1520 % 39).toNat, by omega, by omega⟩
    refine for_tup (K := K) (a := pt) (xs := [V.ref ln, V.ref so, V.ref p1, V.ref p2]) (fun j σ H7 => ∃ w9, σ = [some (.ref sc), some (.int v), some (.ref ln), some (.int ((0 : Nat) : Int)), some (.int (mo : Int)), w5, w6, w7, some (.ref so), w9, none] ∧ Same H6 H7) ⟨_, rfl, .refl _⟩ (fun j σ H7 _ h => ?_) (fun j x σ H7 hx h => ?_) (fun σ H7 h => ?_)
    · obtain ⟨_, _, s7⟩ := h
      exact .of (s7 _ _ ept)
    · obtain ⟨w9, rfl, s7⟩ := h
      obtain ⟨c3, rs, rfl, ec3, hr1, hr2⟩ := hit x (List.mem_of_getElem? hx)
      refine ⟨_, rfl, _, rfl, v, 1520, rfl, rfl, ⟨by decide, by decide⟩, _, 39, rfl, rfl, (by show (0 : Int) < 39; decide), 1, _, rfl, rfl, _, rfl, c3, rs, fc, mo, by rw [← efc]; rfl, .of (s7 _ _ ec3), hr1, hr2, hfc, hmo1, hmo2, fun H8 s8 => ⟨_, rfl, iteF ⟨_, rfl, s7.trans s8⟩⟩⟩
    obtain ⟨w9, rfl, s7⟩ := h
    have t7 := tsc.ext (s6.trans s7)
    clear hit
    have red : ∀ (x k : Int) (n : Nat), 0 < k → k = (n : Int) → ∃ z : Nat, x % k = (z : Int) ∧ z < n := fun x k n hk e => by
      have e1 := Int.emod_nonneg x (show k ≠ 0 by omega)
      have e2 := Int.emod_lt_of_pos x hk
      exact ⟨(x % k).toNat, by omega, by omega⟩
    obtain ⟨z1, ez1, hz1⟩ := red (v / 7) 100 100 (by decide) rfl
    obtain ⟨z2, ez2, hz2⟩ := red (v / 11) 40320 40320 (by decide) rfl
    refine ⟨_, rfl, v, 7, rfl, rfl, ⟨by decide, by decide⟩, _, 100, rfl, rfl, (by show (0 : Int) < 100; decide), 1, _, rfl, rfl, _, rfl, v, 11, rfl, rfl, ⟨by decide, by decide⟩, _, 40320, rfl, rfl, (by show (0 : Int) < 40320; decide), 1 + z1, 1, z2, ?_, by omega, by omega, by omega, by omega, hz2, t7, fun H8 e8 t8 => ⟨_, rfl, iteF ?_⟩⟩
    · show [V.int (1 + v / 7 % 100), V.int 1, V.int (v / 11 % 40320)] = [V.int ((1 + z1 : Nat) : Int), V.int ((1 : Nat) : Int), V.int (z2 : Int)]
      rw [ez1, ez2]
      push_cast
      rfl
    obtain ⟨z3, ez3, hz3⟩ := red (v / 13) 99 99 (by decide) rfl
    refine ⟨_, rfl, v, 13, rfl, rfl, ⟨by decide, by decide⟩, _, 99, rfl, rfl, (by show (0 : Int) < 99; decide), 2, _, rfl, rfl, ?_⟩
    dsimp only
    rw [ez3]
    obtain ⟨z4, ez4, hz4⟩ := red (v / 17) (2 + (z3 : Int) - 1) (z3 + 1) (by omega) (by omega)
    obtain ⟨z5, ez5, hz5⟩ := red (v / 19) 40320 40320 (by decide) rfl
    refine ⟨_, rfl, _, rfl, v, 17, rfl, rfl, ⟨by decide, by decide⟩, _, rfl, _, 1, rfl, rfl, _, _, rfl, rfl, (by show (0 : Int) < 2 + (z3 : Int) - 1; omega), 2, _, rfl, rfl, _, rfl, v, 19, rfl, rfl, ⟨by decide, by decide⟩, _, 40320, rfl, rfl, (by show (0 : Int) < 40320; decide), 2 + z3, 2 + z4, z5, ?_, by omega, by omega, by omega, by omega, hz5, t8, fun H9 e9 t9 => ⟨_, rfl, iteF ?_⟩⟩
    · show [V.int (2 + (z3 : Int)), V.int (2 + v / 17 % (2 + (z3 : Int) - 1)), V.int (v / 19 % 40320)] = [V.int ((2 + z3 : Nat) : Int), V.int ((2 + z4 : Nat) : Int), V.int (z5 : Int)]
      rw [ez4, ez5]
      push_cast
      rfl
    refine ⟨rfl, fun Ha sa => ⟨_, rfl, iteF ?_⟩⟩
    obtain ⟨z6, ez6, hz6⟩ := red (v / 23) 40 40 (by decide) rfl
    refine ⟨_, rfl, v, 23, rfl, rfl, ⟨by decide, by decide⟩, _, 40, rfl, rfl, (by show (0 : Int) < 40; decide), _, rfl, v, 920, rfl, rfl, ⟨by decide, by decide⟩, z6, v / 920, ?_, hz6, t9.ext sa, fun Hb eb tb => ⟨_, rfl, ?_⟩⟩
    · show [V.int (v / 23 % 40), V.int (v / 920)] = [V.int (z6 : Int), V.int (v / 920)]
      rw [ez6]
    refine iteT ⟨_, rfl, v, 920, rfl, rfl, ⟨by decide, by decide⟩, 39, v / 920, rfl, by decide, tb, fun Hc ec tc => q _⟩
end
end Sb
namespace Sb
open PySem PySem.Spec PyProof.Rows L2
/-! ### the end with tables -/
theorem tab_mk {K : PySem.W.Frag} {x : Str} {f c P : Addr} {oc occ : Value} {od odc : Option Addr} {fd : FuncData} {osl slc : Array (Option Value)} {vs : Array Value} (a : PySem.W.nsIn K mainGlobals x = some (some (.ref f))) (l : K.lookup f = some ⟨oc, od, .func fd, osl⟩) (hc : fd.code = .ref c)
    (lc : K.lookup c = some ⟨occ, odc, .fields vs, slc⟩) (vp : vs[11]? = some (.ref P)) : PySem.W.tabIn K x = some (c, P) := by
  unfold PySem.W.tabIn
  simp only [a, l, hc, lc, vp]
theorem walk_ofTt {l : PySem.W.OpenLaw} {n k : Nat} {q : Program} {loose : List Str} {XP : (Str → Option Value) → Heap → Prop} {YP : World → Heap → Prop} {d : DefRec} {K : Params → PySem.W.Frag} {CX : World → CXT} {x : Str}
    (hn : l.most = some n) (hn2 : n ≤ sizeLine) (hdf : d.params.defaults = []) (hr : Room k callerA) (hY : ∀ (w : World) (h : Heap), YP w h → (K w.params).In h)
    (F : ∀ (w : World) (mg : Str → Option Value) (fa : Addr) (h : Heap), YP w h → (K w.params).In h → h.Ns mainGlobals mg → mg d.name = some (.ref fa) →
      (∀ (y : Str) (d' : DefRec) (c P : Addr), (recsOf q).find? (fun e => e.name == y) = some d' → PySem.W.tabIn (K w.params) y = some (c, P) → PySem.W.CodeHd h c P ∧ h.get? P = some (PySem.W.tabObj #[])) → LamX.LawAtS l w (K w.params) (CX w) k n x mg fa h)
    (hCX : ∀ (w : World) (H : Hp) (s : Shared) (e : Value) (s' : Shared), CX w [] H s (fun _ _ _ => False) e s' → False) :
    PySem.W.WalkO q loose XP YP l.row.toRowW d [] (fun f vs => PySem.call f vs) := by
  refine Att.attach_callB hn hdf fun w s₀ s₁ mg mb fa o pm cd doc a vs ns G Y ho hd hcd hmg hobj hints hlen hbits hg => ?_
  have KX := hY w _ Y
  obtain ⟨fd, cs, sp, hT, nT, C, hb, hsp, hF⟩ := F w mg fa _ Y KX G.T.g hmg (fun y d' c P h1 h2 => PySem.W.tab_of G.T KX h1 h2)
  exact LamX.law_callTs KX G.T.g G.T.b G.T.builtins G.T.nolimit hg hT nT C G.T.bmain hobj hints (Nat.le_trans hlen hn2) hr hF hb (fun H hH hS => hsp H a ns hlen hbits hH hS) fun H e s' => hCX w H s₁ e s'
end Sb
namespace Sb
open PySem PySem.Spec PyProof.Rows L2
theorem law_at {l : PySem.W.OpenLaw} {w : World} {K : PySem.W.Frag} {h : Heap} {mg : Str → Option Value} (T : Tx K mg) {f : Addr} {fd : FuncData} (F : Fun K "law" "law" s_law f fd) (hb : ∀ (s : Shared) (v : Value), BindsTo s fd ⟨[v], []⟩ [("_law_script", v)])
    (t1 : ∀ c P, PySem.W.tabIn K "_law_numbers_right" = some (c, P) → PySem.W.CodeHd h c P ∧ h.get? P = some (PySem.W.tabObj #[])) (t2 : ∀ c P, PySem.W.tabIn K "_law_spoiled_right" = some (c, P) → PySem.W.CodeHd h c P ∧ h.get? P = some (PySem.W.tabObj #[])) :
    LamX.LawAtS l w K CX0 14 63 "_law_script" mg f h := by
  have u1 := t1 _ _ T.L_law_numbers_right.tab
  have u2 := t2 _ _ T.L_law_spoiled_right.tab
  have all : ∀ {p : Addr × Addr} {Z : Addr × Addr → Prop}, p ∈ [(T.L_law_numbers_right.c, T.L_law_numbers_right.P), (T.L_law_spoiled_right.c, T.L_law_spoiled_right.P)] → Z (T.L_law_numbers_right.c, T.L_law_numbers_right.P) → Z (T.L_law_spoiled_right.c, T.L_law_spoiled_right.P) → Z p := by
    intro p Z hp a b
    simp only [List.mem_cons, List.not_mem_nil, or_false] at hp
    rcases hp with rfl | rfl
    · exact a
    · exact b
  have m1 : (T.L_law_numbers_right.c, T.L_law_numbers_right.P) ∈ [(T.L_law_numbers_right.c, T.L_law_numbers_right.P), (T.L_law_spoiled_right.c, T.L_law_spoiled_right.P)] := by simp
  have m2 : (T.L_law_spoiled_right.c, T.L_law_spoiled_right.P) ∈ [(T.L_law_numbers_right.c, T.L_law_numbers_right.P), (T.L_law_spoiled_right.c, T.L_law_spoiled_right.P)] := by simp
  refine ⟨fd, [(T.L_law_numbers_right.c, T.L_law_numbers_right.P), (T.L_law_spoiled_right.c, T.L_law_spoiled_right.P)], spLaw T, fun p hp => ?_, fun p hp => ?_, fun p hp => ?_, hb, fun H a ns hl hbt hH hS => ?_, fun base _ _ TB => ok_law T (TB _ m1) (TB _ m2) F⟩
  · exact all (Z := fun p => h.get? p.2 = some (PySem.W.tabObj #[])) hp u1.2 u2.2
  · exact all (Z := fun p => K.lookup p.2 = none) hp T.L_law_numbers_right.np T.L_law_spoiled_right.np
  · exact all (Z := fun p => PySem.W.CodeHd h p.1 p.2) hp u1.1 u2.1
  · refine ⟨a, ns, rfl, hS, hl, hbt, fun p hp => ?_, fun _ => rfl⟩
    simp only [lamTb, List.mem_cons, List.not_mem_nil, or_false] at hp
    rcases hp with rfl | rfl
    · exact .nil (hH _ m1)
    · exact .nil (hH _ m2)
end Sb
/-! ### what the top has written; the law's own head -/
namespace Sb
open PySem PySem.Spec PyProof.Rows L2
theorem all_mk {l : PySem.W.OpenLaw} {w : World} {K : PySem.W.Frag} {h : Heap} {mg : Str → Option Value} {fa : Addr} (X : K.In h) (G : h.Ns mainGlobals mg) (hfa : mg "law" = some (.ref fa))
    (t_law_numbers_right : ∀ c P, PySem.W.tabIn K "_law_numbers_right" = some (c, P) → PySem.W.CodeHd h c P ∧ h.get? P = some (PySem.W.tabObj #[]))
    (t_law_spoiled_right : ∀ c P, PySem.W.tabIn K "_law_spoiled_right" = some (c, P) → PySem.W.CodeHd h c P ∧ h.get? P = some (PySem.W.tabObj #[]))
    {f0 : Addr} {od0 an0 : Option Addr} {sl0 : Array (Option Value)} {oc0 kV0 dc0 pm0 cd0 ct0 : Value}
    (a0 : PySem.W.nsIn K mainGlobals "is_whole" = some (some (.ref f0))) (l0 : K.lookup f0 = some ⟨oc0, od0, .func (PySem.W.fnOf "is_whole" "is_whole" (defArgs s_is_whole) (defBody s_is_whole) (defScope s_is_whole) .none kV0 dc0 pm0 an0 cd0 ct0), sl0⟩) (e0 : PySem.W.codeIn K cd0 "is_whole" = true) (k0 : PySem.W.keepIn K (.ref f0) = true)
    {f1 : Addr} {od1 an1 : Option Addr} {sl1 : Array (Option Value)} {oc1 kV1 dc1 pm1 cd1 ct1 : Value}
    (a1 : PySem.W.nsIn K mainGlobals "check_boxes" = some (some (.ref f1))) (l1 : K.lookup f1 = some ⟨oc1, od1, .func (PySem.W.fnOf "check_boxes" "check_boxes" (defArgs s_check_boxes) (defBody s_check_boxes) (defScope s_check_boxes) .none kV1 dc1 pm1 an1 cd1 ct1), sl1⟩) (e1 : PySem.W.codeIn K cd1 "check_boxes" = true) (k1 : PySem.W.keepIn K (.ref f1) = true)
    {f2 : Addr} {od2 an2 : Option Addr} {sl2 : Array (Option Value)} {oc2 kV2 dc2 pm2 cd2 ct2 : Value}
    (a2 : PySem.W.nsIn K mainGlobals "ring_from" = some (some (.ref f2))) (l2 : K.lookup f2 = some ⟨oc2, od2, .func (PySem.W.fnOf "ring_from" "ring_from" (defArgs s_ring_from) (defBody s_ring_from) (defScope s_ring_from) .none kV2 dc2 pm2 an2 cd2 ct2), sl2⟩) (e2 : PySem.W.codeIn K cd2 "ring_from" = true) (k2 : PySem.W.keepIn K (.ref f2) = true)
    {f3 : Addr} {od3 an3 : Option Addr} {sl3 : Array (Option Value)} {oc3 kV3 dc3 pm3 cd3 ct3 : Value}
    (a3 : PySem.W.nsIn K mainGlobals "opened" = some (some (.ref f3))) (l3 : K.lookup f3 = some ⟨oc3, od3, .func (PySem.W.fnOf "opened" "opened" (defArgs s_opened) (defBody s_opened) (defScope s_opened) .none kV3 dc3 pm3 an3 cd3 ct3), sl3⟩) (e3 : PySem.W.codeIn K cd3 "opened" = true) (k3 : PySem.W.keepIn K (.ref f3) = true)
    {f4 : Addr} {od4 an4 : Option Addr} {sl4 : Array (Option Value)} {oc4 kV4 dc4 pm4 cd4 ct4 : Value}
    (a4 : PySem.W.nsIn K mainGlobals "rings_of" = some (some (.ref f4))) (l4 : K.lookup f4 = some ⟨oc4, od4, .func (PySem.W.fnOf "rings_of" "rings_of" (defArgs s_rings_of) (defBody s_rings_of) (defScope s_rings_of) .none kV4 dc4 pm4 an4 cd4 ct4), sl4⟩) (e4 : PySem.W.codeIn K cd4 "rings_of" = true) (k4 : PySem.W.keepIn K (.ref f4) = true)
    {f5 : Addr} {od5 an5 : Option Addr} {sl5 : Array (Option Value)} {oc5 kV5 dc5 pm5 cd5 ct5 : Value}
    (a5 : PySem.W.nsIn K mainGlobals "rings" = some (some (.ref f5))) (l5 : K.lookup f5 = some ⟨oc5, od5, .func (PySem.W.fnOf "rings" "rings" (defArgs s_rings) (defBody s_rings) (defScope s_rings) .none kV5 dc5 pm5 an5 cd5 ct5), sl5⟩) (e5 : PySem.W.codeIn K cd5 "rings" = true) (k5 : PySem.W.keepIn K (.ref f5) = true)
    {f6 : Addr} {od6 an6 : Option Addr} {sl6 : Array (Option Value)} {oc6 kV6 dc6 pm6 cd6 ct6 : Value}
    (a6 : PySem.W.nsIn K mainGlobals "exchanged" = some (some (.ref f6))) (l6 : K.lookup f6 = some ⟨oc6, od6, .func (PySem.W.fnOf "exchanged" "exchanged" (defArgs s_exchanged) (defBody s_exchanged) (defScope s_exchanged) .none kV6 dc6 pm6 an6 cd6 ct6), sl6⟩) (e6 : PySem.W.codeIn K cd6 "exchanged" = true) (k6 : PySem.W.keepIn K (.ref f6) = true)
    {f7 : Addr} {od7 an7 : Option Addr} {sl7 : Array (Option Value)} {oc7 kV7 dc7 pm7 cd7 ct7 : Value}
    (a7 : PySem.W.nsIn K mainGlobals "long_rings" = some (some (.ref f7))) (l7 : K.lookup f7 = some ⟨oc7, od7, .func (PySem.W.fnOf "long_rings" "long_rings" (defArgs s_long_rings) (defBody s_long_rings) (defScope s_long_rings) .none kV7 dc7 pm7 an7 cd7 ct7), sl7⟩) (e7 : PySem.W.codeIn K cd7 "long_rings" = true) (k7 : PySem.W.keepIn K (.ref f7) = true)
    {f8 : Addr} {od8 an8 : Option Addr} {sl8 : Array (Option Value)} {oc8 kV8 dc8 pm8 cd8 ct8 : Value}
    (a8 : PySem.W.nsIn K mainGlobals "is_ring" = some (some (.ref f8))) (l8 : K.lookup f8 = some ⟨oc8, od8, .func (PySem.W.fnOf "is_ring" "is_ring" (defArgs s_is_ring) (defBody s_is_ring) (defScope s_is_ring) .none kV8 dc8 pm8 an8 cd8 ct8), sl8⟩) (e8 : PySem.W.codeIn K cd8 "is_ring" = true) (k8 : PySem.W.keepIn K (.ref f8) = true)
    {f9 : Addr} {od9 an9 : Option Addr} {sl9 : Array (Option Value)} {oc9 kV9 dc9 pm9 cd9 ct9 : Value}
    (a9 : PySem.W.nsIn K mainGlobals "check_count" = some (some (.ref f9))) (l9 : K.lookup f9 = some ⟨oc9, od9, .func (PySem.W.fnOf "check_count" "check_count" (defArgs s_check_count) (defBody s_check_count) (defScope s_check_count) .none kV9 dc9 pm9 an9 cd9 ct9), sl9⟩) (e9 : PySem.W.codeIn K cd9 "check_count" = true) (k9 : PySem.W.keepIn K (.ref f9) = true)
    {f10 : Addr} {od10 an10 : Option Addr} {sl10 : Array (Option Value)} {oc10 kV10 dc10 pm10 cd10 ct10 : Value}
    (a10 : PySem.W.nsIn K mainGlobals "judged" = some (some (.ref f10))) (l10 : K.lookup f10 = some ⟨oc10, od10, .func (PySem.W.fnOf "judged" "judged" (defArgs s_judged) (defBody s_judged) (defScope s_judged) .none kV10 dc10 pm10 an10 cd10 ct10), sl10⟩) (e10 : PySem.W.codeIn K cd10 "judged" = true) (k10 : PySem.W.keepIn K (.ref f10) = true)
    {f11 : Addr} {od11 an11 : Option Addr} {sl11 : Array (Option Value)} {oc11 kV11 dc11 pm11 cd11 ct11 : Value}
    (a11 : PySem.W.nsIn K mainGlobals "mended" = some (some (.ref f11))) (l11 : K.lookup f11 = some ⟨oc11, od11, .func (PySem.W.fnOf "mended" "mended" (defArgs s_mended) (defBody s_mended) (defScope s_mended) .none kV11 dc11 pm11 an11 cd11 ct11), sl11⟩) (e11 : PySem.W.codeIn K cd11 "mended" = true) (k11 : PySem.W.keepIn K (.ref f11) = true)
    {f12 : Addr} {od12 an12 : Option Addr} {sl12 : Array (Option Value)} {oc12 kV12 dc12 pm12 cd12 ct12 : Value}
    (a12 : PySem.W.nsIn K mainGlobals "check_counts" = some (some (.ref f12))) (l12 : K.lookup f12 = some ⟨oc12, od12, .func (PySem.W.fnOf "check_counts" "check_counts" (defArgs s_check_counts) (defBody s_check_counts) (defScope s_check_counts) .none kV12 dc12 pm12 an12 cd12 ct12), sl12⟩) (e12 : PySem.W.codeIn K cd12 "check_counts" = true) (k12 : PySem.W.keepIn K (.ref f12) = true)
    {f13 : Addr} {od13 an13 : Option Addr} {sl13 : Array (Option Value)} {oc13 kV13 dc13 pm13 cd13 ct13 : Value}
    (a13 : PySem.W.nsIn K mainGlobals "how_many" = some (some (.ref f13))) (l13 : K.lookup f13 = some ⟨oc13, od13, .func (PySem.W.fnOf "how_many" "how_many" (defArgs s_how_many) (defBody s_how_many) (defScope s_how_many) .none kV13 dc13 pm13 an13 cd13 ct13), sl13⟩) (e13 : PySem.W.codeIn K cd13 "how_many" = true) (k13 : PySem.W.keepIn K (.ref f13) = true)
    {f14 : Addr} {od14 an14 : Option Addr} {sl14 : Array (Option Value)} {oc14 kV14 dc14 pm14 cd14 ct14 : Value}
    (a14 : PySem.W.nsIn K mainGlobals "closed_ways" = some (some (.ref f14))) (l14 : K.lookup f14 = some ⟨oc14, od14, .func (PySem.W.fnOf "closed_ways" "closed_ways" (defArgs s_closed_ways) (defBody s_closed_ways) (defScope s_closed_ways) .none kV14 dc14 pm14 an14 cd14 ct14), sl14⟩) (e14 : PySem.W.codeIn K cd14 "closed_ways" = true) (k14 : PySem.W.keepIn K (.ref f14) = true)
    {f15 : Addr} {od15 an15 : Option Addr} {sl15 : Array (Option Value)} {oc15 kV15 dc15 pm15 cd15 ct15 : Value}
    (a15 : PySem.W.nsIn K mainGlobals "ways_behind" = some (some (.ref f15))) (l15 : K.lookup f15 = some ⟨oc15, od15, .func (PySem.W.fnOf "ways_behind" "ways_behind" (defArgs s_ways_behind) (defBody s_ways_behind) (defScope s_ways_behind) .none kV15 dc15 pm15 an15 cd15 ct15), sl15⟩) (e15 : PySem.W.codeIn K cd15 "ways_behind" = true) (k15 : PySem.W.keepIn K (.ref f15) = true)
    {f16 : Addr} {od16 an16 : Option Addr} {sl16 : Array (Option Value)} {oc16 kV16 dc16 pm16 cd16 ct16 : Value}
    (a16 : PySem.W.nsIn K mainGlobals "setting_by" = some (some (.ref f16))) (l16 : K.lookup f16 = some ⟨oc16, od16, .func (PySem.W.fnOf "setting_by" "setting_by" (defArgs s_setting_by) (defBody s_setting_by) (defScope s_setting_by) .none kV16 dc16 pm16 an16 cd16 ct16), sl16⟩) (e16 : PySem.W.codeIn K cd16 "setting_by" = true) (k16 : PySem.W.keepIn K (.ref f16) = true)
    {f17 : Addr} {od17 an17 : Option Addr} {sl17 : Array (Option Value)} {oc17 kV17 dc17 pm17 cd17 ct17 : Value}
    (a17 : PySem.W.nsIn K mainGlobals "number_of" = some (some (.ref f17))) (l17 : K.lookup f17 = some ⟨oc17, od17, .func (PySem.W.fnOf "number_of" "number_of" (defArgs s_number_of) (defBody s_number_of) (defScope s_number_of) .none kV17 dc17 pm17 an17 cd17 ct17), sl17⟩) (e17 : PySem.W.codeIn K cd17 "number_of" = true) (k17 : PySem.W.keepIn K (.ref f17) = true)
    {f18 : Addr} {od18 an18 : Option Addr} {sl18 : Array (Option Value)} {oc18 kV18 dc18 pm18 cd18 ct18 : Value}
    (a18 : PySem.W.nsIn K mainGlobals "_law_cell_at" = some (some (.ref f18))) (l18 : K.lookup f18 = some ⟨oc18, od18, .func (PySem.W.fnOf "_law_cell_at" "_law_cell_at" (defArgs s_law_cell_at) (defBody s_law_cell_at) (defScope s_law_cell_at) .none kV18 dc18 pm18 an18 cd18 ct18), sl18⟩) (e18 : PySem.W.codeIn K cd18 "_law_cell_at" = true) (k18 : PySem.W.keepIn K (.ref f18) = true)
    {f19 : Addr} {od19 an19 : Option Addr} {sl19 : Array (Option Value)} {oc19 kV19 dc19 pm19 cd19 ct19 : Value}
    (a19 : PySem.W.nsIn K mainGlobals "_law_draw" = some (some (.ref f19))) (l19 : K.lookup f19 = some ⟨oc19, od19, .func (PySem.W.fnOf "_law_draw" "_law_draw" (defArgs s_law_draw) (defBody s_law_draw) (defScope s_law_draw) .none kV19 dc19 pm19 an19 cd19 ct19), sl19⟩) (e19 : PySem.W.codeIn K cd19 "_law_draw" = true) (k19 : PySem.W.keepIn K (.ref f19) = true)
    {f20 : Addr} {od20 an20 : Option Addr} {sl20 : Array (Option Value)} {oc20 kV20 dc20 pm20 cd20 ct20 : Value}
    (a20 : PySem.W.nsIn K mainGlobals "_law_value" = some (some (.ref f20))) (l20 : K.lookup f20 = some ⟨oc20, od20, .func (PySem.W.fnOf "_law_value" "_law_value" (defArgs s_law_value) (defBody s_law_value) (defScope s_law_value) .none kV20 dc20 pm20 an20 cd20 ct20), sl20⟩) (e20 : PySem.W.codeIn K cd20 "_law_value" = true) (k20 : PySem.W.keepIn K (.ref f20) = true)
    {f21 : Addr} {od21 an21 : Option Addr} {sl21 : Array (Option Value)} {oc21 kV21 dc21 pm21 cd21 ct21 : Value}
    (a21 : PySem.W.nsIn K mainGlobals "_law_kinds" = some (some (.ref f21))) (l21 : K.lookup f21 = some ⟨oc21, od21, .func (PySem.W.fnOf "_law_kinds" "_law_kinds" (defArgs s_law_kinds) (defBody s_law_kinds) (defScope s_law_kinds) .none kV21 dc21 pm21 an21 cd21 ct21), sl21⟩) (e21 : PySem.W.codeIn K cd21 "_law_kinds" = true) (k21 : PySem.W.keepIn K (.ref f21) = true)
    {f22 : Addr} {od22 an22 : Option Addr} {sl22 : Array (Option Value)} {oc22 kV22 dc22 pm22 cd22 ct22 : Value}
    (a22 : PySem.W.nsIn K mainGlobals "_law_due" = some (some (.ref f22))) (l22 : K.lookup f22 = some ⟨oc22, od22, .func (PySem.W.fnOf "_law_due" "_law_due" (defArgs s_law_due) (defBody s_law_due) (defScope s_law_due) .none kV22 dc22 pm22 an22 cd22 ct22), sl22⟩) (e22 : PySem.W.codeIn K cd22 "_law_due" = true) (k22 : PySem.W.keepIn K (.ref f22) = true)
    {f23 : Addr} {od23 an23 : Option Addr} {sl23 : Array (Option Value)} {oc23 kV23 dc23 pm23 cd23 ct23 : Value}
    (a23 : PySem.W.nsIn K mainGlobals "_law_all_whole" = some (some (.ref f23))) (l23 : K.lookup f23 = some ⟨oc23, od23, .func (PySem.W.fnOf "_law_all_whole" "_law_all_whole" (defArgs s_law_all_whole) (defBody s_law_all_whole) (defScope s_law_all_whole) .none kV23 dc23 pm23 an23 cd23 ct23), sl23⟩) (e23 : PySem.W.codeIn K cd23 "_law_all_whole" = true) (k23 : PySem.W.keepIn K (.ref f23) = true)
    {f24 : Addr} {od24 an24 : Option Addr} {sl24 : Array (Option Value)} {oc24 kV24 dc24 pm24 cd24 ct24 : Value}
    (a24 : PySem.W.nsIn K mainGlobals "_law_laid" = some (some (.ref f24))) (l24 : K.lookup f24 = some ⟨oc24, od24, .func (PySem.W.fnOf "_law_laid" "_law_laid" (defArgs s_law_laid) (defBody s_law_laid) (defScope s_law_laid) .none kV24 dc24 pm24 an24 cd24 ct24), sl24⟩) (e24 : PySem.W.codeIn K cd24 "_law_laid" = true) (k24 : PySem.W.keepIn K (.ref f24) = true)
    {f25 : Addr} {od25 an25 : Option Addr} {sl25 : Array (Option Value)} {oc25 kV25 dc25 pm25 cd25 ct25 : Value}
    (a25 : PySem.W.nsIn K mainGlobals "_law_forty_right" = some (some (.ref f25))) (l25 : K.lookup f25 = some ⟨oc25, od25, .func (PySem.W.fnOf "_law_forty_right" "_law_forty_right" (defArgs s_law_forty_right) (defBody s_law_forty_right) (defScope s_law_forty_right) .none kV25 dc25 pm25 an25 cd25 ct25), sl25⟩) (e25 : PySem.W.codeIn K cd25 "_law_forty_right" = true) (k25 : PySem.W.keepIn K (.ref f25) = true)
    {f26 : Addr} {od26 an26 : Option Addr} {sl26 : Array (Option Value)} {oc26 kV26 dc26 pm26 cd26 ct26 : Value}
    (a26 : PySem.W.nsIn K mainGlobals "_law_count" = some (some (.ref f26))) (l26 : K.lookup f26 = some ⟨oc26, od26, .func (PySem.W.fnOf "_law_count" "_law_count" (defArgs s_law_count) (defBody s_law_count) (defScope s_law_count) .none kV26 dc26 pm26 an26 cd26 ct26), sl26⟩) (e26 : PySem.W.codeIn K cd26 "_law_count" = true) (k26 : PySem.W.keepIn K (.ref f26) = true)
    {cc27 : Addr}
    {f27 : Addr} {od27 an27 : Option Addr} {sl27 : Array (Option Value)} {oc27 kV27 dc27 pm27 ct27 : Value}
    (a27 : PySem.W.nsIn K mainGlobals "_law_numbers_right" = some (some (.ref f27))) (l27 : K.lookup f27 = some ⟨oc27, od27, .func (PySem.W.fnOf "_law_numbers_right" "_law_numbers_right" (defArgs s_law_numbers_right) (defBody s_law_numbers_right) (defScope s_law_numbers_right) .none kV27 dc27 pm27 an27 (.ref cc27) ct27), sl27⟩) (e27 : PySem.W.codeIn K (.ref cc27) "_law_numbers_right" = true) (k27 : PySem.W.keepIn K (.ref f27) = true)
    {P27 : Addr} {occ27 : Value} {odc27 : Option Addr} {slc27 : Array (Option Value)} {vs27 : Array Value}
    (lc27 : K.lookup cc27 = some ⟨occ27, odc27, .fields vs27, slc27⟩) (vp27 : vs27[11]? = some (.ref P27)) (np27 : K.lookup P27 = none)
    {f28 : Addr} {od28 an28 : Option Addr} {sl28 : Array (Option Value)} {oc28 kV28 dc28 pm28 cd28 ct28 : Value}
    (a28 : PySem.W.nsIn K mainGlobals "_law_fields_right" = some (some (.ref f28))) (l28 : K.lookup f28 = some ⟨oc28, od28, .func (PySem.W.fnOf "_law_fields_right" "_law_fields_right" (defArgs s_law_fields_right) (defBody s_law_fields_right) (defScope s_law_fields_right) .none kV28 dc28 pm28 an28 cd28 ct28), sl28⟩) (e28 : PySem.W.codeIn K cd28 "_law_fields_right" = true) (k28 : PySem.W.keepIn K (.ref f28) = true)
    {cc29 : Addr}
    {f29 : Addr} {od29 an29 : Option Addr} {sl29 : Array (Option Value)} {oc29 kV29 dc29 pm29 ct29 : Value}
    (a29 : PySem.W.nsIn K mainGlobals "_law_spoiled_right" = some (some (.ref f29))) (l29 : K.lookup f29 = some ⟨oc29, od29, .func (PySem.W.fnOf "_law_spoiled_right" "_law_spoiled_right" (defArgs s_law_spoiled_right) (defBody s_law_spoiled_right) (defScope s_law_spoiled_right) .none kV29 dc29 pm29 an29 (.ref cc29) ct29), sl29⟩) (e29 : PySem.W.codeIn K (.ref cc29) "_law_spoiled_right" = true) (k29 : PySem.W.keepIn K (.ref f29) = true)
    {P29 : Addr} {occ29 : Value} {odc29 : Option Addr} {slc29 : Array (Option Value)} {vs29 : Array Value}
    (lc29 : K.lookup cc29 = some ⟨occ29, odc29, .fields vs29, slc29⟩) (vp29 : vs29[11]? = some (.ref P29)) (np29 : K.lookup P29 = none)
    {f30 : Addr} {od30 an30 : Option Addr} {sl30 : Array (Option Value)} {oc30 kV30 dc30 pm30 cd30 ct30 : Value}
    (a30 : PySem.W.nsIn K mainGlobals "law" = some (some (.ref f30))) (l30 : K.lookup f30 = some ⟨oc30, od30, .func (PySem.W.fnOf "law" "law" (defArgs s_law) (defBody s_law) (defScope s_law) .none kV30 dc30 pm30 an30 cd30 ct30), sl30⟩) (e30 : PySem.W.codeIn K cd30 "law" = true) (k30 : PySem.W.keepIn K (.ref f30) = true)
    (cg1 : PySem.W.specialIn K (.builtin "object.__class__") "__get__" = some (some (.builtin "getset_descriptor.__get__"))) (cg2 : PySem.W.takesIn K (.builtin "object.__class__") = some true)
    {C_Answer : Addr} (a_Answer : PySem.W.nsIn K mainGlobals "Answer" = some (some (.ref C_Answer))) (pg_Answer : PySem.W.plainGet K C_Answer Str.empty = true) (hd_Answer : PySem.W.hasDictIn K C_Answer = true) (po_Answer : PySem.W.plainOver K C_Answer = true) (sa_Answer : PySem.W.findIn K (.ref C_Answer) "__setattr__" = some (some (.builtin "object.__setattr__")))
    (mk_Answer : PySem.W.makesIn K C_Answer = true) (kc_Answer : PySem.W.keepIn K (.ref C_Answer) = true) (ha_Answer : PySem.W.findIn K (.ref C_Answer) "__class__" = some (some (.builtin "object.__class__"))) (hm_Answer : PySem.W.mroIn K C_Answer (.type "object") = some true)
    (ni_Answer : PySem.W.findIn K (.ref C_Answer) "__init__" = some (some (.builtin "object.__init__")))
    {C_All : Addr} (a_All : PySem.W.nsIn K mainGlobals "All" = some (some (.ref C_All))) (pg_All : PySem.W.plainGet K C_All Str.empty = true) (hd_All : PySem.W.hasDictIn K C_All = true) (po_All : PySem.W.plainOver K C_All = true) (sa_All : PySem.W.findIn K (.ref C_All) "__setattr__" = some (some (.builtin "object.__setattr__")))
    (mk_All : PySem.W.makesIn K C_All = true) (kc_All : PySem.W.keepIn K (.ref C_All) = true) (ha_All : PySem.W.findIn K (.ref C_All) "__class__" = some (some (.builtin "object.__class__"))) (hm_All : PySem.W.mroIn K C_All (.type "object") = some true)
    (ni_All : PySem.W.findIn K (.ref C_All) "__init__" = some (some (.builtin "object.__init__")))
    {f_All_shows : Addr} {od_All_shows an_All_shows : Option Addr} {sl_All_shows : Array (Option Value)} {oc_All_shows kV_All_shows dc_All_shows pm_All_shows cd_All_shows ct_All_shows : Value}
    (a_All_shows : PySem.W.findIn K (.ref C_All) "shows" = some (some (.ref f_All_shows))) (l_All_shows : K.lookup f_All_shows = some ⟨oc_All_shows, od_All_shows, .func (PySem.W.fnOf "shows" "All.shows" (defArgs s_All_shows) (defBody s_All_shows) (defScope s_All_shows) .none kV_All_shows dc_All_shows pm_All_shows an_All_shows cd_All_shows ct_All_shows), sl_All_shows⟩) (e_All_shows : PySem.W.codeIn K cd_All_shows "All.shows" = true) (k_All_shows : PySem.W.keepIn K (.ref f_All_shows) = true) (fn_All_shows : PySem.W.isFn K (.ref f_All_shows) = true)
    {C_Long : Addr} (a_Long : PySem.W.nsIn K mainGlobals "Long" = some (some (.ref C_Long))) (pg_Long : PySem.W.plainGet K C_Long Str.empty = true) (hd_Long : PySem.W.hasDictIn K C_Long = true) (po_Long : PySem.W.plainOver K C_Long = true) (sa_Long : PySem.W.findIn K (.ref C_Long) "__setattr__" = some (some (.builtin "object.__setattr__")))
    (mk_Long : PySem.W.makesIn K C_Long = true) (kc_Long : PySem.W.keepIn K (.ref C_Long) = true) (ha_Long : PySem.W.findIn K (.ref C_Long) "__class__" = some (some (.builtin "object.__class__"))) (hm_Long : PySem.W.mroIn K C_Long (.type "object") = some true)
    {f_Long_init : Addr} {od_Long_init an_Long_init : Option Addr} {sl_Long_init : Array (Option Value)} {oc_Long_init kV_Long_init dc_Long_init pm_Long_init cd_Long_init ct_Long_init : Value}
    (a_Long_init : PySem.W.findIn K (.ref C_Long) "__init__" = some (some (.ref f_Long_init))) (l_Long_init : K.lookup f_Long_init = some ⟨oc_Long_init, od_Long_init, .func (PySem.W.fnOf "__init__" "Long.__init__" (defArgs s_Long___init__) (defBody s_Long___init__) (defScope s_Long___init__) .none kV_Long_init dc_Long_init pm_Long_init an_Long_init cd_Long_init ct_Long_init), sl_Long_init⟩) (e_Long_init : PySem.W.codeIn K cd_Long_init "Long.__init__" = true) (k_Long_init : PySem.W.keepIn K (.ref f_Long_init) = true) (fn_Long_init : PySem.W.isFn K (.ref f_Long_init) = true)
    {f_Long_shows : Addr} {od_Long_shows an_Long_shows : Option Addr} {sl_Long_shows : Array (Option Value)} {oc_Long_shows kV_Long_shows dc_Long_shows pm_Long_shows cd_Long_shows ct_Long_shows : Value}
    (a_Long_shows : PySem.W.findIn K (.ref C_Long) "shows" = some (some (.ref f_Long_shows))) (l_Long_shows : K.lookup f_Long_shows = some ⟨oc_Long_shows, od_Long_shows, .func (PySem.W.fnOf "shows" "Long.shows" (defArgs s_Long_shows) (defBody s_Long_shows) (defScope s_Long_shows) .none kV_Long_shows dc_Long_shows pm_Long_shows an_Long_shows cd_Long_shows ct_Long_shows), sl_Long_shows⟩) (e_Long_shows : PySem.W.codeIn K cd_Long_shows "Long.shows" = true) (k_Long_shows : PySem.W.keepIn K (.ref f_Long_shows) = true) (fn_Long_shows : PySem.W.isFn K (.ref f_Long_shows) = true)
    (na_Long_ring : PySem.W.findIn K (.ref C_Long) "ring" = some none)
    {C_Mend : Addr} (a_Mend : PySem.W.nsIn K mainGlobals "Mend" = some (some (.ref C_Mend))) (pg_Mend : PySem.W.plainGet K C_Mend Str.empty = true) (hd_Mend : PySem.W.hasDictIn K C_Mend = true) (po_Mend : PySem.W.plainOver K C_Mend = true) (sa_Mend : PySem.W.findIn K (.ref C_Mend) "__setattr__" = some (some (.builtin "object.__setattr__")))
    (mk_Mend : PySem.W.makesIn K C_Mend = true) (kc_Mend : PySem.W.keepIn K (.ref C_Mend) = true) (ha_Mend : PySem.W.findIn K (.ref C_Mend) "__class__" = some (some (.builtin "object.__class__"))) (hm_Mend : PySem.W.mroIn K C_Mend (.type "object") = some true)
    {f_Mend_init : Addr} {od_Mend_init an_Mend_init : Option Addr} {sl_Mend_init : Array (Option Value)} {oc_Mend_init kV_Mend_init dc_Mend_init pm_Mend_init cd_Mend_init ct_Mend_init : Value}
    (a_Mend_init : PySem.W.findIn K (.ref C_Mend) "__init__" = some (some (.ref f_Mend_init))) (l_Mend_init : K.lookup f_Mend_init = some ⟨oc_Mend_init, od_Mend_init, .func (PySem.W.fnOf "__init__" "Mend.__init__" (defArgs s_Mend___init__) (defBody s_Mend___init__) (defScope s_Mend___init__) .none kV_Mend_init dc_Mend_init pm_Mend_init an_Mend_init cd_Mend_init ct_Mend_init), sl_Mend_init⟩) (e_Mend_init : PySem.W.codeIn K cd_Mend_init "Mend.__init__" = true) (k_Mend_init : PySem.W.keepIn K (.ref f_Mend_init) = true) (fn_Mend_init : PySem.W.isFn K (.ref f_Mend_init) = true)
    {f_Mend_shows : Addr} {od_Mend_shows an_Mend_shows : Option Addr} {sl_Mend_shows : Array (Option Value)} {oc_Mend_shows kV_Mend_shows dc_Mend_shows pm_Mend_shows cd_Mend_shows ct_Mend_shows : Value}
    (a_Mend_shows : PySem.W.findIn K (.ref C_Mend) "shows" = some (some (.ref f_Mend_shows))) (l_Mend_shows : K.lookup f_Mend_shows = some ⟨oc_Mend_shows, od_Mend_shows, .func (PySem.W.fnOf "shows" "Mend.shows" (defArgs s_Mend_shows) (defBody s_Mend_shows) (defScope s_Mend_shows) .none kV_Mend_shows dc_Mend_shows pm_Mend_shows an_Mend_shows cd_Mend_shows ct_Mend_shows), sl_Mend_shows⟩) (e_Mend_shows : PySem.W.codeIn K cd_Mend_shows "Mend.shows" = true) (k_Mend_shows : PySem.W.keepIn K (.ref f_Mend_shows) = true) (fn_Mend_shows : PySem.W.isFn K (.ref f_Mend_shows) = true)
    (na_Mend_one : PySem.W.findIn K (.ref C_Mend) "one" = some none)
    (na_Mend_other : PySem.W.findIn K (.ref C_Mend) "other" = some none)
    {C_Barred : Addr} (a_Barred : PySem.W.nsIn K mainGlobals "Barred" = some (some (.ref C_Barred))) (pg_Barred : PySem.W.plainGet K C_Barred Str.empty = true) (hd_Barred : PySem.W.hasDictIn K C_Barred = true) (po_Barred : PySem.W.plainOver K C_Barred = true) (sa_Barred : PySem.W.findIn K (.ref C_Barred) "__setattr__" = some (some (.builtin "object.__setattr__")))
    (mk_Barred : PySem.W.makesIn K C_Barred = true) (kc_Barred : PySem.W.keepIn K (.ref C_Barred) = true) (ha_Barred : PySem.W.findIn K (.ref C_Barred) "__class__" = some (some (.builtin "object.__class__"))) (hm_Barred : PySem.W.mroIn K C_Barred (.type "object") = some true)
    {f_Barred_init : Addr} {od_Barred_init an_Barred_init : Option Addr} {sl_Barred_init : Array (Option Value)} {oc_Barred_init kV_Barred_init dc_Barred_init pm_Barred_init cd_Barred_init ct_Barred_init : Value}
    (a_Barred_init : PySem.W.findIn K (.ref C_Barred) "__init__" = some (some (.ref f_Barred_init))) (l_Barred_init : K.lookup f_Barred_init = some ⟨oc_Barred_init, od_Barred_init, .func (PySem.W.fnOf "__init__" "Barred.__init__" (defArgs s_Barred___init__) (defBody s_Barred___init__) (defScope s_Barred___init__) .none kV_Barred_init dc_Barred_init pm_Barred_init an_Barred_init cd_Barred_init ct_Barred_init), sl_Barred_init⟩) (e_Barred_init : PySem.W.codeIn K cd_Barred_init "Barred.__init__" = true) (k_Barred_init : PySem.W.keepIn K (.ref f_Barred_init) = true) (fn_Barred_init : PySem.W.isFn K (.ref f_Barred_init) = true)
    {f_Barred_shows : Addr} {od_Barred_shows an_Barred_shows : Option Addr} {sl_Barred_shows : Array (Option Value)} {oc_Barred_shows kV_Barred_shows dc_Barred_shows pm_Barred_shows cd_Barred_shows ct_Barred_shows : Value}
    (a_Barred_shows : PySem.W.findIn K (.ref C_Barred) "shows" = some (some (.ref f_Barred_shows))) (l_Barred_shows : K.lookup f_Barred_shows = some ⟨oc_Barred_shows, od_Barred_shows, .func (PySem.W.fnOf "shows" "Barred.shows" (defArgs s_Barred_shows) (defBody s_Barred_shows) (defScope s_Barred_shows) .none kV_Barred_shows dc_Barred_shows pm_Barred_shows an_Barred_shows cd_Barred_shows ct_Barred_shows), sl_Barred_shows⟩) (e_Barred_shows : PySem.W.codeIn K cd_Barred_shows "Barred.shows" = true) (k_Barred_shows : PySem.W.keepIn K (.ref f_Barred_shows) = true) (fn_Barred_shows : PySem.W.isFn K (.ref f_Barred_shows) = true)
    (na_Barred_rings : PySem.W.findIn K (.ref C_Barred) "rings" = some none)
    (q_All_Answer : PySem.W.kitOne K (.ref C_All) (.ref C_Answer) = some true)
    (q_All_All : PySem.W.kitOne K (.ref C_All) (.ref C_All) = some true)
    (q_All_Long : PySem.W.kitOne K (.ref C_All) (.ref C_Long) = some false)
    (q_All_Mend : PySem.W.kitOne K (.ref C_All) (.ref C_Mend) = some false)
    (q_All_Barred : PySem.W.kitOne K (.ref C_All) (.ref C_Barred) = some false)
    (q_Long_Answer : PySem.W.kitOne K (.ref C_Long) (.ref C_Answer) = some true)
    (q_Long_All : PySem.W.kitOne K (.ref C_Long) (.ref C_All) = some false)
    (q_Long_Long : PySem.W.kitOne K (.ref C_Long) (.ref C_Long) = some true)
    (q_Long_Mend : PySem.W.kitOne K (.ref C_Long) (.ref C_Mend) = some false)
    (q_Long_Barred : PySem.W.kitOne K (.ref C_Long) (.ref C_Barred) = some false)
    (q_Mend_Answer : PySem.W.kitOne K (.ref C_Mend) (.ref C_Answer) = some true)
    (q_Mend_All : PySem.W.kitOne K (.ref C_Mend) (.ref C_All) = some false)
    (q_Mend_Long : PySem.W.kitOne K (.ref C_Mend) (.ref C_Long) = some false)
    (q_Mend_Mend : PySem.W.kitOne K (.ref C_Mend) (.ref C_Mend) = some true)
    (q_Mend_Barred : PySem.W.kitOne K (.ref C_Mend) (.ref C_Barred) = some false)
    (q_Barred_Answer : PySem.W.kitOne K (.ref C_Barred) (.ref C_Answer) = some true)
    (q_Barred_All : PySem.W.kitOne K (.ref C_Barred) (.ref C_All) = some false)
    (q_Barred_Long : PySem.W.kitOne K (.ref C_Barred) (.ref C_Long) = some false)
    (q_Barred_Mend : PySem.W.kitOne K (.ref C_Barred) (.ref C_Mend) = some false)
    (q_Barred_Barred : PySem.W.kitOne K (.ref C_Barred) (.ref C_Barred) = some true)
    {C_SlipError : Addr} (a_SlipError : PySem.W.nsIn K mainGlobals "SlipError" = some (some (.ref C_SlipError))) (x_SlipError : PySem.W.excIn K C_SlipError veB "ValueError.__new__" = true)
    (k_SlipError : PySem.W.keepIn K (.ref C_SlipError) = true)
    (b_SlipError : PySem.W.subIn K (.ref C_SlipError) (.type "BaseException") = some true)
    (t_SlipError : PySem.W.typeIn K (.ref C_SlipError) = some (.type "type"))
    (hg_SlipError : PySem.W.findIn K (.ref C_SlipError) "__getattribute__" = some (some (.builtin "BaseException.__getattribute__")))
    (hk_SlipError : PySem.W.findIn K (.ref C_SlipError) "__getattr__" = some none)
    (hd_SlipError : PySem.W.hasDictIn K C_SlipError = true)
    (ha_SlipError : PySem.W.findIn K (.ref C_SlipError) "__class__" = some (some (.builtin "object.__class__")))
    (hm_SlipError : PySem.W.mroIn K C_SlipError (.type "object") = some true)
    {C_BadBoxes : Addr} (a_BadBoxes : PySem.W.nsIn K mainGlobals "BadBoxes" = some (some (.ref C_BadBoxes))) (x_BadBoxes : PySem.W.excIn K C_BadBoxes veB "ValueError.__new__" = true)
    (k_BadBoxes : PySem.W.keepIn K (.ref C_BadBoxes) = true)
    (b_BadBoxes : PySem.W.subIn K (.ref C_BadBoxes) (.type "BaseException") = some true)
    (t_BadBoxes : PySem.W.typeIn K (.ref C_BadBoxes) = some (.type "type"))
    (hg_BadBoxes : PySem.W.findIn K (.ref C_BadBoxes) "__getattribute__" = some (some (.builtin "BaseException.__getattribute__")))
    (hk_BadBoxes : PySem.W.findIn K (.ref C_BadBoxes) "__getattr__" = some none)
    (hd_BadBoxes : PySem.W.hasDictIn K C_BadBoxes = true)
    (ha_BadBoxes : PySem.W.findIn K (.ref C_BadBoxes) "__class__" = some (some (.builtin "object.__class__")))
    (hm_BadBoxes : PySem.W.mroIn K C_BadBoxes (.type "object") = some true)
    {C_BadCount : Addr} (a_BadCount : PySem.W.nsIn K mainGlobals "BadCount" = some (some (.ref C_BadCount))) (x_BadCount : PySem.W.excIn K C_BadCount veB "ValueError.__new__" = true)
    (k_BadCount : PySem.W.keepIn K (.ref C_BadCount) = true)
    (b_BadCount : PySem.W.subIn K (.ref C_BadCount) (.type "BaseException") = some true)
    (t_BadCount : PySem.W.typeIn K (.ref C_BadCount) = some (.type "type"))
    (hg_BadCount : PySem.W.findIn K (.ref C_BadCount) "__getattribute__" = some (some (.builtin "BaseException.__getattribute__")))
    (hk_BadCount : PySem.W.findIn K (.ref C_BadCount) "__getattr__" = some none)
    (hd_BadCount : PySem.W.hasDictIn K C_BadCount = true)
    (ha_BadCount : PySem.W.findIn K (.ref C_BadCount) "__class__" = some (some (.builtin "object.__class__")))
    (hm_BadCount : PySem.W.mroIn K C_BadCount (.type "object") = some true)
    {C_BadNumber : Addr} (a_BadNumber : PySem.W.nsIn K mainGlobals "BadNumber" = some (some (.ref C_BadNumber))) (x_BadNumber : PySem.W.excIn K C_BadNumber veB "ValueError.__new__" = true)
    (k_BadNumber : PySem.W.keepIn K (.ref C_BadNumber) = true)
    (b_BadNumber : PySem.W.subIn K (.ref C_BadNumber) (.type "BaseException") = some true)
    (t_BadNumber : PySem.W.typeIn K (.ref C_BadNumber) = some (.type "type"))
    (hg_BadNumber : PySem.W.findIn K (.ref C_BadNumber) "__getattribute__" = some (some (.builtin "BaseException.__getattribute__")))
    (hk_BadNumber : PySem.W.findIn K (.ref C_BadNumber) "__getattr__" = some none)
    (hd_BadNumber : PySem.W.hasDictIn K C_BadNumber = true)
    (ha_BadNumber : PySem.W.findIn K (.ref C_BadNumber) "__class__" = some (some (.builtin "object.__class__")))
    (hm_BadNumber : PySem.W.mroIn K C_BadNumber (.type "object") = some true)
    {C_Lost : Addr} (a_Lost : PySem.W.nsIn K mainGlobals "Lost" = some (some (.ref C_Lost))) (x_Lost : PySem.W.excIn K C_Lost veB "ValueError.__new__" = true)
    (k_Lost : PySem.W.keepIn K (.ref C_Lost) = true)
    (b_Lost : PySem.W.subIn K (.ref C_Lost) (.type "BaseException") = some true)
    (t_Lost : PySem.W.typeIn K (.ref C_Lost) = some (.type "type"))
    (hg_Lost : PySem.W.findIn K (.ref C_Lost) "__getattribute__" = some (some (.builtin "BaseException.__getattribute__")))
    (hk_Lost : PySem.W.findIn K (.ref C_Lost) "__getattr__" = some none)
    (hd_Lost : PySem.W.hasDictIn K C_Lost = true)
    (ha_Lost : PySem.W.findIn K (.ref C_Lost) "__class__" = some (some (.builtin "object.__class__")))
    (hm_Lost : PySem.W.mroIn K C_Lost (.type "object") = some true)
    (q_BadBoxes_SlipError : PySem.W.kitOne K (.ref C_BadBoxes) (.ref C_SlipError) = some true)
    (q_BadBoxes_BadBoxes : PySem.W.kitOne K (.ref C_BadBoxes) (.ref C_BadBoxes) = some true)
    (q_BadBoxes_BadCount : PySem.W.kitOne K (.ref C_BadBoxes) (.ref C_BadCount) = some false)
    (q_BadBoxes_BadNumber : PySem.W.kitOne K (.ref C_BadBoxes) (.ref C_BadNumber) = some false)
    (q_BadBoxes_Lost : PySem.W.kitOne K (.ref C_BadBoxes) (.ref C_Lost) = some false)
    (q_v_BadBoxes : PySem.W.kitOne K (.ref C_BadBoxes) (.type "ValueError") = some true) (sb_BadBoxes : PySem.W.subIn K (.ref C_BadBoxes) (.ref C_SlipError) = some true)
    (q_BadCount_SlipError : PySem.W.kitOne K (.ref C_BadCount) (.ref C_SlipError) = some true)
    (q_BadCount_BadBoxes : PySem.W.kitOne K (.ref C_BadCount) (.ref C_BadBoxes) = some false)
    (q_BadCount_BadCount : PySem.W.kitOne K (.ref C_BadCount) (.ref C_BadCount) = some true)
    (q_BadCount_BadNumber : PySem.W.kitOne K (.ref C_BadCount) (.ref C_BadNumber) = some false)
    (q_BadCount_Lost : PySem.W.kitOne K (.ref C_BadCount) (.ref C_Lost) = some false)
    (q_v_BadCount : PySem.W.kitOne K (.ref C_BadCount) (.type "ValueError") = some true) (sb_BadCount : PySem.W.subIn K (.ref C_BadCount) (.ref C_SlipError) = some true)
    (q_BadNumber_SlipError : PySem.W.kitOne K (.ref C_BadNumber) (.ref C_SlipError) = some true)
    (q_BadNumber_BadBoxes : PySem.W.kitOne K (.ref C_BadNumber) (.ref C_BadBoxes) = some false)
    (q_BadNumber_BadCount : PySem.W.kitOne K (.ref C_BadNumber) (.ref C_BadCount) = some false)
    (q_BadNumber_BadNumber : PySem.W.kitOne K (.ref C_BadNumber) (.ref C_BadNumber) = some true)
    (q_BadNumber_Lost : PySem.W.kitOne K (.ref C_BadNumber) (.ref C_Lost) = some false)
    (q_v_BadNumber : PySem.W.kitOne K (.ref C_BadNumber) (.type "ValueError") = some true) (sb_BadNumber : PySem.W.subIn K (.ref C_BadNumber) (.ref C_SlipError) = some true)
    (q_Lost_SlipError : PySem.W.kitOne K (.ref C_Lost) (.ref C_SlipError) = some true)
    (q_Lost_BadBoxes : PySem.W.kitOne K (.ref C_Lost) (.ref C_BadBoxes) = some false)
    (q_Lost_BadCount : PySem.W.kitOne K (.ref C_Lost) (.ref C_BadCount) = some false)
    (q_Lost_BadNumber : PySem.W.kitOne K (.ref C_Lost) (.ref C_BadNumber) = some false)
    (q_Lost_Lost : PySem.W.kitOne K (.ref C_Lost) (.ref C_Lost) = some true)
    (q_v_Lost : PySem.W.kitOne K (.ref C_Lost) (.type "ValueError") = some true) (sb_Lost : PySem.W.subIn K (.ref C_Lost) (.ref C_SlipError) = some true)
    (ld_27_29 : P27 ≠ P29)
    {tc0 : Tok} (x0 : PySem.W.nsIn K mainGlobals "MOST" = some (some (.int 40 tc0)))
    {tc1 : Tok} (x1 : PySem.W.nsIn K mainGlobals "GREATEST" = some (some (.int 100 tc1)))
    {tc2 : Tok} (x2 : PySem.W.nsIn K mainGlobals "NUMBERED" = some (some (.int 8 tc2)))
    (z0 : PySem.W.nsIn K mainGlobals "len" = some none)
    (z1 : PySem.W.nsIn K mainGlobals "range" = some none)
    (z2 : PySem.W.nsIn K mainGlobals "list" = some none)
    (z3 : PySem.W.nsIn K mainGlobals "isinstance" = some none)
    (z4 : PySem.W.nsIn K mainGlobals "all" = some none)
    (z5 : PySem.W.nsIn K mainGlobals "sorted" = some none)
    (z6 : PySem.W.nsIn K mainGlobals "int" = some none)
    (z7 : PySem.W.nsIn K mainGlobals "bool" = some none)
    (z8 : PySem.W.nsIn K mainGlobals "tuple" = some none)
    (z9 : PySem.W.nsIn K mainGlobals "max" = some none)
    (z10 : PySem.W.nsIn K mainGlobals "min" = some none)
    (z11 : PySem.W.nsIn K mainGlobals "zip" = some none)
    (z12 : PySem.W.nsIn K mainGlobals "enumerate" = some none)
    (z13 : PySem.W.nsIn K mainGlobals "sum" = some none)
    (z14 : PySem.W.nsIn K mainGlobals "set" = some none)
    (z15 : PySem.W.nsIn K mainGlobals "ValueError" = some none)
    : LamX.LawAtS l w K CX0 14 63 "_law_script" mg fa h := by
  have e := hfa.symm.trans (PySem.W.mg_of X G a30)
  cases e
  have F0 := fun_mk (st := s_is_whole) l0 e0 k0
  have F1 := fun_mk (st := s_check_boxes) l1 e1 k1
  have F2 := fun_mk (st := s_ring_from) l2 e2 k2
  have F3 := fun_mk (st := s_opened) l3 e3 k3
  have F4 := fun_mk (st := s_rings_of) l4 e4 k4
  have F5 := fun_mk (st := s_rings) l5 e5 k5
  have F6 := fun_mk (st := s_exchanged) l6 e6 k6
  have F7 := fun_mk (st := s_long_rings) l7 e7 k7
  have F8 := fun_mk (st := s_is_ring) l8 e8 k8
  have F9 := fun_mk (st := s_check_count) l9 e9 k9
  have F10 := fun_mk (st := s_judged) l10 e10 k10
  have F11 := fun_mk (st := s_mended) l11 e11 k11
  have F12 := fun_mk (st := s_check_counts) l12 e12 k12
  have F13 := fun_mk (st := s_how_many) l13 e13 k13
  have F14 := fun_mk (st := s_closed_ways) l14 e14 k14
  have F15 := fun_mk (st := s_ways_behind) l15 e15 k15
  have F16 := fun_mk (st := s_setting_by) l16 e16 k16
  have F17 := fun_mk (st := s_number_of) l17 e17 k17
  have F18 := fun_mk (st := s_law_cell_at) l18 e18 k18
  have F19 := fun_mk (st := s_law_draw) l19 e19 k19
  have F20 := fun_mk (st := s_law_value) l20 e20 k20
  have F21 := fun_mk (st := s_law_kinds) l21 e21 k21
  have F22 := fun_mk (st := s_law_due) l22 e22 k22
  have F23 := fun_mk (st := s_law_all_whole) l23 e23 k23
  have F24 := fun_mk (st := s_law_laid) l24 e24 k24
  have F25 := fun_mk (st := s_law_forty_right) l25 e25 k25
  have F26 := fun_mk (st := s_law_count) l26 e26 k26
  have F27 := fun_mk (st := s_law_numbers_right) l27 e27 k27
  have F28 := fun_mk (st := s_law_fields_right) l28 e28 k28
  have F29 := fun_mk (st := s_law_spoiled_right) l29 e29 k29
  have F30 := fun_mk (st := s_law) l30 e30 k30
  refine law_at ⟨⟨_, _, F0, PySem.W.mg_of X G a0, F0.binds (ps := ["thing"]) fun _ _ _ _ _ _ us hl => match us, hl with | [_], _ => rfl⟩, ⟨_, _, F1, PySem.W.mg_of X G a1, F1.binds (ps := ["boxes", "most"]) fun _ _ _ _ _ _ us hl => match us, hl with | [_, _], _ => rfl⟩, ⟨_, _, F2, PySem.W.mg_of X G a2, F2.binds (ps := ["boxes", "hand"]) fun _ _ _ _ _ _ us hl => match us, hl with | [_, _], _ => rfl⟩, ⟨_, _, F3, PySem.W.mg_of X G a3, F3.binds (ps := ["boxes", "hand"]) fun _ _ _ _ _ _ us hl => match us, hl with | [_, _], _ => rfl⟩, ⟨_, _, F4, PySem.W.mg_of X G a4, F4.binds (ps := ["boxes"]) fun _ _ _ _ _ _ us hl => match us, hl with | [_], _ => rfl⟩, ⟨_, _, F5, PySem.W.mg_of X G a5, F5.binds (ps := ["boxes"]) fun _ _ _ _ _ _ us hl => match us, hl with | [_], _ => rfl⟩, ⟨_, _, F6, PySem.W.mg_of X G a6, F6.binds (ps := ["boxes", "one", "other"]) fun _ _ _ _ _ _ us hl => match us, hl with | [_, _, _], _ => rfl⟩, ⟨_, _, F7, PySem.W.mg_of X G a7, F7.binds (ps := ["boxes", "most"]) fun _ _ _ _ _ _ us hl => match us, hl with | [_, _], _ => rfl⟩, ⟨_, _, F8, PySem.W.mg_of X G a8, F8.binds (ps := ["boxes", "ring"]) fun _ _ _ _ _ _ us hl => match us, hl with | [_, _], _ => rfl⟩, ⟨_, _, F9, PySem.W.mg_of X G a9, F9.binds (ps := ["boxes", "most"]) fun _ _ _ _ _ _ us hl => match us, hl with | [_, _], _ => rfl⟩, ⟨_, _, F10, PySem.W.mg_of X G a10, F10.binds (ps := ["boxes", "most"]) fun _ _ _ _ _ _ us hl => match us, hl with | [_, _], _ => rfl⟩, ⟨_, _, F11, PySem.W.mg_of X G a11, F11.binds (ps := ["boxes", "most"]) fun _ _ _ _ _ _ us hl => match us, hl with | [_, _], _ => rfl⟩, ⟨_, _, F12, PySem.W.mg_of X G a12, F12.binds (ps := ["boxes", "most", "greatest"]) fun _ _ _ _ _ _ us hl => match us, hl with | [_, _, _], _ => rfl⟩, ⟨_, _, F13, PySem.W.mg_of X G a13, F13.binds (ps := ["boxes", "most"]) fun _ _ _ _ _ _ us hl => match us, hl with | [_, _], _ => rfl⟩, ⟨_, _, F14, PySem.W.mg_of X G a14, F14.binds (ps := ["chains", "most", "known"]) fun _ _ _ _ _ _ us hl => match us, hl with | [_, _, _], _ => rfl⟩, ⟨_, _, F15, PySem.W.mg_of X G a15, F15.binds (ps := ["slips", "boxes", "most", "known"]) fun _ _ _ _ _ _ us hl => match us, hl with | [_, _, _, _], _ => rfl⟩, ⟨_, _, F16, PySem.W.mg_of X G a16, F16.binds (ps := ["boxes", "most", "number"]) fun _ _ _ _ _ _ us hl => match us, hl with | [_, _, _], _ => rfl⟩, ⟨_, _, F17, PySem.W.mg_of X G a17, F17.binds (ps := ["setting", "most"]) fun _ _ _ _ _ _ us hl => match us, hl with | [_, _], _ => rfl⟩, ⟨_, _, F18, PySem.W.mg_of X G a18, F18.binds (ps := ["_law_script", "_law_k"]) fun _ _ _ _ _ _ us hl => match us, hl with | [_, _], _ => rfl⟩, ⟨_, _, F19, PySem.W.mg_of X G a19, F19.binds (ps := ["_law_cell", "_law_k", "_law_many"]) fun _ _ _ _ _ _ us hl => match us, hl with | [_, _, _], _ => rfl⟩, ⟨_, _, F20, PySem.W.mg_of X G a20, F20.binds (ps := ["_law_cell", "_law_turn"]) fun _ _ _ _ _ _ us hl => match us, hl with | [_, _], _ => rfl⟩, ⟨_, _, F21, PySem.W.mg_of X G a21, F21.binds (ps := ["_law_ask"]) fun _ _ _ _ _ _ us hl => match us, hl with | [_], _ => rfl⟩, ⟨_, _, F22, PySem.W.mg_of X G a22, F22.binds (ps := ["_law_at"]) fun _ _ _ _ _ _ us hl => match us, hl with | [_], _ => rfl⟩, ⟨_, _, F23, PySem.W.mg_of X G a23, F23.binds (ps := ["_law_things"]) fun _ _ _ _ _ _ us hl => match us, hl with | [_], _ => rfl⟩, ⟨_, _, F24, PySem.W.mg_of X G a24, F24.binds (ps := ["_law_lengths", "_law_factor"]) fun _ _ _ _ _ _ us hl => match us, hl with | [_, _], _ => rfl⟩, ⟨_, _, F25, PySem.W.mg_of X G a25, F25.binds (ps := ["_law_lengths", "_law_factor", "_law_most"]) fun _ _ _ _ _ _ us hl => match us, hl with | [_, _, _], _ => rfl⟩, ⟨_, _, F26, PySem.W.mg_of X G a26, F26.binds (ps := ["_law_many", "_law_most"]) fun _ _ _ _ _ _ us hl => match us, hl with | [_, _], _ => rfl⟩, ⟨_, _, F27, PySem.W.mg_of X G a27, F27.binds (ps := ["_law_many", "_law_most", "_law_number"]) fun _ _ _ _ _ _ us hl => match us, hl with | [_, _, _], _ => rfl⟩, ⟨_, _, F28, PySem.W.mg_of X G a28, F28.binds (ps := []) fun _ _ _ _ _ _ us hl => match us, hl with | [], _ => rfl⟩, ⟨_, _, F29, PySem.W.mg_of X G a29, F29.binds (ps := ["_law_place", "_law_at"]) fun _ _ _ _ _ _ us hl => match us, hl with | [_, _], _ => rfl⟩, ⟨cg1, cg2⟩, ⟨C_Answer, PySem.W.mg_of X G a_Answer, ⟨pg_Answer, hd_Answer, po_Answer, sa_Answer⟩, mk_Answer, kc_Answer, ha_Answer, hm_Answer⟩, ni_Answer, ⟨C_All, PySem.W.mg_of X G a_All, ⟨pg_All, hd_All, po_All, sa_All⟩, mk_All, kc_All, ha_All, hm_All⟩, ni_All, ⟨_, _, fun_mk (st := s_All_shows) l_All_shows e_All_shows k_All_shows, a_All_shows, fn_All_shows, (fun_mk (st := s_All_shows) l_All_shows e_All_shows k_All_shows).binds (ps := ["self", "boxes", "most"]) fun _ _ _ _ _ _ us hl => match us, hl with | [_, _, _], _ => rfl⟩, ⟨C_Long, PySem.W.mg_of X G a_Long, ⟨pg_Long, hd_Long, po_Long, sa_Long⟩, mk_Long, kc_Long, ha_Long, hm_Long⟩, ⟨_, _, fun_mk (st := s_Long___init__) l_Long_init e_Long_init k_Long_init, a_Long_init, fn_Long_init, (fun_mk (st := s_Long___init__) l_Long_init e_Long_init k_Long_init).binds (ps := ["self", "ring"]) fun _ _ _ _ _ _ us hl => match us, hl with | [_, _], _ => rfl⟩, ⟨_, _, fun_mk (st := s_Long_shows) l_Long_shows e_Long_shows k_Long_shows, a_Long_shows, fn_Long_shows, (fun_mk (st := s_Long_shows) l_Long_shows e_Long_shows k_Long_shows).binds (ps := ["self", "boxes", "most"]) fun _ _ _ _ _ _ us hl => match us, hl with | [_, _, _], _ => rfl⟩, na_Long_ring, ⟨C_Mend, PySem.W.mg_of X G a_Mend, ⟨pg_Mend, hd_Mend, po_Mend, sa_Mend⟩, mk_Mend, kc_Mend, ha_Mend, hm_Mend⟩, ⟨_, _, fun_mk (st := s_Mend___init__) l_Mend_init e_Mend_init k_Mend_init, a_Mend_init, fn_Mend_init, (fun_mk (st := s_Mend___init__) l_Mend_init e_Mend_init k_Mend_init).binds (ps := ["self", "one", "other"]) fun _ _ _ _ _ _ us hl => match us, hl with | [_, _, _], _ => rfl⟩, ⟨_, _, fun_mk (st := s_Mend_shows) l_Mend_shows e_Mend_shows k_Mend_shows, a_Mend_shows, fn_Mend_shows, (fun_mk (st := s_Mend_shows) l_Mend_shows e_Mend_shows k_Mend_shows).binds (ps := ["self", "boxes", "most"]) fun _ _ _ _ _ _ us hl => match us, hl with | [_, _, _], _ => rfl⟩, na_Mend_one, na_Mend_other, ⟨C_Barred, PySem.W.mg_of X G a_Barred, ⟨pg_Barred, hd_Barred, po_Barred, sa_Barred⟩, mk_Barred, kc_Barred, ha_Barred, hm_Barred⟩, ⟨_, _, fun_mk (st := s_Barred___init__) l_Barred_init e_Barred_init k_Barred_init, a_Barred_init, fn_Barred_init, (fun_mk (st := s_Barred___init__) l_Barred_init e_Barred_init k_Barred_init).binds (ps := ["self", "rings"]) fun _ _ _ _ _ _ us hl => match us, hl with | [_, _], _ => rfl⟩, ⟨_, _, fun_mk (st := s_Barred_shows) l_Barred_shows e_Barred_shows k_Barred_shows, a_Barred_shows, fn_Barred_shows, (fun_mk (st := s_Barred_shows) l_Barred_shows e_Barred_shows k_Barred_shows).binds (ps := ["self", "boxes", "most"]) fun _ _ _ _ _ _ us hl => match us, hl with | [_, _, _], _ => rfl⟩, na_Barred_rings, q_All_Answer, q_All_All, q_All_Long, q_All_Mend, q_All_Barred, q_Long_Answer, q_Long_All, q_Long_Long, q_Long_Mend, q_Long_Barred, q_Mend_Answer, q_Mend_All, q_Mend_Long, q_Mend_Mend, q_Mend_Barred, q_Barred_Answer, q_Barred_All, q_Barred_Long, q_Barred_Mend, q_Barred_Barred, ⟨C_SlipError, PySem.W.mg_of X G a_SlipError, x_SlipError, k_SlipError, t_SlipError, ⟨hg_SlipError, hk_SlipError, b_SlipError, hd_SlipError, ha_SlipError, cg1, cg2, hm_SlipError⟩⟩, ⟨C_BadBoxes, PySem.W.mg_of X G a_BadBoxes, x_BadBoxes, k_BadBoxes, t_BadBoxes, ⟨hg_BadBoxes, hk_BadBoxes, b_BadBoxes, hd_BadBoxes, ha_BadBoxes, cg1, cg2, hm_BadBoxes⟩⟩, ⟨C_BadCount, PySem.W.mg_of X G a_BadCount, x_BadCount, k_BadCount, t_BadCount, ⟨hg_BadCount, hk_BadCount, b_BadCount, hd_BadCount, ha_BadCount, cg1, cg2, hm_BadCount⟩⟩, ⟨C_BadNumber, PySem.W.mg_of X G a_BadNumber, x_BadNumber, k_BadNumber, t_BadNumber, ⟨hg_BadNumber, hk_BadNumber, b_BadNumber, hd_BadNumber, ha_BadNumber, cg1, cg2, hm_BadNumber⟩⟩, ⟨C_Lost, PySem.W.mg_of X G a_Lost, x_Lost, k_Lost, t_Lost, ⟨hg_Lost, hk_Lost, b_Lost, hd_Lost, ha_Lost, cg1, cg2, hm_Lost⟩⟩, q_BadBoxes_SlipError, q_BadBoxes_BadBoxes, q_BadBoxes_BadCount, q_BadBoxes_BadNumber, q_BadBoxes_Lost, q_v_BadBoxes, sb_BadBoxes, q_BadCount_SlipError, q_BadCount_BadBoxes, q_BadCount_BadCount, q_BadCount_BadNumber, q_BadCount_Lost, q_v_BadCount, sb_BadCount, q_BadNumber_SlipError, q_BadNumber_BadBoxes, q_BadNumber_BadCount, q_BadNumber_BadNumber, q_BadNumber_Lost, q_v_BadNumber, sb_BadNumber, q_Lost_SlipError, q_Lost_BadBoxes, q_Lost_BadCount, q_Lost_BadNumber, q_Lost_Lost, q_v_Lost, sb_Lost, ⟨_, cc27, P27, a27, tab_mk a27 l27 rfl lc27 vp27, np27⟩, ⟨_, cc29, P29, a29, tab_mk a29 l29 rfl lc29 vp29, np29⟩, rfl, ld_27_29, rfl, _, PySem.W.mg_of X G x0, _, PySem.W.mg_of X G x1, _, PySem.W.mg_of X G x2, PySem.W.mg_none_of X G z0, PySem.W.mg_none_of X G z1, PySem.W.mg_none_of X G z2, PySem.W.mg_none_of X G z3, PySem.W.mg_none_of X G z4, PySem.W.mg_none_of X G z5, PySem.W.mg_none_of X G z6, PySem.W.mg_none_of X G z7, PySem.W.mg_none_of X G z8, PySem.W.mg_none_of X G z9, PySem.W.mg_none_of X G z10, PySem.W.mg_none_of X G z11, PySem.W.mg_none_of X G z12, PySem.W.mg_none_of X G z13, PySem.W.mg_none_of X G z14, PySem.W.mg_none_of X G z15⟩ F30 (fun s v => ?b) t_law_numbers_right t_law_spoiled_right
  exact .of_eq rfl
end Sb
open PySem PySem.W PyProof.Rows
set_option maxHeartbeats 0 in
theorem PySem.Challenge.cw_slipboxes_k09_whole_hard_holds : PySem.Challenge.rw_slipboxes_k09_whole_hard.Holds := by
  w_on; o_law; k_head; (case hw => w_witness2)
  k_fill
  refine Sb.walk_ofTt (l := PySem.Challenge.rw_slipboxes_k09_whole_hard) (n := 63) (k := 14) (x := "_law_script") (CX := fun _ => L2.CX0) rfl (by decide) rfl ⟨rfl, by decide, by decide⟩ (fun w h Y => PySem.W.km_in_of Y) ?F (fun _ _ _ _ _ h => h)
  case F =>
    intro w mg fa h _ KX G hmg TT
    refine' Sb.all_mk KX G hmg (fun c P ht => TT "_law_numbers_right" _ c P rfl ht) (fun c P ht => TT "_law_spoiled_right" _ c P rfl ht) ?a0 ?l0 ?e0 ?k0 ?a1 ?l1 ?e1 ?k1 ?a2 ?l2 ?e2 ?k2 ?a3 ?l3 ?e3 ?k3 ?a4 ?l4 ?e4 ?k4 ?a5 ?l5 ?e5 ?k5 ?a6 ?l6 ?e6 ?k6 ?a7 ?l7 ?e7 ?k7 ?a8 ?l8 ?e8 ?k8 ?a9 ?l9 ?e9 ?k9 ?a10 ?l10 ?e10 ?k10 ?a11 ?l11 ?e11 ?k11 ?a12 ?l12 ?e12 ?k12 ?a13 ?l13 ?e13 ?k13 ?a14 ?l14 ?e14 ?k14 ?a15 ?l15 ?e15 ?k15 ?a16 ?l16 ?e16 ?k16 ?a17 ?l17 ?e17 ?k17 ?a18 ?l18 ?e18 ?k18 ?a19 ?l19 ?e19 ?k19 ?a20 ?l20 ?e20 ?k20 ?a21 ?l21 ?e21 ?k21 ?a22 ?l22 ?e22 ?k22 ?a23 ?l23 ?e23 ?k23 ?a24 ?l24 ?e24 ?k24 ?a25 ?l25 ?e25 ?k25 ?a26 ?l26 ?e26 ?k26 ?a27 ?l27 ?e27 ?k27 ?lc27 ?vp27 ?np27 ?a28 ?l28 ?e28 ?k28 ?a29 ?l29 ?e29 ?k29 ?lc29 ?vp29 ?np29 ?a30 ?l30 ?e30 ?k30 ?cg1 ?cg2 ?a_Answer ?pg_Answer ?hd_Answer ?po_Answer ?sa_Answer ?mk_Answer ?kc_Answer ?ha_Answer ?hm_Answer ?ni_Answer ?a_All ?pg_All ?hd_All ?po_All ?sa_All ?mk_All ?kc_All ?ha_All ?hm_All ?ni_All ?a_All_shows ?l_All_shows ?e_All_shows ?k_All_shows ?fn_All_shows ?a_Long ?pg_Long ?hd_Long ?po_Long ?sa_Long ?mk_Long ?kc_Long ?ha_Long ?hm_Long ?a_Long_init ?l_Long_init ?e_Long_init ?k_Long_init ?fn_Long_init ?a_Long_shows ?l_Long_shows ?e_Long_shows ?k_Long_shows ?fn_Long_shows ?na_Long_ring ?a_Mend ?pg_Mend ?hd_Mend ?po_Mend ?sa_Mend ?mk_Mend ?kc_Mend ?ha_Mend ?hm_Mend ?a_Mend_init ?l_Mend_init ?e_Mend_init ?k_Mend_init ?fn_Mend_init ?a_Mend_shows ?l_Mend_shows ?e_Mend_shows ?k_Mend_shows ?fn_Mend_shows ?na_Mend_one ?na_Mend_other ?a_Barred ?pg_Barred ?hd_Barred ?po_Barred ?sa_Barred ?mk_Barred ?kc_Barred ?ha_Barred ?hm_Barred ?a_Barred_init ?l_Barred_init ?e_Barred_init ?k_Barred_init ?fn_Barred_init ?a_Barred_shows ?l_Barred_shows ?e_Barred_shows ?k_Barred_shows ?fn_Barred_shows ?na_Barred_rings ?q_All_Answer ?q_All_All ?q_All_Long ?q_All_Mend ?q_All_Barred ?q_Long_Answer ?q_Long_All ?q_Long_Long ?q_Long_Mend ?q_Long_Barred ?q_Mend_Answer ?q_Mend_All ?q_Mend_Long ?q_Mend_Mend ?q_Mend_Barred ?q_Barred_Answer ?q_Barred_All ?q_Barred_Long ?q_Barred_Mend ?q_Barred_Barred ?a_SlipError ?x_SlipError ?k_SlipError ?b_SlipError ?t_SlipError ?hg_SlipError ?hk_SlipError ?hd_SlipError ?ha_SlipError ?hm_SlipError ?a_BadBoxes ?x_BadBoxes ?k_BadBoxes ?b_BadBoxes ?t_BadBoxes ?hg_BadBoxes ?hk_BadBoxes ?hd_BadBoxes ?ha_BadBoxes ?hm_BadBoxes ?a_BadCount ?x_BadCount ?k_BadCount ?b_BadCount ?t_BadCount ?hg_BadCount ?hk_BadCount ?hd_BadCount ?ha_BadCount ?hm_BadCount ?a_BadNumber ?x_BadNumber ?k_BadNumber ?b_BadNumber ?t_BadNumber ?hg_BadNumber ?hk_BadNumber ?hd_BadNumber ?ha_BadNumber ?hm_BadNumber ?a_Lost ?x_Lost ?k_Lost ?b_Lost ?t_Lost ?hg_Lost ?hk_Lost ?hd_Lost ?ha_Lost ?hm_Lost ?q_BadBoxes_SlipError ?q_BadBoxes_BadBoxes ?q_BadBoxes_BadCount ?q_BadBoxes_BadNumber ?q_BadBoxes_Lost ?q_v_BadBoxes ?sb_BadBoxes ?q_BadCount_SlipError ?q_BadCount_BadBoxes ?q_BadCount_BadCount ?q_BadCount_BadNumber ?q_BadCount_Lost ?q_v_BadCount ?sb_BadCount ?q_BadNumber_SlipError ?q_BadNumber_BadBoxes ?q_BadNumber_BadCount ?q_BadNumber_BadNumber ?q_BadNumber_Lost ?q_v_BadNumber ?sb_BadNumber ?q_Lost_SlipError ?q_Lost_BadBoxes ?q_Lost_BadCount ?q_Lost_BadNumber ?q_Lost_Lost ?q_v_Lost ?sb_Lost ?ld_27_29 ?x0 ?x1 ?x2 ?z0 ?z1 ?z2 ?z3 ?z4 ?z5 ?z6 ?z7 ?z8 ?z9 ?z10 ?z11 ?z12 ?z13 ?z14 ?z15
    (case a0 => k_is)
    (case l0 => k_is)
    (case e0 => k_is)
    (case k0 => k_is)
    (case a1 => k_is)
    (case l1 => k_is)
    (case e1 => k_is)
    (case k1 => k_is)
    (case a2 => k_is)
    (case l2 => k_is)
    (case e2 => k_is)
    (case k2 => k_is)
    (case a3 => k_is)
    (case l3 => k_is)
    (case e3 => k_is)
    (case k3 => k_is)
    (case a4 => k_is)
    (case l4 => k_is)
    (case e4 => k_is)
    (case k4 => k_is)
    (case a5 => k_is)
    (case l5 => k_is)
    (case e5 => k_is)
    (case k5 => k_is)
    (case a6 => k_is)
    (case l6 => k_is)
    (case e6 => k_is)
    (case k6 => k_is)
    (case a7 => k_is)
    (case l7 => k_is)
    (case e7 => k_is)
    (case k7 => k_is)
    (case a8 => k_is)
    (case l8 => k_is)
    (case e8 => k_is)
    (case k8 => k_is)
    (case a9 => k_is)
    (case l9 => k_is)
    (case e9 => k_is)
    (case k9 => k_is)
    (case a10 => k_is)
    (case l10 => k_is)
    (case e10 => k_is)
    (case k10 => k_is)
    (case a11 => k_is)
    (case l11 => k_is)
    (case e11 => k_is)
    (case k11 => k_is)
    (case a12 => k_is)
    (case l12 => k_is)
    (case e12 => k_is)
    (case k12 => k_is)
    (case a13 => k_is)
    (case l13 => k_is)
    (case e13 => k_is)
    (case k13 => k_is)
    (case a14 => k_is)
    (case l14 => k_is)
    (case e14 => k_is)
    (case k14 => k_is)
    (case a15 => k_is)
    (case l15 => k_is)
    (case e15 => k_is)
    (case k15 => k_is)
    (case a16 => k_is)
    (case l16 => k_is)
    (case e16 => k_is)
    (case k16 => k_is)
    (case a17 => k_is)
    (case l17 => k_is)
    (case e17 => k_is)
    (case k17 => k_is)
    (case a18 => k_is)
    (case l18 => k_is)
    (case e18 => k_is)
    (case k18 => k_is)
    (case a19 => k_is)
    (case l19 => k_is)
    (case e19 => k_is)
    (case k19 => k_is)
    (case a20 => k_is)
    (case l20 => k_is)
    (case e20 => k_is)
    (case k20 => k_is)
    (case a21 => k_is)
    (case l21 => k_is)
    (case e21 => k_is)
    (case k21 => k_is)
    (case a22 => k_is)
    (case l22 => k_is)
    (case e22 => k_is)
    (case k22 => k_is)
    (case a23 => k_is)
    (case l23 => k_is)
    (case e23 => k_is)
    (case k23 => k_is)
    (case a24 => k_is)
    (case l24 => k_is)
    (case e24 => k_is)
    (case k24 => k_is)
    (case a25 => k_is)
    (case l25 => k_is)
    (case e25 => k_is)
    (case k25 => k_is)
    (case a26 => k_is)
    (case l26 => k_is)
    (case e26 => k_is)
    (case k26 => k_is)
    (case a27 => k_is)
    (case l27 => k_is)
    (case e27 => k_is)
    (case k27 => k_is)
    (case lc27 => k_is)
    (case vp27 => exact rfl)
    (case np27 => exact (by kernel_rfl))
    (case a28 => k_is)
    (case l28 => k_is)
    (case e28 => k_is)
    (case k28 => k_is)
    (case a29 => k_is)
    (case l29 => k_is)
    (case e29 => k_is)
    (case k29 => k_is)
    (case lc29 => k_is)
    (case vp29 => exact rfl)
    (case np29 => exact (by kernel_rfl))
    (case a30 => k_is)
    (case l30 => k_is)
    (case e30 => k_is)
    (case k30 => k_is)
    (case cg1 => k_is)
    (case cg2 => k_is)
    (case a_Answer => k_is)
    (case pg_Answer => k_is)
    (case hd_Answer => k_is)
    (case po_Answer => k_is)
    (case sa_Answer => k_is)
    (case mk_Answer => k_is)
    (case kc_Answer => k_is)
    (case ha_Answer => k_is)
    (case hm_Answer => k_is)
    (case ni_Answer => k_is)
    (case a_All => k_is)
    (case pg_All => k_is)
    (case hd_All => k_is)
    (case po_All => k_is)
    (case sa_All => k_is)
    (case mk_All => k_is)
    (case kc_All => k_is)
    (case ha_All => k_is)
    (case hm_All => k_is)
    (case ni_All => k_is)
    (case a_All_shows => k_is)
    (case l_All_shows => k_is)
    (case e_All_shows => k_is)
    (case k_All_shows => k_is)
    (case fn_All_shows => k_is)
    (case a_Long => k_is)
    (case pg_Long => k_is)
    (case hd_Long => k_is)
    (case po_Long => k_is)
    (case sa_Long => k_is)
    (case mk_Long => k_is)
    (case kc_Long => k_is)
    (case ha_Long => k_is)
    (case hm_Long => k_is)
    (case a_Long_init => k_is)
    (case l_Long_init => k_is)
    (case e_Long_init => k_is)
    (case k_Long_init => k_is)
    (case fn_Long_init => k_is)
    (case a_Long_shows => k_is)
    (case l_Long_shows => k_is)
    (case e_Long_shows => k_is)
    (case k_Long_shows => k_is)
    (case fn_Long_shows => k_is)
    (case na_Long_ring => k_is)
    (case a_Mend => k_is)
    (case pg_Mend => k_is)
    (case hd_Mend => k_is)
    (case po_Mend => k_is)
    (case sa_Mend => k_is)
    (case mk_Mend => k_is)
    (case kc_Mend => k_is)
    (case ha_Mend => k_is)
    (case hm_Mend => k_is)
    (case a_Mend_init => k_is)
    (case l_Mend_init => k_is)
    (case e_Mend_init => k_is)
    (case k_Mend_init => k_is)
    (case fn_Mend_init => k_is)
    (case a_Mend_shows => k_is)
    (case l_Mend_shows => k_is)
    (case e_Mend_shows => k_is)
    (case k_Mend_shows => k_is)
    (case fn_Mend_shows => k_is)
    (case na_Mend_one => k_is)
    (case na_Mend_other => k_is)
    (case a_Barred => k_is)
    (case pg_Barred => k_is)
    (case hd_Barred => k_is)
    (case po_Barred => k_is)
    (case sa_Barred => k_is)
    (case mk_Barred => k_is)
    (case kc_Barred => k_is)
    (case ha_Barred => k_is)
    (case hm_Barred => k_is)
    (case a_Barred_init => k_is)
    (case l_Barred_init => k_is)
    (case e_Barred_init => k_is)
    (case k_Barred_init => k_is)
    (case fn_Barred_init => k_is)
    (case a_Barred_shows => k_is)
    (case l_Barred_shows => k_is)
    (case e_Barred_shows => k_is)
    (case k_Barred_shows => k_is)
    (case fn_Barred_shows => k_is)
    (case na_Barred_rings => k_is)
    (case q_All_Answer => kit_is)
    (case q_All_All => kit_is)
    (case q_All_Long => kit_is)
    (case q_All_Mend => kit_is)
    (case q_All_Barred => kit_is)
    (case q_Long_Answer => kit_is)
    (case q_Long_All => kit_is)
    (case q_Long_Long => kit_is)
    (case q_Long_Mend => kit_is)
    (case q_Long_Barred => kit_is)
    (case q_Mend_Answer => kit_is)
    (case q_Mend_All => kit_is)
    (case q_Mend_Long => kit_is)
    (case q_Mend_Mend => kit_is)
    (case q_Mend_Barred => kit_is)
    (case q_Barred_Answer => kit_is)
    (case q_Barred_All => kit_is)
    (case q_Barred_Long => kit_is)
    (case q_Barred_Mend => kit_is)
    (case q_Barred_Barred => kit_is)
    (case a_SlipError => k_is)
    (case x_SlipError => k_exc)
    (case k_SlipError => k_is)
    (case b_SlipError => k_is)
    (case t_SlipError => k_is)
    (case hg_SlipError => k_is)
    (case hk_SlipError => k_is)
    (case hd_SlipError => k_is)
    (case ha_SlipError => k_is)
    (case hm_SlipError => k_is)
    (case a_BadBoxes => k_is)
    (case x_BadBoxes => k_exc)
    (case k_BadBoxes => k_is)
    (case b_BadBoxes => k_is)
    (case t_BadBoxes => k_is)
    (case hg_BadBoxes => k_is)
    (case hk_BadBoxes => k_is)
    (case hd_BadBoxes => k_is)
    (case ha_BadBoxes => k_is)
    (case hm_BadBoxes => k_is)
    (case a_BadCount => k_is)
    (case x_BadCount => k_exc)
    (case k_BadCount => k_is)
    (case b_BadCount => k_is)
    (case t_BadCount => k_is)
    (case hg_BadCount => k_is)
    (case hk_BadCount => k_is)
    (case hd_BadCount => k_is)
    (case ha_BadCount => k_is)
    (case hm_BadCount => k_is)
    (case a_BadNumber => k_is)
    (case x_BadNumber => k_exc)
    (case k_BadNumber => k_is)
    (case b_BadNumber => k_is)
    (case t_BadNumber => k_is)
    (case hg_BadNumber => k_is)
    (case hk_BadNumber => k_is)
    (case hd_BadNumber => k_is)
    (case ha_BadNumber => k_is)
    (case hm_BadNumber => k_is)
    (case a_Lost => k_is)
    (case x_Lost => k_exc)
    (case k_Lost => k_is)
    (case b_Lost => k_is)
    (case t_Lost => k_is)
    (case hg_Lost => k_is)
    (case hk_Lost => k_is)
    (case hd_Lost => k_is)
    (case ha_Lost => k_is)
    (case hm_Lost => k_is)
    (case q_BadBoxes_SlipError => kit_is)
    (case q_BadBoxes_BadBoxes => kit_is)
    (case q_BadBoxes_BadCount => kit_is)
    (case q_BadBoxes_BadNumber => kit_is)
    (case q_BadBoxes_Lost => kit_is)
    (case q_v_BadBoxes => kit_is)
    (case sb_BadBoxes => k_is)
    (case q_BadCount_SlipError => kit_is)
    (case q_BadCount_BadBoxes => kit_is)
    (case q_BadCount_BadCount => kit_is)
    (case q_BadCount_BadNumber => kit_is)
    (case q_BadCount_Lost => kit_is)
    (case q_v_BadCount => kit_is)
    (case sb_BadCount => k_is)
    (case q_BadNumber_SlipError => kit_is)
    (case q_BadNumber_BadBoxes => kit_is)
    (case q_BadNumber_BadCount => kit_is)
    (case q_BadNumber_BadNumber => kit_is)
    (case q_BadNumber_Lost => kit_is)
    (case q_v_BadNumber => kit_is)
    (case sb_BadNumber => k_is)
    (case q_Lost_SlipError => kit_is)
    (case q_Lost_BadBoxes => kit_is)
    (case q_Lost_BadCount => kit_is)
    (case q_Lost_BadNumber => kit_is)
    (case q_Lost_Lost => kit_is)
    (case q_v_Lost => kit_is)
    (case sb_Lost => k_is)
    (case ld_27_29 => exact (by decide))
    (case x0 => k_is)
    (case x1 => k_is)
    (case x2 => k_is)
    (case z0 => k_is)
    (case z1 => k_is)
    (case z2 => k_is)
    (case z3 => k_is)
    (case z4 => k_is)
    (case z5 => k_is)
    (case z6 => k_is)
    (case z7 => k_is)
    (case z8 => k_is)
    (case z9 => k_is)
    (case z10 => k_is)
    (case z11 => k_is)
    (case z12 => k_is)
    (case z13 => k_is)
    (case z14 => k_is)
    (case z15 => k_is)

