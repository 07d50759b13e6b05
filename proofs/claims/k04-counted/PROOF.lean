import PyProof.Rows.All
import Wide.All
import OpenK.AllK
import Wide.FinOn
import HandS.ForMost
import HandS.IsInst
import HandS.Conv
import HandS.More
import HandS.Zip
import HandS.Wide
import HandS.SortInts
import HandS.EndBits
import KE.IntBitsLaws
import HandS.Style
import HandS.Walk
import HandS.Codes
import PySem.Challenge.RW_slipboxes_k04_whole_counted
set_option Elab.async false
set_option linter.all false
set_option maxRecDepth 100000
set_option maxHeartbeats 4000000
/-! Rings of boxes, in plain Lean. -/
namespace Sb

/-- the slip in box i -/
def nxt (ns : List Nat) (i : Nat) : Nat := ns.getD i 0

/-- boxes: each number below the length once -/
structure Good (ns : List Nat) : Prop where
  perm : ns.Perm (List.range ns.length)

theorem Good.nodup {ns : List Nat} (g : Good ns) : ns.Nodup := g.perm.nodup_iff.mpr List.nodup_range
theorem Good.lt {ns : List Nat} (g : Good ns) {x : Nat} (h : x ∈ ns) : x < ns.length := List.mem_range.mp (g.perm.mem_iff.mp h)
theorem Good.mem {ns : List Nat} (g : Good ns) {x : Nat} (h : x < ns.length) : x ∈ ns := g.perm.mem_iff.mpr (List.mem_range.mpr h)

theorem nxt_get {ns : List Nat} {i : Nat} (h : i < ns.length) : nxt ns i = ns[i] := by
  unfold nxt; rw [List.getD_eq_getElem?_getD, List.getElem?_eq_getElem h]; rfl
theorem nxt_get? {ns : List Nat} {i : Nat} (h : i < ns.length) : ns[i]? = some (nxt ns i) := by
  rw [nxt_get h, List.getElem?_eq_getElem h]
theorem Good.nxt_lt {ns : List Nat} (g : Good ns) {i : Nat} (h : i < ns.length) : nxt ns i < ns.length := by
  rw [nxt_get h]; exact g.lt (List.getElem_mem h)
theorem Good.inj {ns : List Nat} (g : Good ns) {i j : Nat} (hi : i < ns.length) (hj : j < ns.length) (e : nxt ns i = nxt ns j) : i = j := by
  rw [nxt_get hi, nxt_get hj] at e
  exact (List.getElem_inj g.nodup).mp e

/-- r goes from h on where the slips lead, no box twice -/
structure Chain (ns : List Nat) (h : Nat) (r : List Nat) : Prop where
  head : r[0]? = some h
  step : ∀ i x y, r[i]? = some x → r[i + 1]? = some y → nxt ns x = y
  nd : r.Nodup
  lt : ∀ x ∈ r, x < ns.length

/-- a ring from h on -/
structure IsRing (ns : List Nat) (h : Nat) (r : List Nat) : Prop extends Chain ns h r where
  back : ∀ x, r[r.length - 1]? = some x → nxt ns x = h

theorem Chain.pos {ns : List Nat} {h : Nat} {r : List Nat} (c : Chain ns h r) : 0 < r.length := by
  have := c.head
  cases r with
  | nil => simp at this
  | cons a l => simp
theorem Chain.hlt {ns : List Nat} {h : Nat} {r : List Nat} (c : Chain ns h r) : h < ns.length := c.lt h (List.mem_of_getElem? c.head)
theorem Chain.hmem {ns : List Nat} {h : Nat} {r : List Nat} (c : Chain ns h r) : h ∈ r := List.mem_of_getElem? c.head
theorem Chain.one {ns : List Nat} {h : Nat} (hh : h < ns.length) : Chain ns h [h] where
  head := rfl
  step := fun i x y _ e => by simp at e
  nd := by simp
  lt := fun x hx => by simp at hx; subst hx; exact hh

theorem nodup_le : ∀ {n : Nat} {r : List Nat}, r.Nodup → (∀ x ∈ r, x < n) → r.length ≤ n
  | 0, r, _, lt => by
    cases r with
    | nil => simp
    | cons a l => exact absurd (lt a List.mem_cons_self) (Nat.not_lt_zero a)
  | n + 1, r, nd, lt => by
    have ih := nodup_le (n := n) (r := r.erase n) (nd.erase n) fun x hx => by
      have h1 := lt x (List.mem_of_mem_erase hx)
      have h2 : x ≠ n := fun e => by
        subst e
        exact (List.Nodup.not_mem_erase nd) hx
      omega
    by_cases h : n ∈ r
    · rw [List.length_erase_of_mem h] at ih
      omega
    · rw [List.erase_of_not_mem h] at ih
      omega
theorem Chain.len_le {ns : List Nat} {h : Nat} {r : List Nat} (c : Chain ns h r) : r.length ≤ ns.length := nodup_le c.nd c.lt

/-- the slip behind a chain is its first box, or a new one -/
theorem Chain.slip {ns : List Nat} {h : Nat} {r : List Nat} (g : Good ns) (c : Chain ns h r) {x : Nat} (hx : r[r.length - 1]? = some x) (hm : nxt ns x ∈ r) : nxt ns x = h := by
  obtain ⟨j, hj, e⟩ := List.mem_iff_getElem.mp hm
  cases j with
  | zero =>
    have := c.head
    rw [List.getElem?_eq_getElem hj] at this
    rw [← e]; exact Option.some.inj this
  | succ j =>
    exfalso
    have hj' : j < r.length := by omega
    have e1 : nxt ns r[j] = r[j + 1] := c.step j _ _ (List.getElem?_eq_getElem hj') (List.getElem?_eq_getElem hj)
    have hl : r.length - 1 < r.length := by omega
    have ex : r[r.length - 1] = x := by
      rw [List.getElem?_eq_getElem hl] at hx
      exact Option.some.inj hx
    have e2 : r[j] = x := g.inj (c.lt _ (List.getElem_mem hj')) (c.lt _ (ex ▸ List.getElem_mem hl)) (by rw [e1, e])
    have : j = r.length - 1 := (List.getElem_inj c.nd).mp (e2.trans ex.symm)
    omega

theorem last?_append {r : List Nat} {y : Nat} : (r ++ [y])[(r ++ [y]).length - 1]? = some y := by
  simp

theorem Chain.more {ns : List Nat} {h : Nat} {r : List Nat} (c : Chain ns h r) {x : Nat} (hx : r[r.length - 1]? = some x) (hn : nxt ns x ∉ r) (hl : nxt ns x < ns.length) : Chain ns h (r ++ [nxt ns x]) where
  head := by
    rw [List.getElem?_append_left c.pos]; exact c.head
  step := fun i a b ha hb => by
    by_cases hi : i + 1 < r.length
    · rw [List.getElem?_append_left (by omega)] at ha
      rw [List.getElem?_append_left hi] at hb
      exact c.step i a b ha hb
    · have hlt : i + 1 < (r ++ [nxt ns x]).length := by
        obtain ⟨h1, _⟩ := List.getElem?_eq_some_iff.mp hb; exact h1
      rw [List.length_append] at hlt
      simp at hlt
      have hi2 : i = r.length - 1 := by omega
      have hp := c.pos
      rw [List.getElem?_append_left (by omega), hi2, hx] at ha
      rw [List.getElem?_append_right (by omega)] at hb
      have : i + 1 - r.length = 0 := by omega
      rw [this] at hb
      cases ha
      simpa using hb
  nd := by
    rw [List.nodup_append]
    refine ⟨c.nd, by simp, ?_⟩
    intro a ha b hb
    simp at hb
    subst hb
    intro e; subst e; exact hn ha
  lt := fun y hy => by
    rcases List.mem_append.mp hy with z | z
    · exact c.lt y z
    · simp at z; subst z; exact hl

theorem Chain.last {ns : List Nat} {h : Nat} {r : List Nat} (c : Chain ns h r) : ∃ x, r[r.length - 1]? = some x ∧ x ∈ r ∧ x < ns.length := by
  have hp := c.pos
  have hl : r.length - 1 < r.length := by omega
  exact ⟨r[r.length - 1], List.getElem?_eq_getElem hl, List.getElem_mem hl, c.lt _ (List.getElem_mem hl)⟩

/-- the ring of a hand, by steps -/
def ringGo (ns : List Nat) (h : Nat) : Nat → List Nat → List Nat
  | 0, r => r
  | k + 1, r => if nxt ns (r.getLastD 0) = h then r else ringGo ns h k (r ++ [nxt ns (r.getLastD 0)])
def ringOf (ns : List Nat) (h : Nat) : List Nat := ringGo ns h ns.length [h]

theorem getLastD_of {r : List Nat} {x : Nat} (hx : r[r.length - 1]? = some x) : r.getLastD 0 = x := by
  rw [List.getLastD_eq_getLast?, List.getLast?_eq_getElem?, hx]; rfl

theorem ringGo_is {ns : List Nat} {h : Nat} (g : Good ns) : ∀ (k : Nat) (r : List Nat), Chain ns h r → ns.length < r.length + k → IsRing ns h (ringGo ns h k r)
  | 0, r, c, hk => by have := c.len_le; omega
  | k + 1, r, c, hk => by
    obtain ⟨x, hx, hm, hl⟩ := c.last
    unfold ringGo
    rw [getLastD_of hx]
    by_cases e : nxt ns x = h
    · rw [if_pos e]
      exact ⟨c, fun y hy => by rw [hx] at hy; cases hy; exact e⟩
    · rw [if_neg e]
      refine ringGo_is g k _ (c.more hx (fun z => e (c.slip g hx z)) (g.nxt_lt hl)) ?_
      rw [List.length_append, List.length_singleton]; omega

theorem ringOf_is {ns : List Nat} {h : Nat} (g : Good ns) (hh : h < ns.length) : IsRing ns h (ringOf ns h) :=
  ringGo_is g _ _ (Chain.one hh) (by simp)

theorem Chain.same {ns : List Nat} {h : Nat} {r q : List Nat} (c : Chain ns h r) (d : Chain ns h q) : ∀ i, i < r.length → i < q.length → r[i]? = q[i]?
  | 0, _, _ => c.head.trans d.head.symm
  | i + 1, h1, h2 => by
    have ih := Chain.same c d i (by omega) (by omega)
    have e1 := c.step i _ _ (List.getElem?_eq_getElem (by omega)) (List.getElem?_eq_getElem h1)
    have e2 := d.step i _ _ (List.getElem?_eq_getElem (by omega)) (List.getElem?_eq_getElem h2)
    rw [List.getElem?_eq_getElem (by omega), List.getElem?_eq_getElem (by omega)] at ih
    rw [List.getElem?_eq_getElem h1, List.getElem?_eq_getElem h2, ← e1, ← e2, Option.some.inj ih]

theorem IsRing.not_lt {ns : List Nat} {h : Nat} {r q : List Nat} (c : IsRing ns h r) (d : Chain ns h q) : ¬ r.length < q.length := fun hlt => by
  have hp := c.pos
  obtain ⟨x, hx, hm, hl⟩ := c.toChain.last
  have e := Chain.same c.toChain d (r.length - 1) (by omega) (by omega)
  have b := c.back x hx
  rw [hx] at e
  have s := d.step (r.length - 1) x _ e.symm (by rw [show r.length - 1 + 1 = r.length by omega]; exact List.getElem?_eq_getElem hlt)
  rw [b] at s
  have h0 := d.head
  have hq : 0 < q.length := by omega
  rw [List.getElem?_eq_getElem hq] at h0
  have : 0 = r.length := (List.getElem_inj d.nd).mp ((Option.some.inj h0).trans s)
  omega

theorem IsRing.unique {ns : List Nat} {h : Nat} {r q : List Nat} (c : IsRing ns h r) (d : IsRing ns h q) : r = q := by
  have hl : r.length = q.length := by
    have h1 := c.not_lt d.toChain
    have h2 := d.not_lt c.toChain
    omega
  apply List.ext_getElem? 
  intro i
  by_cases hi : i < r.length
  · exact Chain.same c.toChain d.toChain i hi (by omega)
  · rw [List.getElem?_eq_none (by omega), List.getElem?_eq_none (by omega)]

theorem IsRing.eq {ns : List Nat} {h : Nat} {r : List Nat} (g : Good ns) (c : IsRing ns h r) : r = ringOf ns h := c.unique (ringOf_is g c.toChain.hlt)

end Sb

namespace Sb

theorem ringOf_nd {ns : List Nat} {h : Nat} (g : Good ns) (hh : h < ns.length) : (ringOf ns h).Nodup := (ringOf_is g hh).nd
theorem ringOf_lt {ns : List Nat} {h x : Nat} (g : Good ns) (hh : h < ns.length) (hx : x ∈ ringOf ns h) : x < ns.length := (ringOf_is g hh).lt x hx
theorem ringOf_mem {ns : List Nat} {h : Nat} (g : Good ns) (hh : h < ns.length) : h ∈ ringOf ns h := (ringOf_is g hh).toChain.hmem
theorem ringOf_len {ns : List Nat} {h : Nat} (g : Good ns) (hh : h < ns.length) : (ringOf ns h).length ≤ ns.length := (ringOf_is g hh).toChain.len_le
theorem ringOf_pos {ns : List Nat} {h : Nat} (g : Good ns) (hh : h < ns.length) : 0 < (ringOf ns h).length := (ringOf_is g hh).toChain.pos

/-- consecutive boxes of a list, each leading to the next -/
def Leads (ns : List Nat) : List Nat → Prop
  | x :: y :: r => nxt ns x = y ∧ Leads ns (y :: r)
  | _ => True

/-- IsRing by a list's own form -/
theorem isRing_iff {ns : List Nat} {h : Nat} {r : List Nat} : IsRing ns h r ↔ r[0]? = some h ∧ r.Nodup ∧ (∀ x ∈ r, x < ns.length) ∧ ∀ i x y, r[i]? = some x → r[(i + 1) % r.length]? = some y → nxt ns x = y := by
  constructor
  · intro c
    refine ⟨c.head, c.nd, c.lt, fun i x y hx hy => ?_⟩
    have hi : i < r.length := (List.getElem?_eq_some_iff.mp hx).1
    by_cases hl : i + 1 < r.length
    · rw [Nat.mod_eq_of_lt hl] at hy
      exact c.step i x y hx hy
    · have e : i + 1 = r.length := by omega
      rw [e, Nat.mod_self, c.head] at hy
      cases hy
      exact c.back x (by rw [← e]; exact hx)
  · rintro ⟨h0, nd, lt, st⟩
    refine ⟨⟨h0, fun i x y hx hy => ?_, nd, lt⟩, fun x hx => ?_⟩
    · have hl : i + 1 < r.length := (List.getElem?_eq_some_iff.mp hy).1
      exact st i x y hx (by rw [Nat.mod_eq_of_lt hl]; exact hy)
    · have hi : r.length - 1 < r.length := (List.getElem?_eq_some_iff.mp hx).1
      exact st (r.length - 1) x h hx (by rw [show r.length - 1 + 1 = r.length by omega, Nat.mod_self]; exact h0)

/-- a ring turned -/
theorem IsRing.turn {ns : List Nat} {h y : Nat} {a b : List Nat} (c : IsRing ns h (a ++ y :: b)) : IsRing ns y (y :: b ++ a) := by
  rw [isRing_iff] at c ⊢
  obtain ⟨h0, nd, lt, st⟩ := c
  refine ⟨rfl, ?_, fun x hx => lt x ?_, fun i x z hx hz => ?_⟩
  · exact (List.perm_append_comm.nodup_iff).mp nd
  · exact (List.perm_append_comm.mem_iff).mp hx
  · have hn : (y :: b ++ a).length = (a ++ y :: b).length := by simp; omega
    have key : ∀ j, j < (a ++ y :: b).length → (y :: b ++ a)[j]? = (a ++ y :: b)[(j + a.length) % (a ++ y :: b).length]? := by
      intro j hj
      by_cases hjb : j < (y :: b).length
      · have e : (j + a.length) % (a ++ y :: b).length = j + a.length := Nat.mod_eq_of_lt (by rw [List.length_append]; omega)
        rw [e, List.getElem?_append_left hjb, List.getElem?_append_right (by omega)]
        congr 1; omega
      · have hl : (a ++ y :: b).length = a.length + (y :: b).length := List.length_append
        have e : (j + a.length) % (a ++ y :: b).length = j - (y :: b).length := by
          rw [Nat.mod_eq_sub_mod (by omega), Nat.mod_eq_of_lt (by omega)]; omega
        rw [e, List.getElem?_append_right (by omega), List.getElem?_append_left (by omega)]
    have hi : i < (a ++ y :: b).length := by
      have := (List.getElem?_eq_some_iff.mp hx).1; omega
    rw [key i hi] at hx
    rw [hn, key _ (Nat.mod_lt _ (by omega))] at hz
    refine st _ x z hx ?_
    rw [← hz]
    congr 1
    rw [Nat.mod_add_mod, Nat.mod_add_mod]
    congr 1; omega

theorem ringOf_turn {ns : List Nat} {h y : Nat} (g : Good ns) (hh : h < ns.length) (hy : y ∈ ringOf ns h) : ∃ a b, ringOf ns h = a ++ y :: b ∧ ringOf ns y = y :: b ++ a := by
  obtain ⟨a, b, e⟩ := List.append_of_mem hy
  have c := ringOf_is g hh
  rw [e] at c
  exact ⟨a, b, e, (c.turn.eq g).symm⟩

theorem ringOf_perm {ns : List Nat} {h y : Nat} (g : Good ns) (hh : h < ns.length) (hy : y ∈ ringOf ns h) : (ringOf ns y).Perm (ringOf ns h) := by
  obtain ⟨a, b, e1, e2⟩ := ringOf_turn g hh hy
  rw [e1, e2]
  exact List.perm_append_comm
theorem ringOf_mem_iff {ns : List Nat} {h y x : Nat} (g : Good ns) (hh : h < ns.length) (hy : y ∈ ringOf ns h) : x ∈ ringOf ns y ↔ x ∈ ringOf ns h := (ringOf_perm g hh hy).mem_iff
theorem ringOf_symm {ns : List Nat} {h y : Nat} (g : Good ns) (hh : h < ns.length) (hy : y ∈ ringOf ns h) : h ∈ ringOf ns y := (ringOf_mem_iff g hh hy).mpr (ringOf_mem g hh)
theorem ringOf_len_eq {ns : List Nat} {h y : Nat} (g : Good ns) (hh : h < ns.length) (hy : y ∈ ringOf ns h) : (ringOf ns y).length = (ringOf ns h).length := (ringOf_perm g hh hy).length_eq

/-- h is the least of its ring -/
def isMin (ns : List Nat) (h : Nat) : Bool := (ringOf ns h).all fun x => decide (h ≤ x)
theorem isMin_iff {ns : List Nat} {h : Nat} : isMin ns h = true ↔ ∀ x ∈ ringOf ns h, h ≤ x := by
  unfold isMin
  rw [List.all_eq_true]
  simp
/-- the rings from the boxes below k on -/
def ringsTo (ns : List Nat) (k : Nat) : List (List Nat) := ((List.range k).filter (isMin ns)).map (ringOf ns)
def ringsOf (ns : List Nat) : List (List Nat) := ringsTo ns ns.length
theorem ringsTo_zero (ns : List Nat) : ringsTo ns 0 = [] := rfl
theorem ringsTo_succ (ns : List Nat) (k : Nat) : ringsTo ns (k + 1) = if isMin ns k = true then ringsTo ns k ++ [ringOf ns k] else ringsTo ns k := by
  unfold ringsTo
  rw [List.range_succ, List.filter_append, List.map_append]
  by_cases h : isMin ns k = true
  · rw [if_pos h]; simp [h]
  · rw [if_neg h]; simp [h]

theorem exists_min : ∀ (r : List Nat), r ≠ [] → ∃ m, m ∈ r ∧ ∀ x ∈ r, m ≤ x
  | [], h => absurd rfl h
  | [a], _ => ⟨a, by simp, fun x hx => by simp at hx; omega⟩
  | a :: b :: l, _ => by
    obtain ⟨m, hm, hl⟩ := exists_min (b :: l) (by simp)
    by_cases h : a ≤ m
    · exact ⟨a, by simp, fun x hx => by
        rcases List.mem_cons.mp hx with e | e
        · omega
        · have := hl x e; omega⟩
    · exact ⟨m, List.mem_cons_of_mem _ hm, fun x hx => by
        rcases List.mem_cons.mp hx with e | e
        · omega
        · exact hl x e⟩

/-- box k stands in a ring from a lesser box on, just where it is not the least of its own -/
theorem gone_iff {ns : List Nat} (g : Good ns) {k : Nat} (hk : k < ns.length) : k ∈ (ringsTo ns k).flatten ↔ ¬ isMin ns k = true := by
  unfold ringsTo
  rw [List.mem_flatten]
  constructor
  · rintro ⟨r, hr, hkr⟩ hm
    obtain ⟨h, hh, rfl⟩ := List.mem_map.mp hr
    obtain ⟨h1, h2⟩ := List.mem_filter.mp hh
    have h3 := List.mem_range.mp h1
    have := isMin_iff.mp hm h (ringOf_symm g (by omega) hkr)
    omega
  · intro hm
    obtain ⟨m, hm1, hm2⟩ := exists_min (ringOf ns k) (fun e => by have := ringOf_pos g hk; rw [e] at this; simp at this)
    have hmk : m ≤ k := hm2 k (ringOf_mem g hk)
    have hml : m < ns.length := ringOf_lt g hk hm1
    have hmin : isMin ns m = true := isMin_iff.mpr fun x hx => hm2 x ((ringOf_mem_iff g hk hm1).mp hx)
    have hne : m ≠ k := fun e => by subst e; exact hm hmin
    exact ⟨ringOf ns m, List.mem_map.mpr ⟨m, List.mem_filter.mpr ⟨List.mem_range.mpr (by omega), hmin⟩, rfl⟩, ringOf_symm g hk hm1⟩

theorem ringsOf_mem {ns : List Nat} {r : List Nat} (h : r ∈ ringsOf ns) : ∃ k, k < ns.length ∧ isMin ns k = true ∧ r = ringOf ns k := by
  unfold ringsOf ringsTo at h
  obtain ⟨k, hk, rfl⟩ := List.mem_map.mp h
  obtain ⟨h1, h2⟩ := List.mem_filter.mp hk
  exact ⟨k, List.mem_range.mp h1, h2, rfl⟩
theorem ringsTo_len (ns : List Nat) (k : Nat) : (ringsTo ns k).length ≤ k := by
  unfold ringsTo
  rw [List.length_map]
  have := List.length_filter_le (isMin ns) (List.range k)
  rwa [List.length_range] at this
end Sb

namespace Sb

/-! ### boxes laid by a law's own steps -/
theorem good_of_perm {ns : List Nat} {m : Nat} (h : ns.Perm (List.range m)) : Good ns := ⟨by
  have e : ns.length = m := by rw [h.length_eq, List.length_range]
  rw [e]; exact h⟩
theorem insert_perm {ns : List Nat} {i m : Nat} (h : ns.Perm (List.range m)) : (ns.take i ++ [m] ++ ns.drop i).Perm (List.range (m + 1)) := by
  rw [List.range_succ]
  have h1 : (ns.take i ++ [m] ++ ns.drop i).Perm (ns.take i ++ ns.drop i ++ [m]) := by
    rw [List.append_assoc, List.append_assoc]
    exact List.Perm.append_left _ List.perm_append_comm
  rw [List.take_append_drop] at h1
  exact h1.trans (List.Perm.append_right _ h)

/-- slips laid one after the other -/
def layAll (f : List Nat) (ps : List (Nat × Nat)) : List Nat := ps.foldl (fun f p => f.set p.1 p.2) f
theorem layAll_snoc (f : List Nat) (ps : List (Nat × Nat)) (p : Nat × Nat) : layAll f (ps ++ [p]) = (layAll f ps).set p.1 p.2 := by
  unfold layAll; rw [List.foldl_append]; rfl
theorem layAll_len : ∀ (ps : List (Nat × Nat)) (f : List Nat), (layAll f ps).length = f.length
  | [], _ => rfl
  | p :: ps, f => by
    show (layAll (f.set p.1 p.2) ps).length = f.length
    rw [layAll_len ps, List.length_set]
theorem nxt_set_ne {f : List Nat} {i j v : Nat} (h : i ≠ j) : nxt (f.set i v) j = nxt f j := by
  unfold nxt; rw [List.getD_eq_getElem?_getD, List.getD_eq_getElem?_getD, List.getElem?_set_ne h]
theorem nxt_set_eq {f : List Nat} {i v : Nat} (h : i < f.length) : nxt (f.set i v) i = v := by
  unfold nxt; rw [List.getD_eq_getElem?_getD, List.getElem?_set_self h]; rfl
theorem layAll_out : ∀ (ps : List (Nat × Nat)) (f : List Nat) (x : Nat), x ∉ ps.map (·.1) → nxt (layAll f ps) x = nxt f x
  | [], _, _, _ => rfl
  | p :: ps, f, x, h => by
    show nxt (layAll (f.set p.1 p.2) ps) x = nxt f x
    rw [List.map_cons, List.mem_cons, not_or] at h
    rw [layAll_out ps _ x h.2, nxt_set_ne (fun e => h.1 e.symm)]
theorem layAll_in : ∀ (ps : List (Nat × Nat)) (f : List Nat), (ps.map (·.1)).Nodup → (∀ p ∈ ps, p.1 < f.length) → (ps.map (·.1)).map (nxt (layAll f ps)) = ps.map (·.2)
  | [], _, _, _ => rfl
  | p :: ps, f, nd, lt => by
    rw [List.map_cons, List.nodup_cons] at nd
    have e1 : nxt (layAll (f.set p.1 p.2) ps) p.1 = p.2 := by
      rw [layAll_out ps _ _ nd.1, nxt_set_eq (lt p List.mem_cons_self)]
    have e2 := layAll_in ps (f.set p.1 p.2) nd.2 (fun q hq => by rw [List.length_set]; exact lt q (List.mem_cons_of_mem _ hq))
    show nxt (layAll (f.set p.1 p.2) ps) p.1 :: (ps.map (·.1)).map (nxt (layAll (f.set p.1 p.2) ps)) = _
    rw [e1, e2]; rfl

/-- a ring's boxes and their slips -/
def rot (r : List Nat) : List Nat := r.drop 1 ++ r.take 1
theorem rot_perm (r : List Nat) : (rot r).Perm r := by
  unfold rot
  exact List.perm_append_comm.trans (by rw [List.take_append_drop])
theorem rot_len (r : List Nat) : (rot r).length = r.length := (rot_perm r).length_eq
theorem zip_fst {r q : List Nat} (h : r.length = q.length) : (r.zip q).map (·.1) = r := by
  rw [List.map_fst_zip]; omega
theorem zip_snd {r q : List Nat} (h : r.length = q.length) : (r.zip q).map (·.2) = q := by
  rw [List.map_snd_zip]; omega

/-- what holds between the blocks: the boxes of the first b of the order lead to one another -/
structure Laid (order f : List Nat) (b : Nat) : Prop where
  len : f.length = order.length
  perm : ((order.take b).map (nxt f)).Perm (order.take b)
theorem Laid.start (order : List Nat) (f : List Nat) (h : f.length = order.length) : Laid order f 0 := ⟨h, by simp⟩
theorem Laid.step {order f : List Nat} {b s : Nat} (ho : order.Perm (List.range order.length)) (L : Laid order f b) :
    Laid order (layAll f (((order.drop b).take s).zip (rot ((order.drop b).take s)))) (b + s) := by
  have nd : order.Nodup := ho.nodup_iff.mpr List.nodup_range
  have hr : ((order.drop b).take s).length = (rot ((order.drop b).take s)).length := (rot_len _).symm
  have et : order.take (b + s) = order.take b ++ (order.drop b).take s := List.take_add
  have nd2 : (order.take b ++ (order.drop b).take s).Nodup := by
    rw [← et]; exact nd.sublist (List.take_sublist _ _)
  rw [List.nodup_append] at nd2
  refine ⟨by rw [layAll_len]; exact L.len, ?_⟩
  rw [et, List.map_append]
  refine List.Perm.append ?_ ?_
  · have e : (order.take b).map (nxt (layAll f (((order.drop b).take s).zip (rot ((order.drop b).take s))))) = (order.take b).map (nxt f) := by
      apply List.map_congr_left
      intro x hx
      refine layAll_out _ _ _ ?_
      rw [zip_fst hr]
      exact fun z => nd2.2.2 x hx x z rfl
    rw [e]; exact L.perm
  · have e := layAll_in (((order.drop b).take s).zip (rot ((order.drop b).take s))) f (by rw [zip_fst hr]; exact nd2.2.1) (fun p hp => by
      have h1 : p.1 ∈ (order.drop b).take s := by
        rw [← zip_fst hr]; exact List.mem_map.mpr ⟨p, hp, rfl⟩
      have h2 : p.1 ∈ order := List.mem_of_mem_drop (List.mem_of_mem_take h1)
      rw [L.len]
      exact List.mem_range.mp (ho.mem_iff.mp h2))
    rw [zip_fst hr, zip_snd hr] at e
    rw [e]; exact rot_perm _
theorem map_nxt_range (f : List Nat) : (List.range f.length).map (nxt f) = f := by
  apply List.ext_getElem?
  intro i
  rw [List.getElem?_map]
  by_cases h : i < f.length
  · rw [List.getElem?_range h, nxt_get? h]; rfl
  · rw [List.getElem?_eq_none (by rw [List.length_range]; omega), List.getElem?_eq_none (by omega)]; rfl
theorem Laid.done {order f : List Nat} {b : Nat} (ho : order.Perm (List.range order.length)) (L : Laid order f b) (hb : order.length ≤ b) : Good f := by
  have p := L.perm
  rw [List.take_of_length_le hb] at p
  have q : ((List.range f.length).map (nxt f)).Perm (order.map (nxt f)) := by
    rw [L.len]; exact (ho.map _).symm
  rw [map_nxt_range] at q
  refine good_of_perm (m := order.length) ?_
  exact (q.trans p).trans ho

theorem flatten_len {n : Nat} : ∀ (l : List (List Nat)), (∀ r ∈ l, r.length ≤ n) → l.flatten.length ≤ l.length * n
  | [], _ => by simp
  | r :: l, h => by
    have ih := flatten_len l fun q hq => h q (List.mem_cons_of_mem _ hq)
    have h1 := h r List.mem_cons_self
    rw [List.flatten_cons, List.length_append, List.length_cons, Nat.succ_mul]
    omega
theorem ringsTo_flat {ns : List Nat} (g : Good ns) {k : Nat} (hk : k ≤ ns.length) : (ringsTo ns k).flatten.length ≤ k * ns.length := by
  have h := flatten_len (n := ns.length) (ringsTo ns k) fun r hr => by
    unfold ringsTo at hr
    obtain ⟨h, hh, rfl⟩ := List.mem_map.mp hr
    have := List.mem_range.mp (List.mem_filter.mp hh).1
    exact ringOf_len g (by omega)
  exact Nat.le_trans h (Nat.mul_le_mul_right _ (ringsTo_len ns k))
end Sb

namespace Sb

/-! ### hands that open at most m boxes; lists of any numbers that are rings -/
def Short (ns : List Nat) (m : Nat) : Prop := ∀ h, h < ns.length → (ringOf ns h).length ≤ m
def longOf (ns : List Nat) (m : Nat) : List (List Nat) := (ringsOf ns).filter fun r => decide (m < r.length)
theorem min_of {ns : List Nat} (g : Good ns) {h : Nat} (hh : h < ns.length) : ∃ k, k < ns.length ∧ isMin ns k = true ∧ k ∈ ringOf ns h ∧ (ringOf ns k).length = (ringOf ns h).length := by
  obtain ⟨m, hm1, hm2⟩ := exists_min (ringOf ns h) (fun e => by have := ringOf_pos g hh; rw [e] at this; simp at this)
  exact ⟨m, ringOf_lt g hh hm1, isMin_iff.mpr fun x hx => hm2 x ((ringOf_mem_iff g hh hm1).mp hx), hm1, ringOf_len_eq g hh hm1⟩
theorem mem_ringsOf {ns : List Nat} {k : Nat} (hk : k < ns.length) (hm : isMin ns k = true) : ringOf ns k ∈ ringsOf ns :=
  List.mem_map.mpr ⟨k, List.mem_filter.mpr ⟨List.mem_range.mpr hk, hm⟩, rfl⟩
theorem longOf_nil {ns : List Nat} (g : Good ns) {m : Nat} : longOf ns m = [] ↔ Short ns m := by
  unfold longOf
  rw [List.filter_eq_nil_iff]
  constructor
  · intro h i hi
    obtain ⟨k, hk, hmin, _, hl⟩ := min_of g hi
    have := h _ (mem_ringsOf hk hmin)
    simp at this
    omega
  · intro h r hr
    obtain ⟨k, hk, _, rfl⟩ := ringsOf_mem hr
    have := h k hk
    simp
    omega
theorem longOf_mem {ns : List Nat} {m : Nat} {r : List Nat} (h : r ∈ longOf ns m) : ∃ k, k < ns.length ∧ isMin ns k = true ∧ r = ringOf ns k ∧ m < r.length := by
  unfold longOf at h
  obtain ⟨h1, h2⟩ := List.mem_filter.mp h
  obtain ⟨k, hk, hm, e⟩ := ringsOf_mem h1
  exact ⟨k, hk, hm, e, by simpa using h2⟩
theorem longOf_len (ns : List Nat) (m : Nat) : (longOf ns m).length ≤ ns.length := by
  unfold longOf
  exact Nat.le_trans (List.length_filter_le _ _) (ringsTo_len ns ns.length)

/-- a list of numbers of any kind is a ring, from some box on -/
def RingI (ns : List Nat) (r : List Int) : Prop := ∃ (h : Nat) (q : List Nat), r = q.map (fun (n : Nat) => (n : Int)) ∧ IsRing ns h q
theorem ringOf_ringI {ns : List Nat} (g : Good ns) {h : Nat} (hh : h < ns.length) : RingI ns ((ringOf ns h).map fun (n : Nat) => (n : Int)) := ⟨h, _, rfl, ringOf_is g hh⟩
theorem cast_toNat {r : List Int} (h : ∀ x ∈ r, 0 ≤ x) : r = (r.map Int.toNat).map (fun (n : Nat) => (n : Int)) := by
  rw [List.map_map]
  conv => lhs; rw [← List.map_id r]
  apply List.map_congr_left
  intro x hx
  have := h x hx
  show x = ((x.toNat : Nat) : Int)
  omega
theorem castN_inj {a b : List Nat} (h : a.map (fun (n : Nat) => (n : Int)) = b.map (fun (n : Nat) => (n : Int))) : a = b := by
  have := congrArg (List.map Int.toNat) h
  rw [List.map_map, List.map_map] at this
  have e : ∀ l : List Nat, l.map (Int.toNat ∘ fun (n : Nat) => (n : Int)) = l := fun l => by
    conv => rhs; rw [← List.map_id l]
    apply List.map_congr_left
    intro x _
    rfl
  rwa [e, e] at this
theorem castN_nodup {q : List Nat} : (q.map (fun (n : Nat) => (n : Int))).Nodup ↔ q.Nodup := by
  constructor
  · intro h
    exact (List.pairwise_map.mp h).imp fun hab e => hab (by rw [e])
  · intro h
    exact List.Pairwise.map _ (fun a b hab e => hab (by omega)) h
/-- by its consecutive boxes -/
theorem ringI_steps {ns : List Nat} {r : List Int} : RingI ns r ↔ r ≠ [] ∧ r.Nodup ∧ (∀ x ∈ r, 0 ≤ x ∧ x < (ns.length : Int)) ∧ ∀ (i : Nat) (x y : Int), r[i]? = some x → (r.drop 1 ++ r.take 1)[i]? = some y → ((nxt ns x.toNat : Nat) : Int) = y := by
  have rotg : ∀ {α : Type} (l : List α) (i : Nat), i < l.length → (l.drop 1 ++ l.take 1)[i]? = l[(i + 1) % l.length]? := by
    intro α l i hi
    by_cases h : i + 1 < l.length
    · rw [Nat.mod_eq_of_lt h, List.getElem?_append_left (by rw [List.length_drop]; omega), List.getElem?_drop]
      congr 1; omega
    · have e : i + 1 = l.length := by omega
      rw [e, Nat.mod_self, List.getElem?_append_right (by rw [List.length_drop]; omega), List.length_drop]
      rw [show i - (l.length - 1) = 0 by omega, List.getElem?_take, if_pos (by omega)]
  constructor
  · rintro ⟨h, q, rfl, c⟩
    have c' := isRing_iff.mp c
    obtain ⟨h0, nd, lt, st⟩ := c'
    refine ⟨fun e => ?_, castN_nodup.mpr nd, fun x hx => ?_, fun i x y hx hy => ?_⟩
    · have : q = [] := by simpa using e
      rw [this] at h0; simp at h0
    · obtain ⟨n, hn, rfl⟩ := List.mem_map.mp hx
      have := lt n hn
      omega
    · have hi : i < (q.map (fun (n : Nat) => (n : Int))).length := (List.getElem?_eq_some_iff.mp hx).1
      rw [rotg _ _ hi, List.getElem?_map, List.length_map] at hy
      rw [List.getElem?_map] at hx
      obtain ⟨a, ha, rfl⟩ := Option.map_eq_some_iff.mp hx
      obtain ⟨b, hb, rfl⟩ := Option.map_eq_some_iff.mp hy
      have := st i a b ha hb
      rw [Int.toNat_natCast, this]
  · rintro ⟨hne, nd, lt, st⟩
    have e := cast_toNat (fun x hx => (lt x hx).1)
    generalize eq : r.map Int.toNat = q at e
    subst e
    have hq : q ≠ [] := fun z => hne (by rw [z]; rfl)
    obtain ⟨h, l, rfl⟩ := List.exists_cons_of_ne_nil hq
    refine ⟨h, _, rfl, isRing_iff.mpr ⟨rfl, castN_nodup.mp nd, fun x hx => ?_, fun i x y hx hy => ?_⟩⟩
    · have := lt (x : Int) (List.mem_map.mpr ⟨x, hx, rfl⟩)
      omega
    · have hi : i < (h :: l).length := (List.getElem?_eq_some_iff.mp hx).1
      have h1 : ((h :: l).map (fun (n : Nat) => (n : Int)))[i]? = some (x : Int) := by rw [List.getElem?_map, hx]; rfl
      have h2 : (((h :: l).map (fun (n : Nat) => (n : Int))).drop 1 ++ ((h :: l).map (fun (n : Nat) => (n : Int))).take 1)[i]? = some (y : Int) := by
        rw [rotg _ _ (by rw [List.length_map]; exact hi), List.getElem?_map, List.length_map, hy]; rfl
      have := st i _ _ h1 h2
      rw [Int.toNat_natCast] at this
      omega
/-- by the ring of its first box -/
theorem ringI_first {ns : List Nat} (g : Good ns) {r : List Int} {x : Int} (hr : r[0]? = some x) (lt : ∀ x ∈ r, 0 ≤ x ∧ x < (ns.length : Int)) :
    RingI ns r ↔ r = (ringOf ns x.toNat).map (fun (n : Nat) => (n : Int)) := by
  have hx := lt x (List.mem_of_getElem? hr)
  constructor
  · rintro ⟨h, q, rfl, c⟩
    have h0 := c.head
    rw [List.getElem?_map, h0] at hr
    cases hr
    rw [Int.toNat_natCast, ← c.eq g]
  · intro e
    rw [e]
    exact ringOf_ringI g (by omega)
theorem ring_back {ns : List Nat} (g : Good ns) {h x : Nat} (hh : h < ns.length) (hx : (ringOf ns h)[(ringOf ns h).length - 1]? = some x) : nxt ns x = h := (ringOf_is g hh).back x hx
/-- a ring with one more box is none -/
theorem ring_more {ns : List Nat} {h x : Nat} {q : List Nat} (c : IsRing ns h q) : ¬ RingI ns (q.map (fun (n : Nat) => (n : Int)) ++ [(x : Int)]) := by
  rintro ⟨h', q', e, c'⟩
  have e2 : q' = q ++ [x] := castN_inj (by rw [← e, List.map_append]; rfl)
  subst e2
  have hh : h' = h := by
    have h1 := c'.head
    have h2 := c.head
    rw [List.getElem?_append_left c.toChain.pos, h2] at h1
    cases h1; rfl
  subst hh
  exact c.not_lt c'.toChain (by rw [List.length_append]; show _ < _ + 1; omega)
end Sb

namespace Sb

/-! ### the slips of two boxes exchanged -/
def exch (ns : List Nat) (i j : Nat) : List Nat := (ns.set i (nxt ns j)).set j (nxt ns i)
theorem exch_len (ns : List Nat) (i j : Nat) : (exch ns i j).length = ns.length := by
  unfold exch; rw [List.length_set, List.length_set]
theorem exch_perm {ns : List Nat} {i j : Nat} (hi : i < ns.length) (hj : j < ns.length) : (exch ns i j).Perm ns := by
  unfold exch
  rw [nxt_get hi, nxt_get hj]
  exact List.set_set_perm hi hj
theorem exch_good {ns : List Nat} (g : Good ns) {i j : Nat} (hi : i < ns.length) (hj : j < ns.length) : Good (exch ns i j) := ⟨by
  rw [exch_len]
  exact (exch_perm hi hj).trans g.perm⟩
theorem exch_nxt {ns : List Nat} {i j x : Nat} (h1 : x ≠ i) (h2 : x ≠ j) : nxt (exch ns i j) x = nxt ns x := by
  unfold exch
  rw [nxt_set_ne (fun e => h2 e.symm), nxt_set_ne (fun e => h1 e.symm)]
theorem exch_nxt_j {ns : List Nat} {i j : Nat} (hj : j < ns.length) : nxt (exch ns i j) j = nxt ns i := by
  unfold exch
  rw [nxt_set_eq (by rw [List.length_set]; exact hj)]
theorem exch_nxt_i {ns : List Nat} {i j : Nat} (hi : i < ns.length) : nxt (exch ns i j) i = nxt ns j := by
  by_cases e : i = j
  · subst e; exact exch_nxt_j hi
  · unfold exch
    rw [nxt_set_ne (fun z => e z.symm), nxt_set_eq hi]
theorem exch_self {ns : List Nat} {i : Nat} (hi : i < ns.length) : exch ns i i = ns := by
  unfold exch
  rw [List.set_set, nxt_get hi, List.set_getElem_self]
theorem exch_comm (ns : List Nat) (i j : Nat) : exch ns i j = exch ns j i := by
  by_cases e : i = j
  · rw [e]
  · unfold exch
    exact List.set_comm _ _ e

theorem mem_dropLast_of {r : List Nat} {k x y : Nat} (hx : r[k]? = some x) (hy : r[k + 1]? = some y) : x ∈ r.dropLast := by
  have hl : k + 1 < r.length := (List.getElem?_eq_some_iff.mp hy).1
  have hk : k < r.length := by omega
  have ex : r[k] = x := by
    rw [List.getElem?_eq_getElem hk] at hx
    exact Option.some.inj hx
  have hd : k < r.dropLast.length := by rw [List.length_dropLast]; omega
  have : r.dropLast[k] = x := by rw [List.getElem_dropLast, ex]
  rw [← this]
  exact List.getElem_mem hd
theorem Chain.exch {ns : List Nat} {h : Nat} {q : List Nat} {i j : Nat} (c : Chain ns h q) (hi : i ∉ q.dropLast) (hj : j ∉ q.dropLast) : Chain (exch ns i j) h q where
  head := c.head
  step := fun k x y hx hy => by
    have hm := mem_dropLast_of hx hy
    rw [exch_nxt (x := x) (fun e => hi (by rw [← e]; exact hm)) (fun e => hj (by rw [← e]; exact hm))]
    exact c.step k x y hx hy
  nd := c.nd
  lt := fun x hx => by rw [exch_len]; exact c.lt x hx
theorem Chain.left {ns : List Nat} {h : Nat} {a b : List Nat} (c : Chain ns h (a ++ b)) (ha : a ≠ []) : Chain ns h a where
  head := by
    have := c.head
    rwa [List.getElem?_append_left (List.length_pos_iff.mpr ha)] at this
  step := fun k x y hx hy => by
    have h2 := (List.getElem?_eq_some_iff.mp hy).1
    refine c.step k x y ?_ ?_
    · rw [List.getElem?_append_left (by omega)]; exact hx
    · rw [List.getElem?_append_left h2]; exact hy
  nd := (List.nodup_append.mp c.nd).1
  lt := fun x hx => c.lt x (List.mem_append_left _ hx)
theorem Chain.right {ns : List Nat} {h y : Nat} {a b : List Nat} (c : Chain ns h (a ++ y :: b)) : Chain ns y (y :: b) where
  head := rfl
  step := fun k x z hx hz => by
    refine c.step (a.length + k) x z ?_ ?_
    · rw [List.getElem?_append_right (by omega), Nat.add_sub_cancel_left]; exact hx
    · rw [List.getElem?_append_right (by omega), show a.length + k + 1 - a.length = k + 1 by omega]; exact hz
  nd := (List.nodup_append.mp c.nd).2.1
  lt := fun x hx => c.lt x (List.mem_append_right _ hx)
theorem Chain.notShort {ns : List Nat} (g : Good ns) {h m : Nat} {q : List Nat} (c : Chain ns h q) (hm : m < q.length) : ¬ Short ns m := fun s => by
  have h1 := s h c.hlt
  have h2 := (ringOf_is g c.hlt).not_lt c
  omega
theorem nxt_mem {ns : List Nat} (g : Good ns) {i : Nat} (hi : i < ns.length) : nxt ns i ∈ ringOf ns i := by
  obtain ⟨h0, _, _, st⟩ := isRing_iff.mp (ringOf_is g hi)
  have hp := ringOf_pos g hi
  have hl : (0 + 1) % (ringOf ns i).length < (ringOf ns i).length := Nat.mod_lt _ hp
  rw [st 0 i _ h0 (List.getElem?_eq_getElem hl)]
  exact List.getElem_mem hl
/-- the ring of the box behind i ends with i -/
theorem ring_ends {ns : List Nat} (g : Good ns) {i : Nat} (hi : i < ns.length) : ∃ d, ringOf ns (nxt ns i) = d ++ [i] := by
  have hn := g.nxt_lt hi
  have R := ringOf_is g hn
  obtain ⟨x, hx, hm, hl⟩ := R.toChain.last
  have e : x = i := g.inj hl hi (R.back x hx)
  subst e
  have hne : ringOf ns (nxt ns x) ≠ [] := fun z => by rw [z] at hm; cases hm
  have hlt : (ringOf ns (nxt ns x)).length - 1 < (ringOf ns (nxt ns x)).length := by
    have := List.length_pos_iff.mpr hne
    omega
  refine ⟨(ringOf ns (nxt ns x)).dropLast, ?_⟩
  have := List.dropLast_concat_getLast hne
  rw [List.getLast_eq_getElem] at this
  rw [List.getElem?_eq_getElem hlt] at hx
  rw [Option.some.inj hx] at this
  exact this.symm
/-- a ring that is too long stays so, where not both boxes are its own -/
theorem bars_one {ns : List Nat} (g : Good ns) {i j h m : Nat} (hi : i < ns.length) (hj : j < ns.length) (hh : h < ns.length) (hm : m < (ringOf ns h).length) (ho : ¬ (i ∈ ringOf ns h ∧ j ∈ ringOf ns h) ∨ i = j) : ¬ Short (exch ns i j) m := by
  by_cases e : i = j
  · subst e
    rw [exch_self hi]
    intro s
    have := s h hh
    omega
  have hnb : ¬ (i ∈ ringOf ns h ∧ j ∈ ringOf ns h) := ho.resolve_right e
  have one : ∀ i j : Nat, i < ns.length → j < ns.length → i ∈ ringOf ns h → j ∉ ringOf ns h → ¬ Short (exch ns i j) m := fun i j hi hj hir hjr => by
    obtain ⟨d, ed⟩ := ring_ends g hi
    have hn := g.nxt_lt hi
    have hmem : nxt ns i ∈ ringOf ns h := (ringOf_mem_iff g hh hir).mp (nxt_mem g hi)
    have c := (ringOf_is g hn).toChain
    have nd := c.nd
    rw [ed] at nd
    have hlen := ringOf_len_eq g hh hmem
    refine (c.exch (i := i) (j := j) ?_ ?_).notShort (exch_good g hi hj) (by omega)
    · rw [ed, List.dropLast_concat]
      intro z
      exact (List.nodup_append.mp nd).2.2 i z i (by simp) rfl
    · rw [ed, List.dropLast_concat]
      intro z
      apply hjr
      rw [← ringOf_mem_iff g hh hmem, ed]
      exact List.mem_append_left _ z
  by_cases hir : i ∈ ringOf ns h
  · exact one i j hi hj hir fun z => hnb ⟨hir, z⟩
  · by_cases hjr : j ∈ ringOf ns h
    · rw [exch_comm]
      exact one j i hj hi hjr hir
    · refine ((ringOf_is g hh).toChain.exch (i := i) (j := j) (fun z => hir (List.dropLast_subset _ z)) (fun z => hjr (List.dropLast_subset _ z))).notShort (exch_good g hi hj) hm
/-- a ring more than twice too long bars every exchange -/
theorem bars_two {ns : List Nat} (g : Good ns) {i j h m : Nat} (hi : i < ns.length) (hj : j < ns.length) (hh : h < ns.length) (hm : 2 * m < (ringOf ns h).length) : ¬ Short (exch ns i j) m := by
  by_cases ho : ¬ (i ∈ ringOf ns h ∧ j ∈ ringOf ns h) ∨ i = j
  · exact bars_one g hi hj hh (by omega) ho
  have hb : i ∈ ringOf ns h ∧ j ∈ ringOf ns h := by
    by_cases z : i ∈ ringOf ns h ∧ j ∈ ringOf ns h
    · exact z
    · exact absurd (.inl z) ho
  have hne : i ≠ j := fun z => ho (.inr z)
  obtain ⟨hir, hjr⟩ := hb
  obtain ⟨d, ed⟩ := ring_ends g hi
  have hn := g.nxt_lt hi
  have hmem : nxt ns i ∈ ringOf ns h := (ringOf_mem_iff g hh hir).mp (nxt_mem g hi)
  have c := (ringOf_is g hn).toChain
  have hlen := ringOf_len_eq g hh hmem
  have hjd : j ∈ d := by
    have : j ∈ ringOf ns (nxt ns i) := (ringOf_mem_iff g hh hmem).mpr hjr
    rw [ed] at this
    rcases List.mem_append.mp this with z | z
    · exact z
    · simp at z; exact absurd z.symm hne
  obtain ⟨q1, q2, eq⟩ := List.append_of_mem hjd
  have er : ringOf ns (nxt ns i) = (q1 ++ [j]) ++ (q2 ++ [i]) := by rw [ed, eq]; simp
  rw [er] at c hlen
  have nd := c.nd
  have g' := exch_good g hi hj
  have hl : (q1 ++ [j]).length + (q2 ++ [i]).length = (ringOf ns h).length := by rw [← List.length_append]; exact hlen
  obtain ⟨nd1, nd2, nd3⟩ := List.nodup_append.mp nd
  by_cases h1 : m < (q1 ++ [j]).length
  · refine ((c.left (by simp)).exch (i := i) (j := j) ?_ ?_).notShort g' h1
    · rw [List.dropLast_concat]
      intro z
      exact nd3 i (List.mem_append_left _ z) i (by simp) rfl
    · rw [List.dropLast_concat]
      intro z
      exact (List.nodup_append.mp nd1).2.2 j z j (by simp) rfl
  · have h2 : m < (q2 ++ [i]).length := by omega
    obtain ⟨y, t, ey⟩ := List.exists_cons_of_ne_nil (show q2 ++ [i] ≠ [] by simp)
    rw [ey] at c
    have c2 := c.right
    rw [← ey] at c2
    refine (c2.exch (i := i) (j := j) ?_ ?_).notShort g' h2
    · rw [List.dropLast_concat]
      intro z
      exact (List.nodup_append.mp nd2).2.2 i z i (by simp) rfl
    · rw [List.dropLast_concat]
      intro z
      exact nd3 j (by simp) j (List.mem_append_left _ z) rfl

/-! ### the rings that are too long, by their least boxes -/
theorem longOf_eq (ns : List Nat) (m : Nat) : longOf ns m = ((List.range ns.length).filter fun k => isMin ns k && decide (m < (ringOf ns k).length)).map (ringOf ns) := by
  unfold longOf ringsOf ringsTo
  rw [List.filter_map, List.filter_filter]
  congr 1
  apply List.filter_congr
  intro k _
  show (decide (m < (ringOf ns k).length) && isMin ns k) = _
  rw [Bool.and_comm]
theorem min_disj {ns : List Nat} (g : Good ns) {a b : Nat} (ha : a < ns.length) (hb : b < ns.length) (h1 : isMin ns a = true) (h2 : isMin ns b = true) (hab : a ≠ b) {x : Nat} (hx : x ∈ ringOf ns a) : x ∉ ringOf ns b := fun z => by
  have e1 : b ∈ ringOf ns a := (ringOf_mem_iff g ha hx).mp (ringOf_symm g hb z)
  have e2 : a ∈ ringOf ns b := (ringOf_mem_iff g hb z).mp (ringOf_symm g ha hx)
  have := isMin_iff.mp h1 b e1
  have := isMin_iff.mp h2 a e2
  omega
theorem longOf_disj {ns : List Nat} (g : Good ns) (m : Nat) : (longOf ns m).Pairwise fun r q => ∀ x ∈ r, x ∉ q := by
  rw [longOf_eq, List.pairwise_map]
  have h0 : ((List.range ns.length).filter fun k => isMin ns k && decide (m < (ringOf ns k).length)).Pairwise (· < ·) := List.Pairwise.filter _ (List.pairwise_lt_range)
  refine List.Pairwise.imp_of_mem ?_ h0
  intro a b ha hb hab x hx
  obtain ⟨ha1, ha2⟩ := List.mem_filter.mp ha
  obtain ⟨hb1, hb2⟩ := List.mem_filter.mp hb
  rw [Bool.and_eq_true] at ha2 hb2
  exact min_disj g (List.mem_range.mp ha1) (List.mem_range.mp hb1) ha2.1 hb2.1 (by omega) hx
theorem bars_rings {ns : List Nat} (g : Good ns) {m : Nat} (h : 1 < (longOf ns m).length) {i j : Nat} (hi : i < ns.length) (hj : j < ns.length) : ¬ Short (exch ns i j) m := by
  have h0 : 0 < (longOf ns m).length := by omega
  obtain ⟨k0, hk0, _, e0, hl0⟩ := longOf_mem (List.getElem_mem h0)
  obtain ⟨k1, hk1, _, e1, hl1⟩ := longOf_mem (List.getElem_mem h)
  have dj := List.pairwise_iff_getElem.mp (longOf_disj g m) 0 1 h0 h (by omega)
  rw [e0, e1] at dj
  rw [e0] at hl0
  rw [e1] at hl1
  by_cases hb : i ∈ ringOf ns k0 ∧ j ∈ ringOf ns k0
  · exact bars_one g hi hj hk1 hl1 (.inl fun z => dj i hb.1 z.1)
  · exact bars_one g hi hj hk0 hl0 (.inl hb)

/-! ### one ring that is too long, not more than twice: cut -/
theorem mend_ok {ns : List Nat} (g : Good ns) {m : Nat} (hm : 1 ≤ m) {r : List Nat} (er : longOf ns m = [r]) (hr : r.length ≤ 2 * m) {i j : Nat} (hi : r[m - 1]? = some i) (hj : r[r.length - 1]? = some j) :
    i < ns.length ∧ j < ns.length ∧ Short (exch ns i j) m := by
  obtain ⟨k, hk, hmin, e, hl⟩ := longOf_mem (r := r) (m := m) (by rw [er]; simp)
  have R := ringOf_is g hk
  rw [← e] at R
  have hil := R.lt i (List.mem_of_getElem? hi)
  have hjl := R.lt j (List.mem_of_getElem? hj)
  refine ⟨hil, hjl, ?_⟩
  have g' := exch_good g hil hjl
  -- the two parts
  have ea : r.take m = r.take (m - 1) ++ [i] := by
    have := List.take_add_one (l := r) (i := m - 1)
    rw [show m - 1 + 1 = m by omega, hi] at this
    exact this
  have hne : r ≠ [] := fun z => by rw [z] at hl; simp at hl
  have eb : r.drop m = (r.drop m).dropLast ++ [j] := by
    have hd : r.drop m ≠ [] := fun z => by
      have := congrArg List.length z
      rw [List.length_drop] at this
      simp at this
      omega
    have := List.dropLast_concat_getLast hd
    rw [List.getLast_drop, List.getLast_eq_getElem] at this
    have hlt : r.length - 1 < r.length := by omega
    rw [List.getElem?_eq_getElem hlt] at hj
    rw [Option.some.inj hj] at this
    exact this.symm
  have eab : r.take m ++ r.drop m = r := List.take_append_drop m r
  have la : (r.take m).length = m := by rw [List.length_take]; omega
  have lb : (r.drop m).length = r.length - m := List.length_drop
  have c := R.toChain
  rw [← eab] at c
  have nd := c.nd
  obtain ⟨nd1, nd2, nd3⟩ := List.nodup_append.mp nd
  have hia : i ∈ r.take m := by rw [ea]; simp
  have hjb : j ∈ r.drop m := by rw [eb]; simp
  have ca : IsRing (exch ns i j) k (r.take m) := by
    refine ⟨(c.left (fun z => by rw [z] at la; simp at la; omega)).exch ?_ ?_, fun x hx => ?_⟩
    · intro z
      rw [ea, List.dropLast_concat] at z
      rw [ea] at nd1
      exact (List.nodup_append.mp nd1).2.2 i z i (by simp) rfl
    · intro z
      exact nd3 j (List.dropLast_subset _ z) j hjb rfl
    · rw [la, List.getElem?_take, if_pos (by omega), hi] at hx
      cases hx
      rw [exch_nxt_i hil]
      exact R.back j hj
  obtain ⟨y, t, ey⟩ := List.exists_cons_of_ne_nil (show r.drop m ≠ [] from fun z => by rw [z] at hjb; cases hjb)
  have cb : IsRing (exch ns i j) y (r.drop m) := by
    have c2 := c
    rw [ey] at c2
    have c3 := c2.right
    rw [← ey] at c3
    refine ⟨c3.exch ?_ ?_, fun x hx => ?_⟩
    · intro z
      exact nd3 i hia i (List.dropLast_subset _ z) rfl
    · intro z
      rw [eb, List.dropLast_concat] at z
      rw [eb] at nd2
      exact (List.nodup_append.mp nd2).2.2 j z j (by simp) rfl
    · have hx2 : x = j := by
        rw [List.getElem?_drop, lb, show m + (r.length - m - 1) = r.length - 1 by omega, hj] at hx
        cases hx; rfl
      rw [hx2, exch_nxt_j hjl]
      refine R.step (m - 1) i y hi ?_
      rw [show m - 1 + 1 = m by omega]
      have : (r.drop m)[0]? = some y := by rw [ey]; rfl
      rw [List.getElem?_drop, Nat.add_zero] at this
      exact this
  have eqa := ca.eq g'
  have eqb := cb.eq g'
  have hk' : k < (exch ns i j).length := ca.toChain.hlt
  have hy' : y < (exch ns i j).length := cb.toChain.hlt
  intro h hh
  by_cases ha : h ∈ r.take m
  · rw [ringOf_len_eq g' hk' (by rw [← eqa]; exact ha), ← eqa]
    omega
  · by_cases hb : h ∈ r.drop m
    · rw [ringOf_len_eq g' hy' (by rw [← eqb]; exact hb), ← eqb]
      omega
    · have hr0 : h ∉ r := fun z => by
        rw [← eab] at z
        rcases List.mem_append.mp z with z | z
        · exact ha z
        · exact hb z
      rw [exch_len] at hh
      have out : ∀ x, x ∈ r → x ∉ ringOf ns h := fun x hx z => by
        apply hr0
        rw [e] at hx ⊢
        exact (ringOf_mem_iff g hk hx).mp (ringOf_symm g hh z)
      have hio := out i (List.mem_of_getElem? hi)
      have hjo := out j (List.mem_of_getElem? hj)
      have H := ringOf_is g hh
      have H' : IsRing (exch ns i j) h (ringOf ns h) := by
        refine ⟨H.toChain.exch (fun z => hio (List.dropLast_subset _ z)) (fun z => hjo (List.dropLast_subset _ z)), fun x hx => ?_⟩
        have hxm := List.mem_of_getElem? hx
        rw [exch_nxt (x := x) (fun z => hio (by rw [← z]; exact hxm)) (fun z => hjo (by rw [← z]; exact hxm))]
        exact H.back x hx
      rw [← H'.eq g']
      by_cases hlong : (ringOf ns h).length ≤ m
      · exact hlong
      · exfalso
        obtain ⟨k2, hk2, hmin2, hm2, hl2⟩ := min_of g hh
        have hin : ringOf ns k2 ∈ longOf ns m := by
          unfold longOf
          exact List.mem_filter.mpr ⟨mem_ringsOf hk2 hmin2, by simp; omega⟩
        rw [er, List.mem_singleton] at hin
        apply hr0
        rw [← hin]
        exact ringOf_symm g hh hm2

/-- some exchange mends it -/
def Can (ns : List Nat) (m : Nat) : Prop := ∃ i j, i ≤ j ∧ j < ns.length ∧ Short (exch ns i j) m
theorem Can.of {ns : List Nat} {m i j : Nat} (hi : i < ns.length) (hj : j < ns.length) (s : Short (exch ns i j) m) : Can ns m := by
  by_cases h : i ≤ j
  · exact ⟨i, j, h, hj, s⟩
  · exact ⟨j, i, by omega, hi, by rw [exch_comm]; exact s⟩
/-- how it is mended, or barred -/
theorem can_iff {ns : List Nat} (g : Good ns) (h1 : 1 ≤ ns.length) {m : Nat} (hm : 1 ≤ m) : Can ns m ↔ longOf ns m = [] ∨ ∃ r, longOf ns m = [r] ∧ r.length ≤ 2 * m := by
  constructor
  · rintro ⟨i, j, hij, hj, s⟩
    cases e : longOf ns m with
    | nil => exact .inl rfl
    | cons r l =>
      right
      cases l with
      | nil =>
        refine ⟨r, rfl, ?_⟩
        by_cases h : r.length ≤ 2 * m
        · exact h
        · obtain ⟨k, hk, _, er, _⟩ := longOf_mem (r := r) (m := m) (ns := ns) (by rw [e]; simp)
          rw [er] at h
          exact absurd s (bars_two g (by omega) hj hk (by omega))
      | cons q l =>
        exact absurd s (bars_rings g (by rw [e]; simp) (by omega) hj)
  · rintro (e | ⟨r, e, hr⟩)
    · refine Can.of (i := 0) (j := 0) (by omega) (by omega) ?_
      rw [exch_self (by omega)]
      exact (longOf_nil g).mp e
    · obtain ⟨k, hk, _, er, hl⟩ := longOf_mem (r := r) (m := m) (ns := ns) (by rw [e]; simp)
      obtain ⟨a, b, s⟩ := mend_ok g hm e hr (List.getElem?_eq_getElem (show m - 1 < r.length by omega)) (List.getElem?_eq_getElem (show r.length - 1 < r.length by omega))
      exact Can.of a b s
end Sb

namespace Sb

/-! ### rings that bar a mending, or not -/
abbrev castN (q : List Nat) : List Int := q.map fun (n : Nat) => (n : Int)
theorem ringI_of {ns : List Nat} (g : Good ns) {r : List Int} (h : RingI ns r) : ∃ k, k < ns.length ∧ r = castN (ringOf ns k) ∧ r[0]? = some (k : Int) := by
  obtain ⟨k, q, rfl, c⟩ := h
  have e := c.eq g
  refine ⟨k, c.toChain.hlt, by rw [e], ?_⟩
  rw [List.getElem?_map, c.head]
  rfl
theorem castN_mem {q : List Nat} {x : Nat} : (x : Int) ∈ castN q ↔ x ∈ q := by
  constructor
  · intro h
    obtain ⟨y, hy, e⟩ := List.mem_map.mp h
    have : y = x := by omega
    subst this
    exact hy
  · intro h
    exact List.mem_map.mpr ⟨x, h, rfl⟩
theorem ringI_apart {ns : List Nat} (g : Good ns) {a b : List Int} (ha : RingI ns a) (hb : RingI ns b) {x : Int} (hx : a[0]? = some x) : x ∉ b ↔ ∀ y ∈ a, y ∉ b := by
  constructor
  · intro h y hya hyb
    obtain ⟨i, hi, ea, h0⟩ := ringI_of g ha
    obtain ⟨j, hj, eb, _⟩ := ringI_of g hb
    rw [h0] at hx
    cases hx
    rw [ea] at hya
    rw [eb] at hyb h
    obtain ⟨u, hu, rfl⟩ := List.mem_map.mp hya
    apply h
    rw [castN_mem] at hyb ⊢
    exact (ringOf_mem_iff g hj hyb).mp (ringOf_symm g hi hu)
  · intro h
    exact h x (List.mem_of_getElem? hx)
theorem ringI_pos {ns : List Nat} {r : List Int} (h : RingI ns r) : 0 < r.length := List.length_pos_iff.mpr (ringI_steps.mp h).1
/-- what is told of a Barred -/
def BarD (ns : List Nat) (m : Nat) (rs : List (List Int)) : Prop := (∀ r ∈ rs, RingI ns r) ∧ ((∃ a, rs = [a] ∧ 2 * m < a.length) ∨ ∃ a b, rs = [a, b] ∧ (∀ x ∈ a, x ∉ b) ∧ m < a.length ∧ m < b.length)
/-- what is told of a Mend -/
def MendD (ns : List Nat) (m : Nat) (i j : Int) : Prop := (0 ≤ i ∧ i < (ns.length : Int)) ∧ (0 ≤ j ∧ j < (ns.length : Int)) ∧ Short (exch ns i.toNat j.toNat) m
theorem longOf_ring {ns : List Nat} (g : Good ns) {m : Nat} {r : List Nat} (h : r ∈ longOf ns m) : RingI ns (castN r) ∧ m < r.length ∧ r.length ≤ ns.length := by
  obtain ⟨k, hk, _, e, hl⟩ := longOf_mem h
  refine ⟨?_, hl, ?_⟩
  · rw [e]; exact ringOf_ringI g hk
  · rw [e]; exact ringOf_len g hk
theorem bar_two {ns : List Nat} (g : Good ns) {m : Nat} {a b : List Nat} {l : List (List Nat)} (h : longOf ns m = a :: b :: l) : BarD ns m [castN a, castN b] := by
  have ra := longOf_ring g (m := m) (r := a) (by rw [h]; simp)
  have rb := longOf_ring g (m := m) (r := b) (by rw [h]; simp)
  have dj := longOf_disj g m
  rw [h] at dj
  have d := (List.pairwise_cons.mp dj).1 b (by simp)
  refine ⟨fun r hr => ?_, .inr ⟨_, _, rfl, fun x hx hy => ?_, by rw [List.length_map]; exact ra.2.1, by rw [List.length_map]; exact rb.2.1⟩⟩
  · simp only [List.mem_cons, List.not_mem_nil, or_false] at hr
    rcases hr with rfl | rfl
    · exact ra.1
    · exact rb.1
  · obtain ⟨u, hu, rfl⟩ := List.mem_map.mp hx
    exact d u hu (castN_mem.mp hy)
theorem bar_one {ns : List Nat} (g : Good ns) {m : Nat} {a : List Nat} (h : longOf ns m = [a]) (hl : 2 * m < a.length) : BarD ns m [castN a] := by
  have ra := longOf_ring g (m := m) (r := a) (by rw [h]; simp)
  refine ⟨fun r hr => ?_, .inl ⟨_, rfl, by rw [List.length_map]; exact hl⟩⟩
  simp only [List.mem_cons, List.not_mem_nil, or_false] at hr
  subst hr
  exact ra.1
/-- an answer of mending -/
inductive MA where
  | mend (i j : Int)
  | barred (rs : List (List Int))
def MA.isMend : MA → Bool
  | .mend .. => true
  | .barred .. => false
def MDue (ns : List Nat) (m : Nat) : MA → Prop
  | .mend i j => MendD ns m i j
  | .barred rs => BarD ns m rs
theorem min_head {r : List Nat} {h : Nat} {mn : Nat} (hm : mn ∈ r) (hle : ∀ x ∈ r, mn ≤ x) (hh : h ∈ r) : mn = h ↔ ∀ x ∈ r, h ≤ x := by
  constructor
  · rintro rfl; exact hle
  · intro z
    have := z mn hm
    have := hle h hh
    omega
end Sb

namespace Sb

/-! ### in how many ways chains of told lengths close into rings of at most m boxes -/
/-- each item, and what is left without it -/
def picks : List Nat → List (Nat × List Nat)
  | [] => []
  | y :: l => (y, l) :: (picks l).map fun p => (p.1, y :: p.2)
theorem picks_len : ∀ {l : List Nat} {p : Nat × List Nat}, p ∈ picks l → p.2.length + 1 = l.length
  | [], p, h => by cases h
  | y :: l, p, h => by
    rcases List.mem_cons.mp h with rfl | h
    · rfl
    · obtain ⟨q, hq, rfl⟩ := List.mem_map.mp h
      have := picks_len hq
      simp only [List.length_cons]
      omega
/-- by the chain that the first one's end leads to: itself, or another one -/
def closesF (m : Nat) : Nat → List Nat → Nat
  | _, [] => 1
  | 0, _ :: _ => 0
  | f + 1, x :: l => (if x ≤ m then closesF m f l else 0) + ((picks l).map fun p => closesF m f ((x + p.1) :: p.2)).sum
def cl (m : Nat) (l : List Nat) : Nat := closesF m l.length l
theorem map_sum_congr {α : Type} {l : List α} {f g : α → Nat} (h : ∀ a ∈ l, f a = g a) : (l.map f).sum = (l.map g).sum := by
  rw [List.map_congr_left h]
theorem map_sum_add {α : Type} (f g : α → Nat) : ∀ l : List α, (l.map fun a => f a + g a).sum = (l.map f).sum + (l.map g).sum
  | [] => rfl
  | a :: l => by
    simp only [List.map_cons, List.sum_cons, map_sum_add f g l]
    omega
theorem map_sum_if {α : Type} (p : Prop) [Decidable p] (f : α → Nat) (l : List α) : (l.map fun a => if p then f a else 0).sum = if p then (l.map f).sum else 0 := by
  by_cases h : p
  · rw [if_pos h]
    exact map_sum_congr fun a _ => if_pos h
  · rw [if_neg h, map_sum_congr (g := fun _ => 0) fun a _ => if_neg h]
    induction l with
    | nil => rfl
    | cons a l ih => simpa using ih
theorem cl_nil (m : Nat) : cl m [] = 1 := rfl
theorem cl_cons (m x : Nat) (l : List Nat) : cl m (x :: l) = (if x ≤ m then cl m l else 0) + ((picks l).map fun p => cl m ((x + p.1) :: p.2)).sum := by
  show closesF m (l.length + 1) (x :: l) = _
  unfold closesF
  congr 1
  apply map_sum_congr
  intro p hp
  have := picks_len hp
  unfold cl
  rw [List.length_cons, this]
/-- two picked, one behind the other: in any turn -/
theorem picks_two (g : Nat → Nat → List Nat → Nat) : ∀ l : List Nat, ((picks l).map fun p => ((picks p.2).map fun q => g p.1 q.1 q.2).sum).sum = ((picks l).map fun p => ((picks p.2).map fun q => g q.1 p.1 q.2).sum).sum := by
  intro l
  induction l generalizing g with
  | nil => rfl
  | cons a l ih =>
    have key : ∀ g : Nat → Nat → List Nat → Nat, ((picks (a :: l)).map fun p => ((picks p.2).map fun q => g p.1 q.1 q.2).sum).sum = ((picks l).map fun q => g a q.1 q.2).sum + (((picks l).map fun p => g p.1 a p.2).sum + ((picks l).map fun p => ((picks p.2).map fun q => g p.1 q.1 (a :: q.2)).sum).sum) := fun g => by
      simp only [picks, List.map_cons, List.sum_cons, List.map_map, Function.comp_def]
      rw [map_sum_add]
    rw [key g, key fun x y r => g y x r, ih fun x y r => g x y (a :: r)]
    omega
theorem picks_perm {l l' : List Nat} (h : l.Perm l') (f : Nat × List Nat → Nat) (hf : ∀ y r r', r.length + 1 = l.length → r.Perm r' → f (y, r) = f (y, r')) : ((picks l).map f).sum = ((picks l').map f).sum := by
  induction h generalizing f with
  | nil => rfl
  | cons x h ih =>
    simp only [picks, List.map_cons, List.sum_cons, List.map_map, Function.comp_def]
    rw [hf x _ _ (by simp) h]
    congr 1
    exact ih (fun p => f (p.1, x :: p.2)) fun y r r' hl hr => hf y _ _ (by simp only [List.length_cons]; omega) (hr.cons x)
  | swap x y l =>
    simp only [picks, List.map_cons, List.sum_cons, List.map_map, Function.comp_def]
    have e : ((picks l).map fun p => f (p.1, y :: x :: p.2)).sum = ((picks l).map fun p => f (p.1, x :: y :: p.2)).sum := map_sum_congr fun p hp => hf _ _ _ (by have := picks_len hp; simp only [List.length_cons]; omega) (.swap ..)
    rw [e]
    omega
  | trans h1 h2 ih1 ih2 =>
    rw [ih1 f hf]
    exact ih2 f fun y r r' hl hr => hf y r r' (by rw [h1.length_eq]; exact hl) hr
theorem cl_swap_of {m n : Nat} (ih : ∀ l l' : List Nat, l.length < n → l.Perm l' → cl m l = cl m l') (x y : Nat) (l : List Nat) (hl : l.length + 2 = n) : cl m (x :: y :: l) = cl m (y :: x :: l) := by
  have key : ∀ x y : Nat, cl m (x :: y :: l) = (if x ≤ m then if y ≤ m then cl m l else 0 else 0) + (if x ≤ m then ((picks l).map fun p => cl m ((y + p.1) :: p.2)).sum else 0) + cl m ((x + y) :: l)
      + (if y ≤ m then ((picks l).map fun p => cl m ((x + p.1) :: p.2)).sum else 0) + ((picks l).map fun p => cl m ((x + y + p.1) :: p.2)).sum + ((picks l).map fun p => ((picks p.2).map fun q => cl m ((x + p.1) :: (y + q.1) :: q.2)).sum).sum := fun x y => by
    rw [cl_cons]
    have e1 : (if x ≤ m then cl m (y :: l) else 0) = (if x ≤ m then if y ≤ m then cl m l else 0 else 0) + (if x ≤ m then ((picks l).map fun p => cl m ((y + p.1) :: p.2)).sum else 0) := by
      by_cases h : x ≤ m
      · rw [if_pos h, if_pos h, if_pos h, cl_cons]
      · rw [if_neg h, if_neg h, if_neg h]
    have e2 : ((picks (y :: l)).map fun p => cl m ((x + p.1) :: p.2)).sum = cl m ((x + y) :: l) + ((picks l).map fun p => cl m ((x + p.1) :: y :: p.2)).sum := by
      simp only [picks, List.map_cons, List.sum_cons, List.map_map, Function.comp_def]
    have e3 : ((picks l).map fun p => cl m ((x + p.1) :: y :: p.2)).sum = ((picks l).map fun p => ((if y ≤ m then cl m ((x + p.1) :: p.2) else 0) + cl m ((x + y + p.1) :: p.2)) + ((picks p.2).map fun q => cl m ((x + p.1) :: (y + q.1) :: q.2)).sum).sum := by
      apply map_sum_congr
      intro p hp
      have hpl := picks_len hp
      rw [ih (_ :: y :: p.2) (y :: (x + p.1) :: p.2) (by simp only [List.length_cons]; omega) (.swap ..), cl_cons]
      have e4 : ((picks ((x + p.1) :: p.2)).map fun q => cl m ((y + q.1) :: q.2)).sum = cl m ((x + y + p.1) :: p.2) + ((picks p.2).map fun q => cl m ((x + p.1) :: (y + q.1) :: q.2)).sum := by
        simp only [picks, List.map_cons, List.sum_cons, List.map_map, Function.comp_def]
        rw [show y + (x + p.1) = x + y + p.1 by omega]
        congr 1
        apply map_sum_congr
        intro q hq
        have hql := picks_len hq
        exact ih _ _ (by simp only [List.length_cons]; omega) (.swap ..)
      rw [e4]
      omega
    rw [e1, e2, e3, map_sum_add, map_sum_add, map_sum_if]
    omega
  rw [key x y, key y x]
  have e6 : ((picks l).map fun p => ((picks p.2).map fun q => cl m ((x + p.1) :: (y + q.1) :: q.2)).sum).sum = ((picks l).map fun p => ((picks p.2).map fun q => cl m ((y + p.1) :: (x + q.1) :: q.2)).sum).sum := by
    rw [picks_two fun a b r => cl m ((x + a) :: (y + b) :: r)]
    apply map_sum_congr
    intro p hp
    apply map_sum_congr
    intro q hq
    have hpl := picks_len hp
    have hql := picks_len hq
    exact ih _ _ (by simp only [List.length_cons]; omega) (.swap ..)
  rw [e6, Nat.add_comm x y]
  by_cases h1 : x ≤ m <;> by_cases h2 : y ≤ m <;> simp only [if_pos, if_neg, h1, h2, not_false_eq_true] <;> omega
/-- the turn of the chains doesn't matter -/
theorem cl_perm {m : Nat} {l l' : List Nat} (h : l.Perm l') : cl m l = cl m l' := by
  suffices H : ∀ n (l l' : List Nat), l.length ≤ n → l.Perm l' → cl m l = cl m l' from H _ l l' (Nat.le_refl _) h
  intro n
  induction n with
  | zero =>
    intro l l' hl h
    have e1 : l = [] := List.length_eq_zero_iff.mp (by omega)
    subst e1
    rw [h.nil_eq]
  | succ n ih =>
    intro l l' hl h
    induction h with
    | nil => rfl
    | cons x h _ =>
      have hl' := hl
      rw [List.length_cons] at hl'
      rw [cl_cons, cl_cons, ih _ _ (by omega) h]
      congr 1
      refine picks_perm h _ fun y r r' hr hp => ih _ _ (by simp only [List.length_cons]; omega) (hp.cons _)
    | swap x y l => exact cl_swap_of (fun l l' hl h => ih l l' (by simp only [List.length_cons] at *; omega) h) y x l rfl
    | trans h1 h2 ih1 ih2 => exact (ih1 hl).trans (ih2 (by rw [← h1.length_eq]; exact hl))

/-! ### the same by the ring of one chain: all choices of others go with it -/
/-- the sum over all partings of a list: what is taken, what is left -/
def spl : List Nat → (List Nat → List Nat → Nat) → Nat
  | [], f => f [] []
  | y :: l, f => spl l (fun T R => f T (y :: R)) + spl l (fun T R => f (y :: T) R)
theorem spl_congr : ∀ {l : List Nat} {f g : List Nat → List Nat → Nat}, (∀ T R, T.length + R.length = l.length → f T R = g T R) → spl l f = spl l g
  | [], f, g, h => h [] [] rfl
  | y :: l, f, g, h => by
    unfold spl
    rw [spl_congr (l := l) fun T R e => h T (y :: R) (by simp only [List.length_cons]; omega), spl_congr (l := l) fun T R e => h (y :: T) R (by simp only [List.length_cons]; omega)]
theorem spl_add : ∀ (l : List Nat) (f g : List Nat → List Nat → Nat), spl l (fun T R => f T R + g T R) = spl l f + spl l g
  | [], f, g => rfl
  | y :: l, f, g => by
    show spl l (fun T R => f T (y :: R) + g T (y :: R)) + spl l (fun T R => f (y :: T) R + g (y :: T) R) = (spl l (fun T R => f T (y :: R)) + spl l (fun T R => f (y :: T) R)) + (spl l (fun T R => g T (y :: R)) + spl l (fun T R => g (y :: T) R))
    rw [spl_add l (fun T R => f T (y :: R)) (fun T R => g T (y :: R)), spl_add l (fun T R => f (y :: T) R) (fun T R => g (y :: T) R)]
    omega
theorem spl_none : ∀ (l : List Nat) (e : List Nat → Nat), spl l (fun T R => if T = [] then e R else 0) = e l
  | [], e => rfl
  | y :: l, e => by
    unfold spl
    rw [spl_none l fun R => e (y :: R)]
    have : ∀ l : List Nat, spl l (fun T R => if y :: T = [] then e R else 0) = 0 := fun l => by
      have z : ∀ l : List Nat, spl l (fun _ _ => 0) = 0 := fun l => by
        induction l with
        | nil => rfl
        | cons a l ih => unfold spl; rw [ih]
      rw [spl_congr (g := fun _ _ => 0) fun T R _ => if_neg (by simp), z]
    rw [this]
    omega
theorem spl_picks (k : List Nat → List Nat → Nat) (hk : ∀ T T' R, T.Perm T' → k T R = k T' R) : ∀ l : List Nat, ((picks l).map fun p => spl p.2 fun T R => k (p.1 :: T) R).sum = spl l fun T R => T.length * k T R := by
  intro l
  induction l generalizing k with
  | nil => simp [picks, spl]
  | cons a l ih =>
    simp only [picks, List.map_cons, List.sum_cons, List.map_map, Function.comp_def, spl]
    rw [map_sum_add, ih (fun T R => k T (a :: R)) fun T T' R h => hk T T' _ h]
    have e : ((picks l).map fun p => spl p.2 fun T R => k (p.1 :: a :: T) R).sum = ((picks l).map fun p => spl p.2 fun T R => k (a :: p.1 :: T) R).sum :=
      map_sum_congr fun p _ => spl_congr fun T R _ => hk _ _ R (.swap ..)
    rw [e, ih (fun T R => k (a :: T) R) fun T T' R h => hk _ _ _ (h.cons a)]
    have e2 : spl l (fun T R => (a :: T).length * k (a :: T) R) = spl l (fun T R => k (a :: T) R) + spl l (fun T R => T.length * k (a :: T) R) := by
      rw [← spl_add]
      apply spl_congr
      intro T R _
      rw [List.length_cons, Nat.add_mul, Nat.one_mul, Nat.add_comm]
    rw [e2]
    omega
def fact : Nat → Nat
  | 0 => 1
  | n + 1 => (n + 1) * fact n
theorem cl_spl (m : Nat) : ∀ (n : Nat) (x : Nat) (l : List Nat), l.length = n → cl m (x :: l) = spl l fun T R => if x + T.sum ≤ m then fact T.length * cl m R else 0 := by
  intro n
  induction n with
  | zero =>
    intro x l hl
    have e : l = [] := List.length_eq_zero_iff.mp hl
    subst e
    rw [cl_cons]
    simp [picks, spl, fact, cl_nil]
  | succ n ih =>
    intro x l hl
    rw [cl_cons]
    have e1 : ((picks l).map fun p => cl m ((x + p.1) :: p.2)).sum = ((picks l).map fun p => spl p.2 fun T R => (fun T R => if x + T.sum ≤ m then fact (T.length - 1) * cl m R else 0) (p.1 :: T) R).sum := by
      apply map_sum_congr
      intro p hp
      have := picks_len hp
      rw [ih (x + p.1) p.2 (by omega)]
      apply spl_congr
      intro T R _
      simp only [List.sum_cons, List.length_cons, Nat.add_sub_cancel, Nat.add_assoc]
    rw [e1, spl_picks (fun T R => if x + T.sum ≤ m then fact (T.length - 1) * cl m R else 0) (fun T T' R h => by simp only [h.sum_nat, h.length_eq])]
    rw [← spl_none l fun R => if x ≤ m then cl m R else 0, ← spl_add]
    apply spl_congr
    intro T R _
    cases T with
    | nil => simp [fact]
    | cons y T =>
      rw [if_neg (by simp), Nat.zero_add, List.length_cons, Nat.add_sub_cancel]
      by_cases h : x + (y :: T).sum ≤ m
      · rw [if_pos h, if_pos h]
        show _ = (T.length + 1) * fact T.length * cl m R
        rw [Nat.mul_assoc]
      · rw [if_neg h, if_neg h, Nat.mul_zero]
end Sb

namespace Sb

/-! ### some slips laid: chains that are open, rings that are closed -/
def begins (n : Nat) (p : List Nat) : List Nat := (List.range n).filter fun b => decide (b ∉ p)
theorem mem_begins {n b : Nat} {p : List Nat} : b ∈ begins n p ↔ b < n ∧ b ∉ p := by
  unfold begins
  rw [List.mem_filter, List.mem_range, decide_eq_true_iff]
theorem begins_pw (n : Nat) (p : List Nat) : (begins n p).Pairwise (· < ·) := List.Pairwise.filter _ List.pairwise_lt_range
theorem begins_nd (n : Nat) (p : List Nat) : (begins n p).Nodup := (begins_pw n p).imp fun h => Nat.ne_of_lt h
theorem begins_snoc (n : Nat) (p : List Nat) (s : Nat) : begins n (p ++ [s]) = (begins n p).erase s := by
  rw [(begins_nd n p).erase_eq_filter]
  unfold begins
  rw [List.filter_filter]
  apply List.filter_congr
  intro b _
  rw [Bool.eq_iff_iff]
  simp
  exact And.comm
structure Path (p : List Nat) (b : Nat) (q : List Nat) : Prop where
  head : q[0]? = some b
  step : ∀ i x y, q[i]? = some x → q[i + 1]? = some y → p[x]? = some y
  last : ∀ x, q[q.length - 1]? = some x → p.length ≤ x
structure Round (p c : List Nat) : Prop where
  pos : 0 < c.length
  step : ∀ i x, c[i]? = some x → p[x]? = c[(i + 1) % c.length]?
structure Lay (n : Nat) (p : List Nat) (P : Nat → List Nat) (C : List (List Nat)) : Prop where
  nd : p.Nodup
  lt : ∀ x ∈ p, x < n
  path : ∀ b ∈ begins n p, Path p b (P b)
  round : ∀ c ∈ C, Round p c
  all : ((begins n p).flatMap P ++ C.flatten).Perm (List.range n)
theorem Path.pos {p : List Nat} {b : Nat} {q : List Nat} (h : Path p b q) : 0 < q.length := (List.getElem?_eq_some_iff.mp h.head).1
theorem Lay.len {n : Nat} {p : List Nat} {P : Nat → List Nat} {C : List (List Nat)} (L : Lay n p P C) : p.length ≤ n := nodup_le L.nd L.lt
theorem Lay.start (n : Nat) : Lay n [] (fun b => [b]) [] where
  nd := List.nodup_nil
  lt := fun x h => by cases h
  path := fun b _ => ⟨rfl, fun i x y _ h => by simp at h, fun x _ => Nat.zero_le _⟩
  round := fun c h => by cases h
  all := by
    have e : begins n [] = List.range n := by
      unfold begins
      rw [List.filter_eq_self]
      intro a _
      simp
    have e2 : ∀ l : List Nat, l.flatMap (fun b => [b]) = l := fun l => by
      induction l with
      | nil => rfl
      | cons a l ih => rw [List.flatMap_cons, ih]; rfl
    rw [e, e2]
    simp
theorem last_of {q : List Nat} {x : Nat} (h : q[q.length - 1]? = some x) : ∃ a, q = a ++ [x] := by
  have hl := (List.getElem?_eq_some_iff.mp h).1
  have hne : q ≠ [] := fun e => by rw [e] at hl; simp at hl
  refine ⟨q.dropLast, ?_⟩
  have := List.dropLast_concat_getLast hne
  rw [List.getLast_eq_getElem] at this
  rw [List.getElem?_eq_getElem hl] at h
  rw [Option.some.inj h] at this
  exact this.symm
theorem get_snoc {p : List Nat} {x y s : Nat} (h : p[x]? = some y) : (p ++ [s])[x]? = some y := by
  rw [List.getElem?_append_left (List.getElem?_eq_some_iff.mp h).1]
  exact h
/-- where the next box stands: behind an open chain -/
theorem Lay.open_ {n : Nat} {p : List Nat} {P : Nat → List Nat} {C : List (List Nat)} (L : Lay n p P C) (hk : p.length < n) : ∃ A, A ∈ begins n p ∧ (P A)[(P A).length - 1]? = some p.length := by
  have hm : p.length ∈ (begins n p).flatMap P ++ C.flatten := L.all.mem_iff.mpr (List.mem_range.mpr hk)
  have hnone : p[p.length]? = none := List.getElem?_eq_none (Nat.le_refl _)
  rcases List.mem_append.mp hm with h | h
  · obtain ⟨A, hA, hx⟩ := List.mem_flatMap.mp h
    refine ⟨A, hA, ?_⟩
    obtain ⟨i, hi⟩ := List.mem_iff_getElem?.mp hx
    have hil := (List.getElem?_eq_some_iff.mp hi).1
    by_cases hlast : i + 1 < (P A).length
    · have := (L.path A hA).step i _ _ hi (List.getElem?_eq_getElem hlast)
      rw [hnone] at this
      cases this
    · rw [show (P A).length - 1 = i by omega]
      exact hi
  · obtain ⟨c, hc, hx⟩ := List.mem_flatten.mp h
    obtain ⟨i, hi⟩ := List.mem_iff_getElem?.mp hx
    have R := L.round c hc
    have := R.step i _ hi
    rw [hnone, List.getElem?_eq_getElem (Nat.mod_lt _ R.pos)] at this
    cases this
theorem Lay.nodup {n : Nat} {p : List Nat} {P : Nat → List Nat} {C : List (List Nat)} (L : Lay n p P C) : ((begins n p).flatMap P ++ C.flatten).Nodup := L.all.nodup_iff.mpr List.nodup_range
theorem Lay.apart {n : Nat} {p : List Nat} {P : Nat → List Nat} {C : List (List Nat)} (L : Lay n p P C) {a b x : Nat} (ha : a ∈ begins n p) (hb : b ∈ begins n p) (h1 : x ∈ P a) (h2 : x ∈ P b) : a = b := by
  by_cases e : a = b
  · exact e
  exfalso
  have nd := (List.nodup_append.mp L.nodup).1
  have p1 : (begins n p).Perm (a :: (begins n p).erase a) := List.perm_cons_erase ha
  have nd2 := (p1.flatMap_right P).nodup_iff.mp nd
  rw [List.flatMap_cons] at nd2
  refine (List.nodup_append.mp nd2).2.2 x h1 x ?_ rfl
  exact List.mem_flatMap.mpr ⟨b, (List.mem_erase_of_ne fun z => e z.symm).mpr hb, h2⟩
def Pn (P : Nat → List Nat) (A s : Nat) : Nat → List Nat := if s = A then P else fun b => if b = A then P A ++ P s else P b
def Cn (P : Nat → List Nat) (C : List (List Nat)) (A s : Nat) : List (List Nat) := if s = A then P s :: C else C
theorem Lay.next {n : Nat} {p : List Nat} {P : Nat → List Nat} {C : List (List Nat)} (L : Lay n p P C) {A : Nat} (hA : A ∈ begins n p) (he : (P A)[(P A).length - 1]? = some p.length) {s : Nat} (hs : s ∈ begins n p) :
    Lay n (p ++ [s]) (Pn P A s) (Cn P C A s) := by
  have hsn := mem_begins.mp hs
  have nd' : (p ++ [s]).Nodup := by
    rw [List.nodup_append]
    refine ⟨L.nd, by simp, fun a ha b hb => ?_⟩
    simp at hb
    subst hb
    exact fun e => hsn.2 (e ▸ ha)
  have lt' : ∀ x ∈ p ++ [s], x < n := fun x hx => by
    rcases List.mem_append.mp hx with h | h
    · exact L.lt x h
    · simp at h; subst h; exact hsn.1
  have other : ∀ b ∈ begins n p, b ≠ A → Path (p ++ [s]) b (P b) := fun b hb hbA => by
    have h := L.path b hb
    refine ⟨h.head, fun i x y hx hy => get_snoc (h.step i x y hx hy), fun x hx => ?_⟩
    have h1 := h.last x hx
    have h2 : x ≠ p.length := fun e => hbA (L.apart hb hA (List.mem_of_getElem? hx) (by rw [e]; exact List.mem_of_getElem? he))
    rw [List.length_append]
    show p.length + 1 ≤ x
    omega
  have round' : ∀ c ∈ C, Round (p ++ [s]) c := fun c hc => by
    have R := L.round c hc
    refine ⟨R.pos, fun i x hx => ?_⟩
    have h := R.step i x hx
    have hl := Nat.mod_lt (i + 1) R.pos
    rw [List.getElem?_eq_getElem hl] at h ⊢
    exact get_snoc h
  have p1 : (begins n p).Perm (s :: (begins n p).erase s) := List.perm_cons_erase hs
  have hk : (p ++ [s])[p.length]? = some s := by
    rw [List.getElem?_append_right (Nat.le_refl _), Nat.sub_self]; rfl
  by_cases e : s = A
  · unfold Pn Cn
    rw [if_pos e, if_pos e]
    subst e
    refine ⟨nd', lt', fun b hb => ?_, fun c hc => ?_, ?_⟩
    · rw [begins_snoc, (begins_nd n p).mem_erase_iff] at hb
      exact other b hb.2 hb.1
    · rcases List.mem_cons.mp hc with rfl | hc
      · have h := L.path s hs
        refine ⟨h.pos, fun i x hx => ?_⟩
        have hi := (List.getElem?_eq_some_iff.mp hx).1
        by_cases hl : i + 1 < (P s).length
        · rw [Nat.mod_eq_of_lt hl, List.getElem?_eq_getElem hl]
          exact get_snoc (h.step i x _ hx (List.getElem?_eq_getElem hl))
        · have ei : i = (P s).length - 1 := by omega
          rw [ei, he] at hx
          cases hx
          rw [show i + 1 = (P s).length by omega, Nat.mod_self, h.head]
          exact hk
      · exact round' c hc
    · rw [begins_snoc, List.flatten_cons]
      refine .trans ?_ L.all
      have h2 := (p1.flatMap_right P).append_right C.flatten
      rw [List.flatMap_cons] at h2
      refine .trans ?_ h2.symm
      rw [← List.append_assoc]
      exact List.perm_append_comm.append_right _
  · unfold Pn Cn
    rw [if_neg e, if_neg e]
    refine ⟨nd', lt', fun b hb => ?_, round', ?_⟩
    · rw [begins_snoc, (begins_nd n p).mem_erase_iff] at hb
      by_cases hbA : b = A
      · subst hbA
        show Path _ _ (if b = b then P b ++ P s else P b)
        rw [if_pos rfl]
        have h1 := L.path b hA
        have h2 := other s hs e
        have hp1 := h1.pos
        have hp2 := h2.pos
        refine ⟨?_, fun i x y hx hy => ?_, fun x hx => ?_⟩
        · rw [List.getElem?_append_left hp1]
          exact h1.head
        · by_cases hi : i + 1 < (P b).length
          · rw [List.getElem?_append_left (by omega)] at hx
            rw [List.getElem?_append_left hi] at hy
            exact get_snoc (h1.step i x y hx hy)
          · by_cases hi2 : i + 1 = (P b).length
            · rw [List.getElem?_append_left (by omega), show i = (P b).length - 1 by omega, he] at hx
              rw [List.getElem?_append_right (by omega), hi2, Nat.sub_self, h2.head] at hy
              cases hx
              cases hy
              exact hk
            · rw [List.getElem?_append_right (by omega)] at hx hy
              rw [show i + 1 - (P b).length = i - (P b).length + 1 by omega] at hy
              exact h2.step _ x y hx hy
        · rw [List.length_append, List.getElem?_append_right (by omega), show (P b).length + (P s).length - 1 - (P b).length = (P s).length - 1 by omega] at hx
          exact h2.last x hx
      · show Path _ _ (if b = A then P A ++ P s else P b)
        rw [if_neg hbA]
        exact other b hb.2 hbA
    · rw [begins_snoc]
      refine .trans ?_ L.all
      apply List.Perm.append_right
      have hA2 : A ∈ (begins n p).erase s := (List.mem_erase_of_ne fun z => e z.symm).mpr hA
      have p2 := List.perm_cons_erase hA2
      have p3 : (begins n p).Perm (s :: A :: ((begins n p).erase s).erase A) := p1.trans (p2.cons s)
      have nd3 := p3.nodup_iff.mp (begins_nd n p)
      refine (p2.flatMap_right _).trans (.trans ?_ (p3.flatMap_right P).symm)
      rw [List.flatMap_cons, List.flatMap_cons, List.flatMap_cons]
      rw [if_pos rfl]
      have e3 : (((begins n p).erase s).erase A).flatMap (fun b => if b = A then P A ++ P s else P b) = (((begins n p).erase s).erase A).flatMap P := by
        have hn : ∀ b ∈ ((begins n p).erase s).erase A, b ≠ A := fun b hb z => by
          subst z
          have := (List.nodup_cons.mp (List.nodup_cons.mp nd3).2).1
          exact this hb
        rw [List.flatMap_def, List.flatMap_def]
        congr 1
        apply List.map_congr_left
        intro b hb
        exact if_neg (hn b hb)
      rw [e3, ← List.append_assoc]
      exact List.perm_append_comm.append_right _
/-! ### how many winning settings begin with them -/
def lens (n : Nat) (p : List Nat) (P : Nat → List Nat) : List Nat := (begins n p).map fun b => (P b).length
def Small (C : List (List Nat)) (m : Nat) : Prop := ∀ c ∈ C, c.length ≤ m
instance (C : List (List Nat)) (m : Nat) : Decidable (Small C m) := inferInstanceAs (Decidable (∀ c ∈ C, c.length ≤ m))
def val (n m : Nat) (p : List Nat) (P : Nat → List Nat) (C : List (List Nat)) : Nat := if Small C m then cl m (lens n p P) else 0
theorem picks_nd : ∀ {B : List Nat}, B.Nodup → picks B = B.map fun s => (s, B.erase s)
  | [], _ => rfl
  | a :: B, h => by
    obtain ⟨h1, h2⟩ := List.nodup_cons.mp h
    unfold picks
    rw [picks_nd h2, List.map_cons, List.map_map]
    congr 1
    · simp
    · apply List.map_congr_left
      intro s hs
      have : ¬ (a == s) = true := fun z => h1 (by rw [beq_iff_eq.mp z]; exact hs)
      simp only [Function.comp_apply, List.erase_cons, if_neg this]
theorem picks_map (f : Nat → Nat) : ∀ B : List Nat, picks (B.map f) = (picks B).map fun p => (f p.1, p.2.map f)
  | [] => rfl
  | a :: B => by
    unfold picks
    rw [List.map_cons]
    simp only [picks_map f B, List.map_cons, List.map_map]
    rfl
theorem val_sum {n m : Nat} {p : List Nat} {P : Nat → List Nat} {C : List (List Nat)} {A : Nat} (hA : A ∈ begins n p) :
    ((begins n p).map fun s => val n m (p ++ [s]) (Pn P A s) (Cn P C A s)).sum = val n m p P C := by
  have nd := begins_nd n p
  have p1 : (begins n p).Perm (A :: (begins n p).erase A) := List.perm_cons_erase hA
  have ndB := nd.erase A
  have hB : ∀ s ∈ (begins n p).erase A, s ≠ A ∧ s ∈ begins n p := fun s hs => nd.mem_erase_iff.mp hs
  generalize eB : (begins n p).erase A = B at p1 ndB hB
  have e1 := (p1.map fun s => val n m (p ++ [s]) (Pn P A s) (Cn P C A s)).sum_nat
  rw [e1, List.map_cons, List.sum_cons]
  have eA : val n m (p ++ [A]) (Pn P A A) (Cn P C A A) = if Small C m then (if (P A).length ≤ m then cl m (B.map fun b => (P b).length) else 0) else 0 := by
    unfold val Cn Pn lens
    rw [if_pos rfl, if_pos rfl, begins_snoc, eB]
    by_cases h1 : Small C m
    · by_cases h2 : (P A).length ≤ m
      · rw [if_pos h1, if_pos h2, if_pos]
        intro c hc
        rcases List.mem_cons.mp hc with rfl | hc
        · exact h2
        · exact h1 c hc
      · rw [if_pos h1, if_neg h2, if_neg]
        exact fun z => h2 (z _ List.mem_cons_self)
    · rw [if_neg h1, if_neg]
      exact fun z => h1 fun c hc => z c (List.mem_cons_of_mem _ hc)
  have eS : (B.map fun s => val n m (p ++ [s]) (Pn P A s) (Cn P C A s)).sum = if Small C m then (B.map fun s => cl m (((P A).length + (P s).length) :: (B.erase s).map fun b => (P b).length)).sum else 0 := by
    rw [← map_sum_if]
    apply map_sum_congr
    intro s hs
    obtain ⟨hne, hsb⟩ := hB s hs
    unfold val Cn Pn lens
    rw [if_neg hne, if_neg hne, begins_snoc]
    by_cases h1 : Small C m
    · rw [if_pos h1, if_pos h1]
      apply cl_perm
      have hA2 : A ∈ (begins n p).erase s := (List.mem_erase_of_ne fun z => hne z.symm).mpr hA
      have p2 := List.perm_cons_erase hA2
      rw [List.erase_comm, eB] at p2
      refine (p2.map _).trans ?_
      rw [List.map_cons, if_pos rfl, List.length_append]
      refine .cons _ (.of_eq ?_)
      apply List.map_congr_left
      intro b hb
      have : b ≠ A := (hB b (List.mem_of_mem_erase hb)).1
      rw [if_neg this]
    · rw [if_neg h1, if_neg h1]
  rw [eA, eS]
  unfold val
  by_cases h1 : Small C m
  · rw [if_pos h1, if_pos h1, if_pos h1]
    have e3 : cl m (lens n p P) = cl m ((P A).length :: B.map fun b => (P b).length) := cl_perm (p1.map fun b => (P b).length)
    rw [e3, cl_cons, picks_map, picks_nd ndB, List.map_map, List.map_map]
    rfl
  · rw [if_neg h1, if_neg h1, if_neg h1]
/-- the winning settings that begin with p, in the order of lists -/
def wins (n m : Nat) : Nat → List Nat → List (List Nat)
  | 0, p => if (longOf p m).isEmpty then [p] else []
  | f + 1, p => (begins n p).flatMap fun s => wins n m f (p ++ [s])
theorem Lay.done {n : Nat} {p : List Nat} {P : Nat → List Nat} {C : List (List Nat)} (L : Lay n p P C) (h : p.length = n) : Good p ∧ begins n p = [] ∧ ∀ m, Small C m ↔ Short p m := by
  have hp : p.Perm (List.range n) := by
    refine (List.perm_ext_iff_of_nodup L.nd List.nodup_range).mpr fun x => ?_
    rw [List.mem_range]
    refine ⟨L.lt x, fun hx => ?_⟩
    by_cases hm : x ∈ p
    · exact hm
    · have nd : (p ++ [x]).Nodup := by
        rw [List.nodup_append]
        refine ⟨L.nd, by simp, fun a ha b hb e => ?_⟩
        simp at hb
        subst hb
        exact hm (e ▸ ha)
      have := nodup_le (n := n) nd fun y hy => by
        rcases List.mem_append.mp hy with h | h
        · exact L.lt y h
        · simp at h; omega
      rw [List.length_append] at this
      simp at this
      omega
  have g : Good p := ⟨by rw [h]; exact hp⟩
  have hb : begins n p = [] := by
    unfold begins
    rw [List.filter_eq_nil_iff]
    intro x hx
    rw [decide_eq_true_iff]
    exact fun z => z (hp.mem_iff.mpr hx)
  refine ⟨g, hb, fun m => ?_⟩
  have all := L.all
  rw [hb, List.flatMap_nil, List.nil_append] at all
  have ndf : C.flatten.Nodup := all.nodup_iff.mpr List.nodup_range
  have ring : ∀ c ∈ C, ∀ x ∈ c, (ringOf p x).length = c.length := fun c hc x hx => by
    have R := L.round c hc
    have ndc : c.Nodup := by
      have := List.perm_cons_erase hc
      have h2 := this.flatten.nodup_iff.mp ndf
      rw [List.flatten_cons] at h2
      exact (List.nodup_append.mp h2).1
    have lt : ∀ y ∈ c, y < p.length := fun y hy => by
      rw [h]
      exact List.mem_range.mp (all.mem_iff.mp (List.mem_flatten.mpr ⟨c, hc, hy⟩))
    obtain ⟨h0, hh0⟩ : ∃ x, c[0]? = some x := ⟨c[0]'R.pos, List.getElem?_eq_getElem R.pos⟩
    have I : IsRing p h0 c := by
      refine isRing_iff.mpr ⟨hh0, ndc, lt, fun i a b ha hb => ?_⟩
      have := R.step i a ha
      rw [hb, nxt_get? (lt a (List.mem_of_getElem? ha))] at this
      exact Option.some.inj this
    have e := I.eq g
    have hx' : x ∈ ringOf p h0 := by rw [← e]; exact hx
    rw [ringOf_len_eq g I.toChain.hlt hx', ← e]
  constructor
  · intro hS x hx
    have : x ∈ C.flatten := all.mem_iff.mpr (List.mem_range.mpr (by omega))
    obtain ⟨c, hc, hxc⟩ := List.mem_flatten.mp this
    rw [ring c hc x hxc]
    exact hS c hc
  · intro hS c hc
    have R := L.round c hc
    have hm : c[0]'R.pos ∈ c := List.getElem_mem R.pos
    rw [← ring c hc _ hm]
    refine hS _ ?_
    rw [h]
    exact List.mem_range.mp (all.mem_iff.mp (List.mem_flatten.mpr ⟨c, hc, hm⟩))
theorem wins_len {n m : Nat} : ∀ {f : Nat} {p : List Nat} {P : Nat → List Nat} {C : List (List Nat)}, Lay n p P C → p.length + f = n → (wins n m f p).length = val n m p P C := by
  intro f
  induction f with
  | zero =>
    intro p P C L h
    obtain ⟨g, hb, hs⟩ := L.done h
    unfold wins val lens
    rw [hb, List.map_nil, cl_nil]
    by_cases hS : Short p m
    · rw [if_pos ((hs m).mpr hS), if_pos (by rw [(longOf_nil g).mpr hS]; rfl)]
      rfl
    · rw [if_neg fun z => hS ((hs m).mp z), if_neg]
      · rfl
      · intro z
        exact hS ((longOf_nil g).mp (List.isEmpty_iff.mp z))
  | succ f ih =>
    intro p P C L h
    obtain ⟨A, hA, he⟩ := L.open_ (by omega)
    unfold wins
    rw [List.length_flatMap, ← val_sum hA (P := P) (C := C)]
    apply map_sum_congr
    intro s hs
    exact ih (L.next hA he hs) (by rw [List.length_append]; show p.length + 1 + f = n; omega)
end Sb

namespace Sb

/-! ### the count by the ring of the first box -/
/-- gain and ways behind s sizes -/
def gw (T : List Nat) (k : Nat) : Nat → Nat × Nat
  | 0 => (0, 1)
  | s + 1 => ((gw T k s).1 + (gw T k s).2 * T.getD (k - (s + 1)) 0, (gw T k s).2 * (k - (s + 1)))
theorem gw_succ (T : List Nat) (k s : Nat) : gw T k (s + 1) = ((gw T k s).1 + (gw T k s).2 * T.getD (k - (s + 1)) 0, (gw T k s).2 * (k - (s + 1))) := rfl
def tbl (m : Nat) : Nat → List Nat
  | 0 => [1]
  | k + 1 => tbl m k ++ [(gw (tbl m k) (k + 1) (min m (k + 1))).1]
def hm (n m : Nat) : Nat := (tbl m n).getD n 0
theorem tbl_succ (m k : Nat) : tbl m (k + 1) = tbl m k ++ [(gw (tbl m k) (k + 1) (min m (k + 1))).1] := rfl
theorem tbl_len (m : Nat) : ∀ n, (tbl m n).length = n + 1
  | 0 => rfl
  | n + 1 => by unfold tbl; rw [List.length_append, tbl_len m n]; rfl
theorem cl_far {m : Nat} : ∀ {n x : Nat} {l : List Nat}, l.length = n → m < x → cl m (x :: l) = 0 := by
  intro n
  induction n with
  | zero =>
    intro x l hl hx
    rw [List.length_eq_zero_iff.mp hl, cl_cons, if_neg (by omega)]
    rfl
  | succ n ih =>
    intro x l hl hx
    rw [cl_cons, if_neg (by omega), Nat.zero_add, map_sum_congr (g := fun _ => 0) fun p hp => ih (by have := picks_len hp; omega) (by omega)]
    generalize picks l = q
    induction q with
    | nil => rfl
    | cons a q ih => simpa using ih
theorem picks_one : ∀ j : Nat, picks (List.replicate (j + 1) 1) = List.replicate (j + 1) (1, List.replicate j 1)
  | 0 => rfl
  | j + 1 => by
    rw [List.replicate_succ (n := j + 1)]
    unfold picks
    rw [picks_one j, List.map_replicate, List.replicate_succ (n := j + 1)]
    rfl
theorem cl_ones (m c : Nat) (j : Nat) : cl m (c :: List.replicate j 1) = (if c ≤ m then cl m (List.replicate j 1) else 0) + j * cl m ((c + 1) :: List.replicate (j - 1) 1) := by
  rw [cl_cons]
  congr 1
  cases j with
  | zero => simp [picks]
  | succ j =>
    rw [picks_one, List.map_replicate, List.sum_replicate_nat]
    rfl
theorem gw_is {m k : Nat} {T : List Nat} (hT : ∀ i, i < k → T.getD i 0 = cl m (List.replicate i 1)) (hk : 1 ≤ k) : ∀ s, s ≤ k → s ≤ m → cl m (List.replicate k 1) = (gw T k s).1 + (gw T k s).2 * cl m ((s + 1) :: List.replicate (k - 1 - s) 1)
  | 0, _, _ => by
    unfold gw
    rw [Nat.zero_add, Nat.one_mul, Nat.sub_zero, Nat.zero_add, show k = (k - 1) + 1 by omega, List.replicate_succ]
    rfl
  | s + 1, h1, h2 => by
    rw [gw_is hT hk s (by omega) (by omega), gw_succ]
    rw [cl_ones, if_pos (by omega), hT _ (by omega), show k - (s + 1) = k - 1 - s by omega, show k - 1 - (s + 1) = k - 1 - s - 1 by omega, Nat.mul_add, Nat.mul_assoc]
    omega
theorem gw_end {m k : Nat} {T : List Nat} (hT : ∀ i, i < k → T.getD i 0 = cl m (List.replicate i 1)) (hk : 1 ≤ k) : (gw T k (min m k)).1 = cl m (List.replicate k 1) := by
  have h := gw_is hT hk (min m k) (Nat.min_le_right ..) (Nat.min_le_left ..)
  by_cases hm : m < k
  · rw [Nat.min_eq_left (by omega)] at h ⊢
    rw [cl_far (n := k - 1 - m) (by simp) (by omega)] at h
    omega
  · rw [Nat.min_eq_right (by omega)] at h ⊢
    have : (gw T k k).2 = 0 := by
      obtain ⟨j, rfl⟩ : ∃ j, k = j + 1 := ⟨k - 1, by omega⟩
      unfold gw
      rw [Nat.sub_self, Nat.mul_zero]
    rw [this] at h
    omega
theorem tbl_is (m : Nat) : ∀ n i, i ≤ n → (tbl m n).getD i 0 = cl m (List.replicate i 1)
  | 0, i, h => by
    have : i = 0 := by omega
    subst this
    rfl
  | n + 1, i, h => by
    unfold tbl
    rw [List.getD_eq_getElem?_getD]
    by_cases hi : i ≤ n
    · rw [List.getElem?_append_left (by rw [tbl_len]; omega), ← List.getD_eq_getElem?_getD]
      exact tbl_is m n i hi
    · have e : i = n + 1 := by omega
      subst e
      rw [List.getElem?_append_right (by rw [tbl_len]; omega), tbl_len, Nat.sub_self]
      show (gw (tbl m n) (n + 1) (min m (n + 1))).1 = _
      exact gw_end (fun i hi => tbl_is m n i (by omega)) (by omega)
theorem tbl_pre (m : Nat) : ∀ n k, k ≤ n → tbl m n = tbl m k ++ (tbl m n).drop (k + 1)
  | n, k, h => by
    induction n with
    | zero =>
      have : k = 0 := by omega
      subst this
      rfl
    | succ n ih =>
      by_cases hk : k ≤ n
      · have e := ih hk
        have hl : k + 1 ≤ (tbl m n).length := by rw [tbl_len]; omega
        rw [tbl_succ, List.drop_append_of_le_length hl, ← List.append_assoc, ← e]
      · have : k = n + 1 := by omega
        subst this
        rw [List.drop_of_length_le (by rw [tbl_len]; omega), List.append_nil]
theorem hm_is (n m : Nat) : hm n m = cl m (List.replicate n 1) := tbl_is m n n (Nat.le_refl _)
theorem hm_wins (n m : Nat) : hm n m = (wins n m n []).length := by
  rw [wins_len (Lay.start n) (by simp), hm_is]
  unfold val lens
  have hS : Small [] m := fun c hc => by cases hc
  rw [if_pos hS]
  have e : begins n [] = List.range n := by
    unfold begins
    rw [List.filter_eq_self]
    intro a _
    simp
  rw [e]
  congr 1
  show _ = (List.range n).map fun _ => 1
  rw [List.map_const', List.length_range]

/-! ### the order of lists -/
theorem app_lt {p a b : List Nat} (h : a < b) : p ++ a < p ++ b := by
  induction p with
  | nil => exact h
  | cons x p ih => exact List.cons_lt_cons_iff.mpr (.inr ⟨rfl, ih⟩)
theorem wins_pre {n m : Nat} : ∀ {f : Nat} {p x : List Nat}, x ∈ wins n m f p → ∃ r, x = p ++ r := by
  intro f
  induction f with
  | zero =>
    intro p x h
    unfold wins at h
    split at h
    · exact ⟨[], by simpa using h⟩
    · cases h
  | succ f ih =>
    intro p x h
    unfold wins at h
    obtain ⟨s, _, hs⟩ := List.mem_flatMap.mp h
    obtain ⟨r, rfl⟩ := ih hs
    exact ⟨s :: r, by simp⟩
theorem wins_pw {n m : Nat} : ∀ (f : Nat) (p : List Nat), (wins n m f p).Pairwise (· < ·) := by
  intro f
  induction f with
  | zero =>
    intro p
    unfold wins
    split <;> simp
  | succ f ih =>
    intro p
    unfold wins
    rw [List.pairwise_flatMap]
    refine ⟨fun s _ => ih _, (begins_pw n p).imp fun {s t} hst x hx y hy => ?_⟩
    obtain ⟨r, rfl⟩ := wins_pre hx
    obtain ⟨q, rfl⟩ := wins_pre hy
    rw [List.append_assoc, List.append_assoc]
    exact app_lt (List.cons_lt_cons_iff.mpr (.inl hst))
/-- each of them is a winning setting -/
theorem wins_good {n m : Nat} : ∀ {f : Nat} {p x : List Nat} {P : Nat → List Nat} {C : List (List Nat)}, Lay n p P C → p.length + f = n → x ∈ wins n m f p → x.length = n ∧ Good x ∧ Short x m := by
  intro f
  induction f with
  | zero =>
    intro p x P C L h hx
    obtain ⟨g, _, _⟩ := L.done h
    unfold wins at hx
    split at hx
    · rename_i he
      have : x = p := by simpa using hx
      subst this
      exact ⟨h, g, (longOf_nil g).mp (List.isEmpty_iff.mp he)⟩
    · cases hx
  | succ f ih =>
    intro p x P C L h hx
    unfold wins at hx
    obtain ⟨s, hs, hx⟩ := List.mem_flatMap.mp hx
    obtain ⟨A, hA, he⟩ := L.open_ (by omega)
    exact ih (L.next hA he hs) (by rw [List.length_append]; show p.length + 1 + f = n; omega) hx
theorem wins_all {n m : Nat} {x : List Nat} (h : x ∈ wins n m n []) : x.length = n ∧ Good x ∧ Short x m := wins_good (Lay.start n) (by simp) h
theorem lay_of {n : Nat} {p : List Nat} (nd : p.Nodup) (lt : ∀ x ∈ p, x < n) : ∃ P C, Lay n p P C := by
  suffices H : ∀ k, k ≤ p.length → ∃ P C, Lay n (p.take k) P C by
    have := H p.length (Nat.le_refl _)
    rwa [List.take_length] at this
  intro k
  induction k with
  | zero => exact fun _ => ⟨_, _, Lay.start n⟩
  | succ k ih =>
    intro hk
    obtain ⟨P, C, L⟩ := ih (by omega)
    have hlen : (p.take k).length = k := by rw [List.length_take]; omega
    have hpn := nodup_le nd lt
    obtain ⟨A, hA, he⟩ := L.open_ (by omega)
    have hs : p[k] ∈ begins n (p.take k) := by
      refine mem_begins.mpr ⟨lt _ (List.getElem_mem _), fun z => ?_⟩
      have e : p = p.take k ++ p.drop k := (List.take_append_drop k p).symm
      have nd2 := nd
      rw [e] at nd2
      refine (List.nodup_append.mp nd2).2.2 _ z p[k] ?_ rfl
      rw [List.drop_eq_getElem_cons (by omega)]
      exact List.mem_cons_self
    rw [List.take_add_one, List.getElem?_eq_getElem (by omega)]
    exact ⟨_, _, L.next hA he hs⟩
/-! ### the slips from j on -/
def bfrom (n : Nat) (p : List Nat) (j : Nat) : List Nat := (List.range' j (n - j)).filter fun b => decide (b ∉ p)
def rest (n m f : Nat) (p : List Nat) (j : Nat) : List (List Nat) := (bfrom n p j).flatMap fun s => wins n m f (p ++ [s])
theorem rest_zero (n m f : Nat) (p : List Nat) : rest n m f p 0 = wins n m (f + 1) p := by
  show (bfrom n p 0).flatMap _ = (begins n p).flatMap _
  unfold bfrom begins
  rw [Nat.sub_zero, ← List.range_eq_range']
theorem rest_in {n m f : Nat} {p : List Nat} {j : Nat} (hj : j < n) (hp : j ∉ p) : rest n m f p j = wins n m f (p ++ [j]) ++ rest n m f p (j + 1) := by
  unfold rest bfrom
  rw [show n - j = (n - (j + 1)) + 1 by omega, List.range'_succ, List.filter_cons_of_pos (by simpa using hp), List.flatMap_cons]
theorem rest_out {n m f : Nat} {p : List Nat} {j : Nat} (hj : j < n) (hp : j ∈ p) : rest n m f p j = rest n m f p (j + 1) := by
  unfold rest bfrom
  rw [show n - j = (n - (j + 1)) + 1 by omega, List.range'_succ, List.filter_cons_of_neg (by simpa using hp)]
theorem rest_end (n m f : Nat) (p : List Nat) : rest n m f p n = [] := by
  unfold rest bfrom
  rw [Nat.sub_self]
  rfl
/-- what stands in a list from a place on -/
def Seg (t : List (List Nat)) (o : Nat) (l : List (List Nat)) : Prop := ∀ (i : Nat) (x : List Nat), l[i]? = some x → t[o + i]? = some x
theorem Seg.left {t : List (List Nat)} {o : Nat} {a b : List (List Nat)} (h : Seg t o (a ++ b)) : Seg t o a := fun i x hx => h i x (by
  rw [List.getElem?_append_left (List.getElem?_eq_some_iff.mp hx).1]; exact hx)
theorem Seg.right {t : List (List Nat)} {o : Nat} {a b : List (List Nat)} (h : Seg t o (a ++ b)) : Seg t (o + a.length) b := fun i x hx => by
  rw [Nat.add_assoc]
  exact h _ x (by rw [List.getElem?_append_right (by omega), Nat.add_sub_cancel_left]; exact hx)
theorem wins_uniq {n m i j : Nat} {x : List Nat} (hi : (wins n m n [])[i]? = some x) (hj : (wins n m n [])[j]? = some x) : i = j := by
  have h1 := (List.getElem?_eq_some_iff.mp hi)
  have h2 := (List.getElem?_eq_some_iff.mp hj)
  obtain ⟨h1, e1⟩ := h1
  obtain ⟨h2, e2⟩ := h2
  have pw := List.pairwise_iff_getElem.mp (wins_pw (n := n) (m := m) n [])
  rcases Nat.lt_trichotomy i j with h | h | h
  · have := pw i j h1 h2 h
    rw [e1, e2] at this
    exact absurd this (List.lt_irrefl x)
  · exact h
  · have := pw j i h2 h1 h
    rw [e1, e2] at this
    exact absurd this (List.lt_irrefl x)
theorem wins_lt {n m i j : Nat} {x y : List Nat} (hi : (wins n m n [])[i]? = some x) (hj : (wins n m n [])[j]? = some y) : i < j ↔ x < y := by
  obtain ⟨h1, e1⟩ := (List.getElem?_eq_some_iff.mp hi)
  obtain ⟨h2, e2⟩ := (List.getElem?_eq_some_iff.mp hj)
  have pw := List.pairwise_iff_getElem.mp (wins_pw (n := n) (m := m) n [])
  constructor
  · intro h
    have := pw i j h1 h2 h
    rwa [e1, e2] at this
  · intro h
    rcases Nat.lt_trichotomy i j with z | z | z
    · exact z
    · subst z
      rw [hi] at hj
      cases hj
      exact absurd h (List.lt_irrefl x)
    · have := pw j i h2 h1 z
      rw [e1, e2] at this
      exact absurd (List.lt_trans h this) (List.lt_irrefl x)
/-- each winning setting is one of them -/
theorem wins_has {n m : Nat} {x : List Nat} (hl : x.length = n) (g : Good x) (hs : Short x m) : ∃ i : Nat, (wins n m n [])[i]? = some x := by
  suffices H : ∀ f k, k + f = n → x ∈ wins n m f (x.take k) by
    have := H n 0 (by omega)
    exact List.mem_iff_getElem?.mp this
  intro f
  induction f with
  | zero =>
    intro k hk
    rw [List.take_of_length_le (by omega)]
    unfold wins
    rw [if_pos (by rw [(longOf_nil g).mpr hs]; rfl)]
    exact List.mem_singleton.mpr rfl
  | succ f ih =>
    intro k hk
    unfold wins
    have hkx : k < x.length := by omega
    refine List.mem_flatMap.mpr ⟨x[k], mem_begins.mpr ⟨by have := g.lt (List.getElem_mem hkx); omega, fun z => ?_⟩, ?_⟩
    · have nd2 := g.nodup
      rw [← List.take_append_drop k x] at nd2
      refine (List.nodup_append.mp nd2).2.2 _ z x[k] ?_ rfl
      rw [List.drop_eq_getElem_cons hkx]
      exact List.mem_cons_self
    · have := ih (k + 1) (by omega)
      rw [List.take_add_one, List.getElem?_eq_getElem hkx] at this
      exact this
end Sb

namespace Sb

/-! ### counts 1, 2, and from half of the boxes on -/
theorem cl_free {m : Nat} : ∀ j c, 1 ≤ c → c + j ≤ m → cl m (c :: List.replicate j 1) = fact (j + 1)
  | 0, c, h1, h2 => by
    rw [cl_ones, if_pos (by omega), Nat.zero_mul]
    rfl
  | j + 1, c, h1, h2 => by
    rw [cl_ones, if_pos (by omega), List.replicate_succ, cl_free j 1 (by omega) (by omega), Nat.add_sub_cancel, cl_free j (c + 1) (by omega) (by omega)]
    show _ = (j + 1 + 1) * fact (j + 1)
    rw [Nat.add_mul (j + 1) 1, Nat.one_mul, Nat.add_comm]
theorem ones_free {m k : Nat} (h : k ≤ m) : cl m (List.replicate k 1) = fact k := by
  cases k with
  | zero => rfl
  | succ k =>
    rw [List.replicate_succ]
    exact cl_free k 1 (by omega) (by omega)
/-- j (j - 1) .., so many -/
def fall : Nat → Nat → Nat
  | _, 0 => 1
  | j, t + 1 => j * fall (j - 1) t
theorem fall_fact : ∀ (t j : Nat), t ≤ j → fall j t * fact (j - t) = fact j
  | 0, j, _ => by unfold fall; rw [Nat.one_mul]; rfl
  | t + 1, j, h => by
    obtain ⟨i, rfl⟩ : ∃ i, j = i + 1 := ⟨j - 1, by omega⟩
    unfold fall
    rw [Nat.add_sub_cancel, Nat.mul_assoc, show i + 1 - (t + 1) = i - t by omega, fall_fact t i (by omega)]
    rfl
theorem cl_less {m : Nat} : ∀ (d c j : Nat), c + d = m → d ≤ j → cl m (c :: List.replicate j 1) = cl m ((c + 1) :: List.replicate j 1) + fall j d * cl m (List.replicate (j - d) 1)
  | 0, c, j, h, _ => by
    rw [cl_ones, if_pos (by omega), cl_far (n := j - 1) (by simp) (by omega), cl_far (n := j) (by simp) (by omega)]
    unfold fall
    rw [Nat.mul_zero, Nat.zero_add, Nat.one_mul]
    rfl
  | d + 1, c, j, h, hj => by
    rw [cl_ones, if_pos (by omega), cl_ones m (c + 1) j, if_pos (by omega), cl_less d (c + 1) (j - 1) (by omega) (by omega)]
    rw [show fall j (d + 1) = j * fall (j - 1) d from rfl, Nat.mul_add, show j - 1 - d = j - (d + 1) by omega, Nat.mul_assoc]
    omega
theorem hm_free {n m : Nat} (h : n ≤ m) : hm n m = fact n := by rw [hm_is, ones_free h]
theorem hm_next {m k : Nat} (h1 : 1 ≤ m) (h2 : m ≤ k) (h3 : k ≤ 2 * m) : hm (k + 1) m + fact k = (k + 1) * hm k m := by
  rw [hm_is, hm_is, List.replicate_succ, cl_ones, if_pos h1]
  have hk : cl m (List.replicate k 1) = cl m (1 :: List.replicate (k - 1) 1) := by
    rw [← List.replicate_succ, show k - 1 + 1 = k by omega]
  have h := cl_less (m := m) (m - 1) 1 (k - 1) (by omega) (by omega)
  rw [← hk, show k - 1 - (m - 1) = k - m by omega, ones_free (show k - m ≤ m by omega)] at h
  have hf : k * (fall (k - 1) (m - 1) * fact (k - m)) = fact k := by
    rw [show k - m = k - 1 - (m - 1) by omega, fall_fact (m - 1) (k - 1) (by omega)]
    obtain ⟨i, rfl⟩ : ∃ i, k = i + 1 := ⟨k - 1, by omega⟩
    rfl
  rw [← hf]
  generalize fall (k - 1) (m - 1) * fact (k - m) = z at h
  generalize cl m ((1 + 1) :: List.replicate (k - 1) 1) = y at h ⊢
  rw [h, Nat.add_mul, Nat.one_mul, Nat.mul_add]
  omega
/-- those with a longer ring -/
def over (n m : Nat) : Nat → Nat
  | 0 => 0
  | j + 1 => over n m j + fact n / (m + j + 1)
theorem over_step (n m j : Nat) : over n m (j + 1) = over n m j + fact n / (m + j + 1) := rfl
theorem dvd_fact : ∀ {n s : Nat}, 1 ≤ s → s ≤ n → s ∣ fact n
  | 0, s, h1, h2 => by omega
  | n + 1, s, h1, h2 => by
    unfold fact
    by_cases h : s = n + 1
    · subst h
      exact Nat.dvd_mul_right ..
    · exact Nat.dvd_trans (dvd_fact h1 (show s ≤ n by omega)) (Nat.dvd_mul_left ..)
theorem over_succ {n m : Nat} : ∀ j, m + j ≤ n → over (n + 1) m j = (n + 1) * over n m j
  | 0, _ => rfl
  | j + 1, h => by
    unfold over
    rw [over_succ j (by omega), Nat.mul_add]
    congr 1
    show (n + 1) * fact n / _ = _
    exact Nat.mul_div_assoc _ (dvd_fact (by omega) (by omega))
theorem fact_pos : ∀ n, 0 < fact n
  | 0 => by decide
  | n + 1 => Nat.mul_pos (by omega) (fact_pos n)
theorem hm_over {m : Nat} (h1 : 1 ≤ m) : ∀ j, m + j ≤ 2 * m + 1 → hm (m + j) m + over (m + j) m j = fact (m + j)
  | 0, _ => by
    rw [Nat.add_zero, hm_free (Nat.le_refl _)]
    rfl
  | j + 1, h => by
    have ih := hm_over h1 j (by omega)
    have e := hm_next h1 (show m ≤ m + j by omega) (show m + j ≤ 2 * m by omega)
    have e2 : over (m + j + 1) m (j + 1) = (m + j + 1) * over (m + j) m j + fact (m + j) := by
      rw [over_step, over_succ j (Nat.le_refl _)]
      congr 1
      show (m + j + 1) * fact (m + j) / _ = _
      exact Nat.mul_div_cancel_left _ (by omega)
    show hm (m + j + 1) m + over (m + j + 1) m (j + 1) = (m + j + 1) * fact (m + j)
    rw [e2, ← ih, Nat.mul_add, ← e, ih]
    omega
theorem hm_zero (m : Nat) : hm 0 m = 1 := rfl
theorem hm_succ {n m : Nat} : hm (n + 1) m = (gw (tbl m n) (n + 1) (min m (n + 1))).1 := by
  unfold hm
  rw [tbl_succ, List.getD_eq_getElem?_getD, List.getElem?_append_right (by rw [tbl_len]; omega), tbl_len, Nat.sub_self]
  rfl
theorem tbl_get {n m i : Nat} (h : i ≤ n) : (tbl m n).getD i 0 = hm i m := by rw [tbl_is m n i h, hm_is]
theorem hm_one : ∀ n, hm n 1 = 1
  | 0 => rfl
  | n + 1 => by
    rw [hm_succ, Nat.min_eq_left (by omega), gw_succ]
    show 0 + 1 * (tbl 1 n).getD (n + 1 - 1) 0 = 1
    rw [Nat.add_sub_cancel, tbl_get (Nat.le_refl _), hm_one n]
theorem hm_two (n : Nat) : hm (n + 2) 2 = hm (n + 1) 2 + (n + 1) * hm n 2 := by
  rw [hm_succ, Nat.min_eq_left (by omega), gw_succ, gw_succ]
  show 0 + 1 * (tbl 2 (n + 1)).getD (n + 1 + 1 - 1) 0 + 1 * (n + 1 + 1 - 1) * (tbl 2 (n + 1)).getD (n + 1 + 1 - 2) 0 = _
  rw [Nat.add_sub_cancel, show n + 1 + 1 - 2 = n by omega, tbl_get (Nat.le_refl _), tbl_get (by omega), Nat.one_mul, Nat.one_mul, Nat.zero_add]
theorem fact_le : ∀ n k, n ≤ k → fact n ≤ fact k
  | n, 0, h => by
    have : n = 0 := by omega
    subst this
    exact Nat.le_refl _
  | n, k + 1, h => by
    by_cases e : n = k + 1
    · subst e; exact Nat.le_refl _
    · refine Nat.le_trans (fact_le n k (by omega)) ?_
      show fact k ≤ (k + 1) * fact k
      exact Nat.le_mul_of_pos_left _ (by omega)
/-- no more than all lists -/
theorem cl_le (m : Nat) : ∀ (n : Nat) (x : Nat) (l : List Nat), l.length = n → cl m (x :: l) ≤ fact (n + 1)
  | 0, x, l, h => by
    rw [List.length_eq_zero_iff.mp h, cl_cons]
    split
    · exact Nat.le_refl 1
    · exact Nat.zero_le _
  | n + 1, x, l, h => by
    rw [cl_cons]
    have h1 : (if x ≤ m then cl m l else 0) ≤ fact (n + 1) := by
      split
      · cases l with
        | nil => simp at h
        | cons y l => exact cl_le m n y l (by simpa using h)
      · exact Nat.zero_le _
    have h2 : ((picks l).map fun p => cl m ((x + p.1) :: p.2)).sum ≤ (picks l).length * fact (n + 1) := by
      have : ∀ q ∈ picks l, cl m ((x + q.1) :: q.2) ≤ fact (n + 1) := fun q hq => cl_le m n _ _ (by have := picks_len hq; omega)
      generalize picks l = ps at this
      induction ps with
      | nil => simp
      | cons a ps ih =>
        simp only [List.map_cons, List.sum_cons, List.length_cons, Nat.add_mul, Nat.one_mul]
        have a1 := this a List.mem_cons_self
        have a2 := ih fun q hq => this q (List.mem_cons_of_mem _ hq)
        omega
    have h3 : ∀ l : List Nat, (picks l).length = l.length := fun l => by
      induction l with
      | nil => rfl
      | cons y l ih => simp [picks, ih]
    rw [h3, h] at h2
    show _ ≤ (n + 1 + 1) * fact (n + 1)
    rw [Nat.add_mul (n + 1) 1, Nat.one_mul]
    omega
theorem cl_le' (m : Nat) (l : List Nat) : cl m l ≤ fact l.length := by
  cases l with
  | nil => exact Nat.le_refl _
  | cons x l => exact cl_le m _ x l rfl
theorem hm_le (n m : Nat) : hm n m ≤ fact n := by
  rw [hm_is]
  have := cl_le' m (List.replicate n 1)
  rwa [List.length_replicate] at this
/-! ### some of a list, by the figures of a number -/
def tk : List Nat → Nat → List Nat
  | [], _ => []
  | y :: l, q => (if q % 2 = 1 then [y] else []) ++ tk l (q / 2)
def lf : List Nat → Nat → List Nat
  | [], _ => []
  | y :: l, q => (if q % 2 = 0 then [y] else []) ++ lf l (q / 2)
theorem tk_snoc (y : Nat) : ∀ (l : List Nat) (q : Nat), tk (l ++ [y]) q = tk l q ++ (if q / 2 ^ l.length % 2 = 1 then [y] else [])
  | [], q => by simp [tk]
  | a :: l, q => by
    show (if q % 2 = 1 then [a] else []) ++ tk (l ++ [y]) (q / 2) = ((if q % 2 = 1 then [a] else []) ++ tk l (q / 2)) ++ _
    rw [tk_snoc y l, List.append_assoc, Nat.div_div_eq_div_mul, List.length_cons, Nat.pow_succ, Nat.mul_comm 2]
theorem lf_snoc (y : Nat) : ∀ (l : List Nat) (q : Nat), lf (l ++ [y]) q = lf l q ++ (if q / 2 ^ l.length % 2 = 0 then [y] else [])
  | [], q => by simp [lf]
  | a :: l, q => by
    show (if q % 2 = 0 then [a] else []) ++ lf (l ++ [y]) (q / 2) = ((if q % 2 = 0 then [a] else []) ++ lf l (q / 2)) ++ _
    rw [lf_snoc y l, List.append_assoc, Nat.div_div_eq_div_mul, List.length_cons, Nat.pow_succ, Nat.mul_comm 2]
theorem tk_lf : ∀ (l : List Nat) (q : Nat), (tk l q).length + (lf l q).length = l.length
  | [], _ => rfl
  | a :: l, q => by
    have := tk_lf l (q / 2)
    unfold tk lf
    rw [List.length_append, List.length_append, List.length_cons]
    rcases Nat.mod_two_eq_zero_or_one q with h | h <;> simp [h] <;> omega
theorem tk_mem : ∀ {l : List Nat} {q x : Nat}, x ∈ tk l q → x ∈ l
  | [], q, x, h => by cases h
  | a :: l, q, x, h => by
    unfold tk at h
    rcases List.mem_append.mp h with h | h
    · split at h
      · simp at h; subst h; exact List.mem_cons_self
      · cases h
    · exact List.mem_cons_of_mem _ (tk_mem h)
theorem lf_mem : ∀ {l : List Nat} {q x : Nat}, x ∈ lf l q → x ∈ l
  | [], q, x, h => by cases h
  | a :: l, q, x, h => by
    unfold lf at h
    rcases List.mem_append.mp h with h | h
    · split at h
      · simp at h; subst h; exact List.mem_cons_self
      · cases h
    · exact List.mem_cons_of_mem _ (lf_mem h)
theorem range_two (h : Nat → Nat) : ∀ N, ((List.range (2 * N)).map h).sum = ((List.range N).map fun q => h (2 * q) + h (2 * q + 1)).sum
  | 0 => rfl
  | N + 1 => by
    rw [show 2 * (N + 1) = 2 * N + 1 + 1 by omega, List.range_succ, List.range_succ, List.range_succ]
    simp only [List.map_append, List.sum_append, range_two h N, List.map_cons, List.map_nil, List.sum_cons, List.sum_nil]
    omega
theorem spl_bits : ∀ (l : List Nat) (f : List Nat → List Nat → Nat), spl l f = ((List.range (2 ^ l.length)).map fun q => f (tk l q) (lf l q)).sum
  | [], f => by simp [spl, tk, lf]
  | y :: l, f => by
    show spl l _ + spl l _ = _
    rw [← spl_add, spl_bits l, List.length_cons, Nat.pow_succ, Nat.mul_comm _ 2, range_two]
    apply map_sum_congr
    intro q _
    have e1 : 2 * q / 2 = q := by omega
    have e2 : (2 * q + 1) / 2 = q := by omega
    have e3 : 2 * q % 2 = 0 := by omega
    have e4 : (2 * q + 1) % 2 = 1 := by omega
    simp [tk, lf, e1, e2, e3, e4]
end Sb

namespace Sb

/-! ### all lists of so many boxes -/
def insAt (l : List Nat) (n i : Nat) : List Nat := l.take i ++ [n] ++ l.drop i
def ordersOf : Nat → List (List Nat)
  | 0 => [[]]
  | n + 1 => (ordersOf n).flatMap fun l => (List.range (n + 1)).map fun i => insAt l n i
theorem orders_perm : ∀ {n : Nat} {l : List Nat}, l ∈ ordersOf n → l.Perm (List.range n)
  | 0, l, h => by
    have : l = [] := by simpa [ordersOf] using h
    subst this
    exact .refl _
  | n + 1, l, h => by
    unfold ordersOf at h
    obtain ⟨q, hq, h⟩ := List.mem_flatMap.mp h
    obtain ⟨i, _, rfl⟩ := List.mem_map.mp h
    exact insert_perm (orders_perm hq)
theorem orders_good {n : Nat} {l : List Nat} (h : l ∈ ordersOf n) : Good l ∧ l.length = n := by
  have p := orders_perm h
  exact ⟨good_of_perm p, by rw [p.length_eq, List.length_range]⟩
theorem ordersOf_len : ∀ n, (ordersOf n).length = fact n
  | 0 => rfl
  | n + 1 => by
    unfold ordersOf
    rw [List.length_flatMap]
    have : ((ordersOf n).map fun l => ((List.range (n + 1)).map fun i => insAt l n i).length) = List.replicate (fact n) (n + 1) := by
      rw [← ordersOf_len n, ← List.map_const']
      apply List.map_congr_left
      intro l _
      rw [List.length_map, List.length_range]
    rw [this, List.sum_replicate_nat, Nat.mul_comm]
    rfl
/-- the winning ones -/
def due (n m : Nat) : List (List Nat) := (ordersOf n).filter fun b => (longOf b m).isEmpty
theorem due_len : ∀ n, n < 6 → ∀ m, m < 6 → 1 ≤ m → m ≤ n → (due n m).length = hm n m := by decide +kernel
theorem hm63 : hm 6 3 = 276 := by decide +kernel
end Sb

/-! ### the layer's words turned to lists of whole numbers -/
namespace Sb
open PySem PySem.Spec PyProof.Rows L2

/-- numbers from 0 on as values -/
abbrev iv (ns : List Nat) : List V := ns.map fun (n : Nat) => V.int (n : Int)
theorem iv_eq (ns : List Nat) : iv ns = (ns.map fun (n : Nat) => (n : Int)).map V.int := by
  rw [List.map_map]; rfl
theorem iv_len (ns : List Nat) : (iv ns).length = ns.length := List.length_map ..
theorem iv_get? (ns : List Nat) (i : Nat) : (iv ns)[i]? = (ns[i]?).map fun (n : Nat) => V.int (n : Int) := List.getElem?_map ..
theorem iv_at {ns : List Nat} {i x : Nat} (h : ns[i]? = some x) : atI (iv ns) (i : Int) = some (.int (x : Int)) := atI_nat (by rw [iv_get?, h]; rfl)
theorem iv_snoc (ns : List Nat) (x : Nat) : iv ns ++ [.int (x : Int)] = iv (ns ++ [x]) := by
  show _ = List.map _ _
  rw [List.map_append]; rfl
theorem iv_last {ns : List Nat} {x : Nat} (h : ns[ns.length - 1]? = some x) : atI (iv ns) (-1) = some (.int (x : Int)) := by
  have hne : ns ≠ [] := fun e => by subst e; simp at h
  have e : ns = ns.dropLast ++ [x] := by
    have := List.dropLast_concat_getLast hne
    rw [List.getLast_eq_getElem] at this
    have hl : ns.length - 1 < ns.length := by have := List.length_pos_iff.mpr hne; omega
    rw [List.getElem?_eq_getElem hl] at h
    rw [Option.some.inj h] at this
    exact this.symm
  rw [e, ← iv_snoc]
  exact atI_last _ _
theorem iv_inj {a b : List Nat} (h : iv a = iv b) : a = b := by
  induction a generalizing b with
  | nil => cases b with
    | nil => rfl
    | cons y b => cases h
  | cons x a ih => cases b with
    | nil => cases h
    | cons y b =>
      have h' : V.int (x : Int) :: iv a = V.int (y : Int) :: iv b := h
      injection h' with h1 h2
      injection h1 with h3
      rw [ih h2]
      have : x = y := by omega
      rw [this]
theorem flat_iv (ns : List Nat) : (iv ns).all flatV = true := by
  rw [List.all_eq_true]
  intro v hv
  obtain ⟨n, _, rfl⟩ := List.mem_map.mp hv
  rfl
theorem inV_iv (ns : List Nat) (x : Nat) : inV (.int (x : Int)) (iv ns) = decide (x ∈ ns) := by
  unfold inV
  rw [Bool.eq_iff_iff, List.any_eq_true, decide_eq_true_iff]
  constructor
  · rintro ⟨v, hv, e⟩
    obtain ⟨n, hn, rfl⟩ := List.mem_map.mp hv
    have : (n : Int) = (x : Int) := by
      have e' : eqV (V.int (n : Int)) (V.int (x : Int)) = true := e
      simpa [eqV] using e'
    have : n = x := by omega
    subst this; exact hn
  · intro h
    refine ⟨_, List.mem_map.mpr ⟨x, h, rfl⟩, ?_⟩
    simp [eqV]

/-! ### heaps -/
theorem same_upd {H : Hp} {p : Addr} {o : HO} (h : H p = none) : Same H (upd H p o) := fun b x e => by
  rw [upd_ne (ne_of_none e h)]
  exact e
/-- an object that H does not know is changed behind H -/
theorem same_mut {H H' : Hp} {p : Addr} {o : HO} (e : Same H H') (h : H p = none) : Same H (upd H' p o) := fun a u ha => by
  rw [upd_ne (ne_of_none ha h)]
  exact e a u ha
theorem same_t {K : PySem.W.Frag} {H H' : Hp} {a : Addr} {xs : List V} (e : Same H H') (h : SqT K H a xs) : SqT K H' a xs := by
  rcases h with (h | ⟨o, h⟩) | h
  · exact .inl (.inl (e _ _ h))
  · exact .inl (.inr ⟨o, e _ _ h⟩)
  · exact .inr h
theorem sz {n : Nat} (h : n ≤ 100000) : n ≤ sizeLine := Nat.le_trans h (by decide)
theorem szl {n : Nat} (h : n < 100000) : n < sizeLine := Nat.lt_of_lt_of_le h (by decide)

/-! ### lists of whole numbers compared -/
abbrev dI (ns : List Int) : PyData := .list (ns.map PyData.int)
abbrev dN (ns : List Nat) : PyData := .list (ns.map fun (n : Nat) => PyData.int (n : Int))
theorem canI : ∀ ns : List Int, PyData.canLayAll0 (ns.map PyData.int) = true
  | [] => by unfold PyData.canLayAll0; rfl
  | n :: r => by
    rw [List.map_cons]
    unfold PyData.canLayAll0
    rw [canI r]; unfold PyData.canLay0; rfl
theorem depI : ∀ ns : List Int, PyData.depthAll (ns.map PyData.int) ≤ 1
  | [] => by unfold PyData.depthAll; exact Nat.zero_le _
  | n :: r => by
    rw [List.map_cons]
    unfold PyData.depthAll
    have h := depI r
    have e : PyData.depth (.int n) ≤ 1 := by
      unfold PyData.depth
      omega
    exact Nat.max_le.mpr ⟨e, h⟩
theorem shapedI (ns : List Int) : SeqAt.shaped (dI ns) = true := by
  unfold SeqAt.shaped
  rw [Bool.and_eq_true_iff]
  refine ⟨by unfold PyData.canLay0; exact canI ns, decide_eq_true ?_⟩
  have h := depI ns
  unfold PyData.depth
  omega
theorem eqvI : ∀ a b : List Int, PyData.eqvAll (a.map PyData.int) (b.map PyData.int) = decide (a = b)
  | [], [] => by unfold PyData.eqvAll; rfl
  | [], y :: b => by rw [List.map_cons]; unfold PyData.eqvAll; rfl
  | x :: a, [] => by rw [List.map_cons]; unfold PyData.eqvAll; rfl
  | x :: a, y :: b => by
    rw [List.map_cons, List.map_cons]
    unfold PyData.eqvAll
    rw [eqvI a b]
    unfold PyData.eqv
    rw [Bool.eq_iff_iff]
    simp
theorem dpI {K : PySem.W.Frag} {H : Hp} : ∀ ns : List Int, DpAll K H (ns.map V.int) (ns.map PyData.int)
  | [] => .nil
  | n :: r => .cons (.int n) (dpI r)
theorem dp_ints {K : PySem.W.Frag} {H : Hp} {a : Addr} {ns : List Int} (h : SqL K H a (ns.map V.int)) : Dp K H (.ref a) (dI ns) := .lst h (dpI ns)
theorem dp_iv {K : PySem.W.Frag} {H : Hp} {a : Addr} {ns : List Nat} (h : SqL K H a (iv ns)) : Dp K H (.ref a) (dN ns) := by
  have h' : SqL K H a ((ns.map fun (n : Nat) => (n : Int)).map V.int) := by rw [← iv_eq]; exact h
  have r := dp_ints h'
  unfold dI at r
  rw [List.map_map] at r
  exact r
theorem dN_eq (ns : List Nat) : dN ns = dI (ns.map fun (n : Nat) => (n : Int)) := by
  unfold dN dI; rw [List.map_map]; rfl
theorem shapedN (ns : List Nat) : SeqAt.shaped (dN ns) = true := by rw [dN_eq]; exact shapedI _
theorem cast_inj {a b : List Nat} : a.map (fun (n : Nat) => (n : Int)) = b.map (fun (n : Nat) => (n : Int)) ↔ a = b := by
  constructor
  · intro h
    refine iv_inj ?_
    rw [iv_eq, iv_eq, h]
  · intro h; rw [h]
theorem eqvN (a b : List Nat) : PyData.eqv (dN a) (dN b) = decide (a = b) := by
  rw [dN_eq, dN_eq]
  show PyData.eqv (PyData.list _) (PyData.list _) = _
  unfold PyData.eqv
  rw [eqvI, Bool.eq_iff_iff, decide_eq_true_iff, decide_eq_true_iff]
  exact cast_inj
/-- two lists of numbers, unlike each other or not -/
theorem ne_iv {K : PySem.W.Frag} {H : Hp} {a b : Addr} {x y : List Nat} {Q : VK} (ha : SqL K H a (iv x)) (hb : SqL K H b (iv y)) (q : Q (.bl (!decide (x = y))) H) : rNeD K (.ref a) (.ref b) H Q :=
  ⟨dN x, dN y, dp_iv ha, dp_iv hb, shapedN x, shapedN y, by rw [eqvN]; exact q⟩
theorem eq_iv {K : PySem.W.Frag} {H : Hp} {a b : Addr} {x y : List Nat} {Q : VK} (ha : SqL K H a (iv x)) (hb : SqL K H b (iv y)) (q : Q (.bl (decide (x = y))) H) : rEqD K (.ref a) (.ref b) H Q :=
  ⟨dN x, dN y, dp_iv ha, dp_iv hb, shapedN x, shapedN y, by rw [eqvN]; exact q⟩

/-! ### a def of the text, and its call -/
structure Df (K : PySem.W.Frag) (mg : Str → Option Value) (x : Str) (st : Stmt) (ps : List Str) where
  f : Addr
  fd : FuncData
  F : Fun K x x st f fd
  g : mg x = some (.ref f)
  b : Binds K fd ps []
section
variable {X : Cx} {x : Str} {st : Stmt} {ps : List Str} {k : Nat} {sp : Sp} {e : Expr} {es : List Expr} {t : TA} {p pos : Pos}
theorem pe_df (D : Df X.K X.mg x st ps) (G : FnOk X.prog X.w X.K X.mg X.base CX0 k D.f D.fd ps sp) (hr : Room k X.A) (ha : PA X (e :: es) t) (hg : Gl X x := by rfl) (hdb : (x == ("__debug__" : Str)) = false := by decide)
    (he : starEach (e :: es) X.env = (false, eval e X.env) :: starEach es X.env := by rfl) (hpl : (backTo pos (starEach es X.env)).any (·.1) = false := by rfl) :
    PE X (.Call (.Name x p) (e :: es) [] pos) (tCall sp [] E0 t) := pe_call G hr hg D.g D.F.kp D.b .nil pass0 ha hdb he hpl
/-- len and an item, in a comprehension's block: the written part told -/
def rLenK (K : PySem.W.Frag) : List V → Hp → VK → Prop := fun xs H Q => ∃ p ys, xs = [.ref p] ∧ (SqL K H p ys ∨ SqT K H p ys) ∧ Q (.int ys.length) H
theorem call_lenK {K : PySem.W.Frag} (h : X.K = K) : CallR X (.builtin "len") (rLenK K) := by subst h; exact call_len_seq
theorem ix_listK {K : PySem.W.Frag} (h : X.K = K) : IxR X (rIxL K) := by subst h; exact ix_list
/-- a product of whole numbers, told by the model's own line -/
theorem op_mulX : OpR X (binaryOp .Mult) (rI (fun i j => IntMulOk i j) fun i j => .int (i * j)) := opI fun _ _ _ _ _ _ _ hc q => mul_int q hc
end
end Sb
/-! ### the text -/
namespace Sb
open PySem PySem.Spec PyProof.Rows L2
def topS (i : Nat) : Stmt := PySem.Challenge.pw_slipboxes_k04_whole_counted.main.body.getD i (.Pass ⟨0, 0, 0, 0⟩)
abbrev s_is_whole : Stmt := topS 4
abbrev s_check_count : Stmt := topS 6
abbrev s_check_counts : Stmt := topS 9
abbrev s_how_many : Stmt := topS 10
abbrev s_law_cell_at : Stmt := topS 12
abbrev s_law_draw : Stmt := topS 13
abbrev s_law_value : Stmt := topS 14
abbrev s_law_whole : Stmt := topS 15
abbrev s_law_ring : Stmt := topS 16
abbrev s_law_longest : Stmt := topS 17
abbrev s_law_orders : Stmt := topS 18
abbrev s_law_product : Stmt := topS 19
abbrev s_law_pairs : Stmt := topS 20
abbrev s_law : Stmt := topS 21
structure Tx (K : PySem.W.Frag) (mg : Str → Option Value) where
  is_whole : Df K mg "is_whole" s_is_whole ["thing"]
  check_count : Df K mg "check_count" s_check_count ["boxes", "most"]
  check_counts : Df K mg "check_counts" s_check_counts ["boxes", "most", "greatest"]
  how_many : Df K mg "how_many" s_how_many ["boxes", "most"]
  law_cell_at : Df K mg "_law_cell_at" s_law_cell_at ["_law_script", "_law_k"]
  law_draw : Df K mg "_law_draw" s_law_draw ["_law_cell", "_law_k", "_law_many"]
  law_value : Df K mg "_law_value" s_law_value ["_law_cell", "_law_turn"]
  law_whole : Df K mg "_law_whole" s_law_whole ["_law_number"]
  law_ring : Df K mg "_law_ring" s_law_ring ["_law_boxes", "_law_hand"]
  law_longest : Df K mg "_law_longest" s_law_longest ["_law_boxes"]
  law_orders : Df K mg "_law_orders" s_law_orders ["_law_many"]
  law_product : Df K mg "_law_product" s_law_product ["_law_many"]
  law_pairs : Df K mg "_law_pairs" s_law_pairs ["_law_many"]
  t_GREATEST : Tok
  c_GREATEST : mg "GREATEST" = some (.int 100 t_GREATEST)
  m_len : mg "len" = none
  m_range : mg "range" = none
  m_isinstance : mg "isinstance" = none
  m_int : mg "int" = none
  m_bool : mg "bool" = none
  m_max : mg "max" = none
  m_min : mg "min" = none
end Sb

namespace Sb
open PySem PySem.Spec PyProof.Rows L2
section
variable {P : Program} {w : World} {K : PySem.W.Frag} {mg : Str → Option Value} {base : Heap}
/-! ### is_whole -/
/-- a thing of the type ty (no list of one's own): a number, or not -/
def spWhole (K : PySem.W.Frag) : Sp := fun vs H Q _ => ∃ (v : V) (ty : String) (b1 b2 : Bool), vs = [v] ∧ TyX K H v (.type ty) ∧ kitB ty "int" = some b1 ∧ kitB ty "bool" = some b2 ∧ Q (.bl (b1 && !b2)) H
abbrev n_is_whole : List Str := ["thing"]
theorem sc_is_whole : FnScope n_is_whole ["thing"] (defScope s_is_whole) := ⟨rfl, rfl, rfl, by decide +kernel, rfl, by decide +kernel, by decide +kernel⟩
theorem ok_is_whole (T : Tx K mg) : FnOk P w K mg base CX0 1 T.is_whole.f T.is_whole.fd ["thing"] (spWhole K) := by
  refine T.is_whole.F.ok sc_is_whole (fun vs H Q E h => ?_) (fun cdv A outer s H vs Q E hr h => ?_)
  · obtain ⟨v, ty, b1, b2, rfl, _⟩ := h
    rfl
  · obtain ⟨v, ty, b1, b2, rfl, hty, h1, h2, q⟩ := h
    refine ⟨_, (pss_one (ps_ret (pe_and (pe_callB call_isi (by rfl) T.m_isinstance (by decide +kernel) (pa_cons (pv 0) (pa_cons (pe_bltn (v := .ty "int") (by rfl) T.m_int (by decide +kernel) rfl) pa_nil))) (pe_one (pe_not (pe_callB call_isi (by rfl) T.m_isinstance (by decide +kernel) (pa_cons (pv 0) (pa_cons (pe_bltn (v := .ty "bool") (by rfl) T.m_bool (by decide +kernel) rfl) pa_nil)))))))), ?_⟩
    refine ⟨v, rfl, v, .ty "int", .type ty, .type "int", b1, rfl, .ty "int", hty, kit_ty h1, b1, rfl, ite2 (fun e => ?_) (fun e => ?_)⟩
    · refine ⟨v, rfl, v, .ty "bool", .type ty, .type "bool", b2, rfl, .ty "bool", hty, kit_ty h2, b2, rfl, ?_⟩
      rw [e] at q
      exact q
    · have e' : b1 = false := by cases b1 with
        | true => exact absurd rfl e
        | false => rfl
      rw [e'] at q
      exact q
theorem whole_int {H : Hp} {Q : VK} {E : XK} {i : Int} (q : Q (.bl true) H) : spWhole K [.int i] H Q E :=
  ⟨.int i, "int", true, false, rfl, .base (.int i), by decide +kernel, by decide +kernel, q⟩
end
end Sb
namespace Sb
open PySem PySem.Spec PyProof.Rows L2
section
variable {P : Program} {w : World} {K : PySem.W.Frag} {mg : Str → Option Value} {base : Heap}
/-! ### a new list of numbers; the boxes that a hand opens -/
/-- a new list at p: the numbers r -/
def NewL (H : Hp) (Q : VK) (r : List Nat) : Prop := ∀ (H' : Hp) (p : Addr), Same H H' → H p = none → H' p = some (.lst (iv r)) → Q (.ref p) H'
def spRing (K : PySem.W.Frag) : Sp := fun vs H Q _ => ∃ (a : Addr) (ns : List Nat) (h : Nat), vs = [.ref a, .int (h : Int)] ∧ SqL K H a (iv ns) ∧ Good ns ∧ h < ns.length ∧ ns.length ≤ 1000 ∧ NewL H Q (ringOf ns h)
end
end Sb
namespace Sb
open PySem PySem.Spec PyProof.Rows L2
section
variable {P : Program} {w : World} {K : PySem.W.Frag} {mg : Str → Option Value} {base : Heap}
/-! ### check_count: a count is let through -/
def spCount : Sp := fun vs H Q _ => ∃ (n m : Int), vs = [.int n, .int m] ∧ 1 ≤ m ∧ m ≤ n ∧ Q .non H
abbrev n_check_count : List Str := ["boxes", "most"]
theorem sc_check_count : FnScope n_check_count ["boxes", "most"] (defScope s_check_count) := ⟨rfl, rfl, rfl, by decide +kernel, rfl, by decide +kernel, by decide +kernel⟩
theorem ok_check_count (T : Tx K mg) : FnOk P w K mg base CX0 2 T.check_count.f T.check_count.fd ["boxes", "most"] spCount := by
  refine T.check_count.F.ok sc_check_count (fun vs H Q E h => ?_) (fun cdv A outer s H vs Q E hr h => ?_)
  · obtain ⟨n, m, rfl, _⟩ := h
    rfl
  · obtain ⟨n, m, rfl, h1, h2, q⟩ := h
    refine ⟨_, (pss_one (ps_if (PW.pt (pw_or (pt_not (pt_val (pe_df T.is_whole (ok_is_whole T) (hr.mono (by decide)) (pa_cons (pv 1) pa_nil)))) (pw_or1 (pt_not (pt_chain op_le op_le pe_int (pv 1) (pv 0))))))
      (pss_one ps_never)
      pss_nil)), ?_⟩
    refine ⟨_, rfl, .int m, "int", true, false, rfl, .base (.int _), by decide +kernel, by decide +kernel, _, rfl, iteF ?_⟩
    refine ⟨_, rfl, 1, m, rfl, rfl, _, rfl, ?_⟩
    rw [decide_eq_true h1]
    refine iteT ⟨_, rfl, m, n, rfl, rfl, _, rfl, ?_⟩
    rw [decide_eq_true h2]
    exact iteF q
end
end Sb
namespace Sb
open PySem PySem.Spec PyProof.Rows L2
abbrev bts (c : Int) : Nat := Builtin.Int.intBits c
theorem bts_small {c : Int} (h1 : -(2 ^ 64) < c) (h2 : c < 2 ^ 64) : bts c ≤ 64 := PySem.intBits_le_64 h1 h2
/-- the script's numbers -/
def Cells (cs : List Int) : Prop := ∀ z ∈ cs, bts z ≤ 1048576
section
variable {P : Program} {w : World} {K : PySem.W.Frag} {mg : Str → Option Value} {base : Heap}
/-! ### _law_cell_at -/
def spCellAt (K : PySem.W.Frag) : Sp := fun vs H Q _ => ∃ (a : Addr) (cs : List Int) (k : Nat), vs = [.ref a, .int (k : Int)] ∧ SqL K H a (cs.map V.int) ∧ Cells cs ∧ ∀ c, bts c ≤ 1048576 → Q (.int c) H
abbrev n_law_cell_at : List Str := ["_law_script", "_law_k"]
theorem sc_law_cell_at : FnScope n_law_cell_at ["_law_script", "_law_k"] (defScope s_law_cell_at) := ⟨rfl, rfl, rfl, by decide +kernel, rfl, by decide +kernel, by decide +kernel⟩
theorem ok_law_cell_at (T : Tx K mg) : FnOk P w K mg base CX0 1 T.law_cell_at.f T.law_cell_at.fd ["_law_script", "_law_k"] (spCellAt K) := by
  refine T.law_cell_at.F.ok sc_law_cell_at (fun vs H Q E h => ?_) (fun cdv A outer s H vs Q E hr h => ?_)
  · obtain ⟨a, cs, k, rfl, _⟩ := h
    rfl
  · obtain ⟨a, cs, k, rfl, hS, hc, q⟩ := h
    refine ⟨_, (pss_cons (ps_if (pt_cmpR op_lt (pv 1) (pe_callB call_len_seq (by rfl) T.m_len (by decide +kernel) (pa_cons (pv 0) pa_nil)) (nomark _))
      (pss_one (ps_ret (pe_ix ix_list (pv 0) (pv 1) (fun _ _ => rfl))))
      pss_nil)
    (pss_one (ps_ret pe_int))), ?_⟩
    refine ⟨_, rfl, .ref a, rfl, a, _, rfl, .inl hS, _, _, rfl, rfl, _, rfl, ite2 (fun e => ?_) (fun e => ?_)⟩
    · have hk : k < cs.length := by
        have := of_decide_eq_true e
        rw [List.length_map] at this
        omega
      refine ⟨.ref a, rfl, _, rfl, a, _, _, .int cs[k], rfl, rfl, hS, atI_nat ?_, q _ (hc _ (List.getElem_mem hk))⟩
      rw [List.getElem?_map, List.getElem?_eq_getElem hk]; rfl
    · exact q 0 (by decide)
/-! ### _law_draw -/
def prs : List Int := [1000003, 1000033, 1000037, 1000039, 1000081, 1000099, 1000117, 1000121, 1000133, 1000151, 1000159, 1000171, 1000183, 1000187, 1000193, 1000199]
def spDraw : Sp := fun vs H Q _ => ∃ (c m : Int) (k : Nat), vs = [.int c, .int (k : Int), .int m] ∧ k ≤ 1000000 ∧ 0 < m ∧ ∀ H' d, Same H H' → 0 ≤ d → d < m → Q (.int d) H'
abbrev n_law_draw : List Str := ["_law_cell", "_law_k", "_law_many", "_law_primes"]
theorem sc_law_draw : FnScope n_law_draw ["_law_cell", "_law_k", "_law_many"] (defScope s_law_draw) := ⟨rfl, rfl, rfl, by decide +kernel, rfl, by decide +kernel, by decide +kernel⟩
theorem ok_law_draw (T : Tx K mg) : FnOk P w K mg base CX0 1 T.law_draw.f T.law_draw.fd ["_law_cell", "_law_k", "_law_many"] spDraw := by
  refine T.law_draw.F.ok sc_law_draw (fun vs H Q E h => ?_) (fun cdv A outer s H vs Q E hr h => ?_)
  · obtain ⟨c, m, k, rfl, _⟩ := h
    rfl
  · obtain ⟨c, m, k, rfl, hk, hm, q⟩ := h
    refine ⟨_, (pss_cons (ps_set (i := 3) sc_law_draw.nd rfl (.inl rfl) (pe_tup (pa_cons pe_int (pa_cons pe_int (pa_cons pe_int (pa_cons pe_int (pa_cons pe_int (pa_cons pe_int (pa_cons pe_int (pa_cons pe_int (pa_cons pe_int (pa_cons pe_int (pa_cons pe_int (pa_cons pe_int (pa_cons pe_int (pa_cons pe_int (pa_cons pe_int (pa_cons pe_int pa_nil))))))))))))))))))
    (pss_one (ps_ret (pe_op op_mod (pe_op op_mod (pe_op op_add (pe_op op_mulX (pv 0) pe_int) (pe_op op_mulX (pv 1) pe_int)) (pe_ix ix_tup (pv 3) (pe_op op_mod (pv 1) pe_int) (fun _ _ => rfl))) (pv 2))))), ?_⟩
    refine ⟨sz (by decide), fun t nt => ?_⟩
    have hj : ((k : Int) % 16).toNat < prs.length := by
      show _ < 16
      omega
    have ej : ((((k : Int) % 16).toNat : Nat) : Int) = (k : Int) % 16 := by omega
    have ha : atI (prs.map V.int) ((k : Int) % 16) = some (.int prs[((k : Int) % 16).toNat]) := at_of ej.symm (by
      rw [List.getElem?_map, List.getElem?_eq_getElem hj]; rfl)
    have hp : 0 < prs[((k : Int) % 16).toNat] := by
      have all : ∀ p ∈ prs, (0 : Int) < p := by decide
      exact all _ (List.getElem_mem hj)
    refine ⟨_, rfl, c, 48271, rfl, rfl, .of_right (bts_small (by decide) (by decide)), _, rfl, k, 69621, rfl, rfl, .of_right (bts_small (by decide) (by decide)), _, _, rfl, rfl, ?_⟩
    refine ⟨.ref t, rfl, _, rfl, k, 16, rfl, rfl, (by show (0 : Int) < 16; decide), t, prs.map V.int, _, _, rfl, rfl, .of upd_same, ha, ?_⟩
    refine ⟨_, _, rfl, rfl, hp, _, rfl, _, m, rfl, rfl, hm, ?_⟩
    exact q _ _ (same_upd nt) (Int.emod_nonneg _ (by omega)) (Int.emod_lt_of_pos _ hm)
/-! ### _law_value: some number from 0 on -/
def spValue : Sp := fun vs H Q _ => ∃ (c : Int) (t : Nat), vs = [.int c, .int (t : Int)] ∧ bts c ≤ 1048576 ∧ t ≤ 100000 ∧ ∀ H' v, Same H H' → 0 ≤ v → Q (.int v) H'
abbrev n_law_value : List Str := ["_law_cell", "_law_turn", "_law_mixed"]
theorem sc_law_value : FnScope n_law_value ["_law_cell", "_law_turn"] (defScope s_law_value) := ⟨rfl, rfl, rfl, by decide +kernel, rfl, by decide +kernel, by decide +kernel⟩
theorem ok_law_value (T : Tx K mg) : FnOk P w K mg base CX0 2 T.law_value.f T.law_value.fd ["_law_cell", "_law_turn"] spValue := by
  refine T.law_value.F.ok sc_law_value (fun vs H Q E h => ?_) (fun cdv A outer s H vs Q E hr h => ?_)
  · obtain ⟨c, t, rfl, _⟩ := h
    rfl
  · obtain ⟨c, t, rfl, hc, ht, q⟩ := h
    refine ⟨_, (pss_cons (ps_if (pt_cmpR op_ge (pv 0) (pe_op op_pow pe_int pe_int) (nomark _))
      (pss_one (ps_ret (pe_op op_shr (pe_op op_sub (pv 0) (pe_op op_pow pe_int pe_int)) (pe_op op_mulX pe_int (pv 1)))))
      pss_nil)
    (pss_cons (ps_set (i := 2) sc_law_value.nd rfl (.inl rfl) (pe_df T.law_draw (ok_law_draw T) (hr.mono (by decide)) (pa_cons (pe_op op_mulX (pe_op op_add (pv 0) (pe_op op_mulX pe_int (pv 1))) (pe_op op_add (pe_op op_add (pv 0) (pe_op op_mulX pe_int (pv 1))) pe_int)) (pa_cons (pe_op op_add (pe_op op_mod (pv 1) pe_int) pe_int) (pa_cons pe_int pa_nil)))))
    (pss_one (ps_ret (pe_op op_add (pe_op op_mulX (pv 2) pe_int) (pe_df T.law_draw (ok_law_draw T) (hr.mono (by decide)) (pa_cons (pe_op op_add (pe_op op_mulX (pe_op op_add (pv 0) (pe_op op_mulX pe_int (pv 1))) (pe_op op_add (pv 0) pe_int)) (pe_op op_mulX pe_int (pv 1))) (pa_cons (pe_op op_add (pe_op op_mod (pv 1) pe_int) pe_int) (pa_cons pe_int pa_nil))))))))), ?_⟩
    refine ⟨_, rfl, 10, 18, rfl, rfl, ⟨by decide, by decide, by decide⟩, c, _, rfl, rfl, _, rfl, ite2 (fun e => ?_) (fun e => ?_)⟩
    · have hc1 : (10 : Int) ^ (18 : Int).toNat ≤ c := of_decide_eq_true e
      refine ⟨_, rfl, 10, 18, rfl, rfl, ⟨by decide, by decide, by decide⟩, c, _, rfl, rfl, _, rfl, 3, t, rfl, rfl, .of_left (bts_small (by decide) (by decide)), _, _, rfl, rfl, by omega, ?_⟩
      refine q _ _ (Same.refl H) (Int.ediv_nonneg (by omega) ?_)
      exact Int.le_of_lt (Int.pow_pos (by decide))
    · have bt : ∀ x : Int, 0 ≤ x → x ≤ 100000000 → bts (c + x) ≤ 1048577 := fun x h1 h2 =>
        PySem.intBits_add_le (m := 1048576) (n := 64) hc (bts_small (by omega) (by omega))
      have t64 : IntMulOk (977 : Int) (t : Int) := .of_left (bts_small (by decide) (by decide))
      have t31 : IntMulOk (31 : Int) (t : Int) := .of_left (bts_small (by decide) (by decide))
      refine ⟨_, rfl, _, rfl, 977, t, rfl, rfl, t64, c, _, rfl, rfl, _, rfl, _, rfl, 31, t, rfl, rfl, t31, c, _, rfl, rfl, _, 5, rfl, rfl, _, _, rfl, rfl, ?_, ?_⟩
      · refine PySem.IntMulOk.of_le (m := 1048577) (n := 1048577) (bt _ (by omega) (by omega)) ?_ (by decide)
        rw [Int.add_assoc]
        exact bt _ (by omega) (by omega)
      refine ⟨_, rfl, t, 9, rfl, rfl, (by show (0 : Int) < 9; decide), _, 1, rfl, rfl, ?_⟩
      refine ⟨_, 999983, ((t : Int) % 9 + 1).toNat, by rw [Int.toNat_of_nonneg (by omega)]; rfl, by omega, by decide, fun H1 d s1 h0 h1 => ?_⟩
      refine ⟨_, rfl, d, 1000003, rfl, rfl, .of_right (bts_small (by decide) (by decide)), _, rfl, _, rfl, 31, t, rfl, rfl, t31, c, _, rfl, rfl, _, rfl, c, 7, rfl, rfl, _, _, rfl, rfl, ?_, ?_⟩
      · exact PySem.IntMulOk.of_le (m := 1048577) (n := 1048577) (bt _ (by omega) (by omega)) (bt _ (by omega) (by omega)) (by decide)
      refine ⟨_, rfl, 977, t, rfl, rfl, t64, _, _, rfl, rfl, _, rfl, t, 7, rfl, rfl, (by show (0 : Int) < 7; decide), _, 2, rfl, rfl, ?_⟩
      refine ⟨_, 1000003, ((t : Int) % 7 + 2).toNat, by rw [Int.toNat_of_nonneg (by omega)]; rfl, by omega, by decide, fun H2 d2 s2 h2 h3 => ?_⟩
      exact ⟨_, _, rfl, rfl, q _ _ (s1.trans s2) (by omega)⟩
end
end Sb
namespace Sb
open PySem PySem.Spec PyProof.Rows L2
section
variable {P : Program} {w : World} {K : PySem.W.Frag} {mg : Str → Option Value} {base : Heap}
/-! ### _law_ring: the same list by other steps -/
abbrev n_law_ring : List Str := ["_law_boxes", "_law_hand", "_law_found", "_law_here"]
theorem sc_law_ring : FnScope n_law_ring ["_law_boxes", "_law_hand"] (defScope s_law_ring) := ⟨rfl, rfl, rfl, by decide +kernel, rfl, by decide +kernel, by decide +kernel⟩
theorem ok_law_ring (T : Tx K mg) : FnOk P w K mg base CX0 1 T.law_ring.f T.law_ring.fd ["_law_boxes", "_law_hand"] (spRing K) := by
  refine T.law_ring.F.ok sc_law_ring (fun vs H Q E h => ?_) (fun cdv A outer s H vs Q E hr h => ?_)
  · obtain ⟨a, ns, h, rfl, _⟩ := h
    rfl
  · obtain ⟨a, ns, h, rfl, hS, g, hh, hlen, q⟩ := h
    refine ⟨_, (pss_cons (ps_par (i := 2) (j := 3) (by rfl) sc_law_ring.nd rfl rfl (by decide) rfl rfl (pa_cons (pe_lst pa_nil) (pa_cons (pv 1) pa_nil)) (by rfl))
    (pss_cons (ps_while PassesOwn.never (pt_cmpR op_notIn_seq (pv 3) (pv 2) (by rfl))
      (pss_cons (ps_expr (pe_bm PySem.F.plainAttrs_list PySem.F.slot_list_append PySem.F.type_list_append mt_append (pv 2) (pa_cons (pv 3) pa_nil)))
      (pss_one (ps_set (i := 3) sc_law_ring.nd rfl (.inl rfl) (pe_ix ix_list (pv 0) (pv 3) (fun _ _ => rfl))))))
    (pss_one (ps_ret (pv 2))))), ?_⟩
    refine ⟨Nat.zero_le _, fun o no => ⟨.int h, rfl, _, _, rfl, ?_⟩⟩
    refine ⟨fun m σ H3 => ∃ (r : List Nat) (y : Nat), σ = [some (.ref a), some (.int (h : Int)), some (.ref o), some (.int (y : Int))] ∧ Same H H3 ∧ H3 o = some (.lst (iv r)) ∧ ((r = [] ∧ y = h) ∨ (Chain ns h r ∧ ∃ x, r[r.length - 1]? = some x ∧ y = nxt ns x)) ∧ m = ns.length - r.length,
      ⟨_, [], h, rfl, same_upd no, upd_same, .inl ⟨rfl, rfl⟩, rfl⟩, fun m σ H3 hW => ?_⟩
    obtain ⟨r, y, rfl, sm, eo, c, rfl⟩ := hW
    have hA : SqL K H3 a (iv ns) := sm.seq hS
    have hO : SqL K H3 o (iv r) := .of eo
    refine ⟨_, rfl, _, rfl, o, _, rfl, .inl hO, rfl, flat_iv _, _, rfl, ?_⟩
    rw [if_pos rfl, inV_iv]
    have hy : y < ns.length := by
      rcases c with ⟨_, rfl⟩ | ⟨c, x, hx, rfl⟩
      · exact hh
      · exact g.nxt_lt (c.lt x (List.mem_of_getElem? hx))
    have hrl : r.length ≤ ns.length := by
      rcases c with ⟨rfl, _⟩ | ⟨c, _⟩
      · exact Nat.zero_le _
      · exact c.len_le
    by_cases hm : y ∈ r
    · rw [decide_eq_true hm]
      refine iteF ?_
      rcases c with ⟨rfl, _⟩ | ⟨c, x, hx, rfl⟩
      · cases hm
      · have R : IsRing ns h r := ⟨c, fun z hz => by rw [hx] at hz; cases hz; exact c.slip g hx hm⟩
        rw [R.eq g] at eo
        exact ⟨.ref o, rfl, q H3 o sm no eo⟩
    · rw [decide_eq_false hm]
      refine iteT ?_
      have c' : Chain ns h (r ++ [y]) := by
        rcases c with ⟨rfl, rfl⟩ | ⟨c, x, hx, rfl⟩
        · exact Chain.one hh
        · exact c.more hx hm hy
      refine ⟨fun σ' H' => ∃ y', σ' = [some (.ref a), some (.int (h : Int)), some (.ref o), some (.int ((y' : Nat) : Int))] ∧ Same H H' ∧ H' o = some (.lst (iv (r ++ [y]))) ∧ y' = nxt ns y, fun σ' H' hN => ?_, ?_⟩
      · obtain ⟨y', e1, e2, e3, e4⟩ := hN
        have hl := c'.len_le
        rw [List.length_append] at hl
        have hl2 : r.length + 1 ≤ ns.length := hl
        exact ⟨ns.length - (r ++ [y]).length, by rw [List.length_append]; show _ - (r.length + 1) < _; omega, r ++ [y], y', e1, e2, e3, .inr ⟨c', y, by simp, e4⟩, rfl⟩
      · refine ⟨.ref o, rfl, .inl ⟨rfl, _, hO⟩, _, rfl, o, _, _, rfl, rfl, eo, ?_, ?_⟩
        · rw [iv_len]
          exact szl (by omega)
        · rw [iv_snoc]
          have sm2 : Same H (upd H3 o (.lst (iv (r ++ [y])))) := same_mut sm no
          exact ⟨_, rfl, _, rfl, a, _, _, _, rfl, rfl, sm2.seq hS, iv_at (nxt_get? hy), _, rfl, sm2, upd_same, rfl⟩
end
end Sb
namespace Sb
open PySem PySem.Spec PyProof.Rows L2
section
variable {P : Program} {w : World} {K : PySem.W.Frag} {mg : Str → Option Value} {base : Heap}
/-! ### _law_longest -/
def spLongest (K : PySem.W.Frag) : Sp := fun vs H Q _ => ∃ (a : Addr) (ns : List Nat), vs = [.ref a] ∧ SqL K H a (iv ns) ∧ Good ns ∧ 1 ≤ ns.length ∧ ns.length ≤ 100 ∧ ∀ (H' : Hp) (n : Nat), Same H H' → 1 ≤ n → n ≤ ns.length → (∀ m : Nat, n ≤ m ↔ Short ns m) → Q (.int (n : Int)) H'
abbrev n_law_longest : List Str := ["_law_boxes", "_law_hand"]
theorem sc_law_longest : FnScope n_law_longest ["_law_boxes"] (defScope s_law_longest) := ⟨rfl, rfl, rfl, by decide +kernel, rfl, by decide +kernel, by decide +kernel⟩
theorem ok_law_longest (T : Tx K mg) : FnOk P w K mg base CX0 2 T.law_longest.f T.law_longest.fd ["_law_boxes"] (spLongest K) := by
  refine T.law_longest.F.ok sc_law_longest (fun vs H Q E h => ?_) (fun cdv A outer s H vs Q E hr h => ?_)
  · obtain ⟨a, ns, rfl, _⟩ := h
    rfl
  · obtain ⟨a, ns, rfl, hA, g, h1, hn, q⟩ := h
    refine ⟨_, (pss_one (ps_ret (pe_callB (cr_max rfl) (by rfl) T.m_max (by decide +kernel) (pa_cons (pe_lc (own := [("_law_hand", 1)]) (g := gName 1) rfl sc_law_longest.nd (pi_range1 (by rfl) T.m_range (pa_cons (pe_callB call_len_seq (by rfl) T.m_len (by decide +kernel) (pa_cons (pv 0) pa_nil)) pa_nil)) (blkOk_by (own := [("_law_hand", 1)]) (N := n_law_longest) (sc := defScope s_law_longest) (by decide +kernel)) (fun _ _ _ _ _ => (pg_name (i := 1) sc_law_longest.nd rfl (.inl rfl))) (fun _ _ _ _ _ => pts_nil) (fun _ _ _ _ _ => (pe_callB (call_lenK (K := K) rfl) (by rfl) T.m_len PySem.boot_len (pa_cons (pe_df T.law_ring (ok_law_ring T) (hr.mono (by decide)) (pa_cons (pv 0) (pa_cons (pv 1) pa_nil))) pa_nil)))) pa_nil)))), ?_⟩
    refine ⟨_, rfl, a, _, rfl, .inl hA, _, rfl, by rw [iv_len]; omega, by rw [iv_len]; omega, fun D nD => ?_⟩
    rw [iv_len, Int.toNat_natCast]
    refine lc_range (lo := 0) (n := ns.length) (fun i H3 => Same H H3 ∧ H3 D = some (.lst (((List.range i).map fun h => (((ringOf ns h).length : Nat) : Int)).map V.int))) ⟨same_upd nD, upd_same⟩ (fun i H3 hi h => ?_) (fun H3 h => ?_)
    · obtain ⟨sm, eD⟩ := h
      refine ⟨rfl, _, rfl, _, rfl, a, ns, i, by rw [Int.zero_add]; rfl, sm.seq hA, g, hi, by omega, fun H4 p s4 np ep => ?_⟩
      refine ⟨p, _, rfl, .inl (.of ep), _, s4 _ _ eD, ?_, same_mut (sm.trans s4) nD, ?_⟩
      · rw [List.length_map, List.length_map, List.length_range]
        exact szl (by omega)
      · rw [upd_same, List.range_succ, List.map_append, List.map_append, iv_len]
        rfl
    · obtain ⟨sm, eD⟩ := h
      refine ⟨D, _, rfl, .of eD, by rw [List.length_map, List.length_range]; omega, fun mx hm hle => ?_⟩
      obtain ⟨h, hh, rfl⟩ := List.mem_map.mp hm
      have hhl := List.mem_range.mp hh
      refine q H3 _ sm (ringOf_pos g hhl) (ringOf_len g hhl) fun m => ?_
      constructor
      · intro hm2 k hk
        have := hle _ (List.mem_map.mpr ⟨k, List.mem_range.mpr hk, rfl⟩)
        omega
      · intro sh
        exact sh h hhl
end
end Sb
namespace Sb
open PySem PySem.Spec PyProof.Rows L2
section
variable {P : Program} {w : World} {K : PySem.W.Frag} {mg : Str → Option Value} {base : Heap}
/-! ### _law_whole -/
abbrev n_law_whole : List Str := ["_law_number"]
theorem sc_law_whole : FnScope n_law_whole ["_law_number"] (defScope s_law_whole) := ⟨rfl, rfl, rfl, by decide +kernel, rfl, by decide +kernel, by decide +kernel⟩
theorem ok_law_whole (T : Tx K mg) : FnOk P w K mg base CX0 1 T.law_whole.f T.law_whole.fd ["_law_number"] (spWhole K) := by
  refine T.law_whole.F.ok sc_law_whole (fun vs H Q E h => ?_) (fun cdv A outer s H vs Q E hr h => ?_)
  · obtain ⟨v, ty, b1, b2, rfl, _⟩ := h
    rfl
  · obtain ⟨v, ty, b1, b2, rfl, hty, h1, h2, q⟩ := h
    refine ⟨_, (pss_one (ps_ret (pe_and (pe_callB call_isi (by rfl) T.m_isinstance (by decide +kernel) (pa_cons (pv 0) (pa_cons (pe_bltn (v := .ty "int") (by rfl) T.m_int (by decide +kernel) rfl) pa_nil))) (pe_one (pe_not (pe_callB call_isi (by rfl) T.m_isinstance (by decide +kernel) (pa_cons (pv 0) (pa_cons (pe_bltn (v := .ty "bool") (by rfl) T.m_bool (by decide +kernel) rfl) pa_nil)))))))), ?_⟩
    refine ⟨v, rfl, v, .ty "int", .type ty, .type "int", b1, rfl, .ty "int", hty, kit_ty h1, b1, rfl, ite2 (fun e => ?_) (fun e => ?_)⟩
    · refine ⟨v, rfl, v, .ty "bool", .type ty, .type "bool", b2, rfl, .ty "bool", hty, kit_ty h2, b2, rfl, ?_⟩
      rw [e] at q
      exact q
    · have e' : b1 = false := by cases b1 with
        | true => exact absurd rfl e
        | false => rfl
      rw [e'] at q
      exact q
end
end Sb
namespace Sb
open PySem PySem.Spec PyProof.Rows L2
/-- the rows of a list of lists, at ps: new ones -/
structure Rows (H H' : Hp) (ps : List Addr) (rs : List (List Nat)) : Prop where
  len : ps.length = rs.length
  row : ∀ (i : Nat) (q : Addr) (r : List Nat), ps[i]? = some q → rs[i]? = some r → H' q = some (.lst (iv r))
  new : ∀ q ∈ ps, H q = none
  nd : ps.Nodup
theorem Rows.nil {H H' : Hp} : Rows H H' [] [] := ⟨rfl, fun i q r h _ => by simp at h, fun q h => by simp at h, List.nodup_nil⟩
theorem Rows.at {H H' : Hp} {ps : List Addr} {rs : List (List Nat)} (R : Rows H H' ps rs) {q : Addr} (h : q ∈ ps) : ∃ r, r ∈ rs ∧ H' q = some (.lst (iv r)) := by
  obtain ⟨i, hi, e⟩ := List.mem_iff_getElem.mp h
  have hr : i < rs.length := by rw [← R.len]; exact hi
  exact ⟨rs[i], List.getElem_mem hr, R.row i q _ (by rw [List.getElem?_eq_getElem hi, e]) (List.getElem?_eq_getElem hr)⟩
theorem Rows.moved {H H' H'' : Hp} {ps : List Addr} {rs : List (List Nat)} (R : Rows H H' ps rs) (k : ∀ q ∈ ps, H'' q = H' q) : Rows H H'' ps rs :=
  ⟨R.len, fun i q r h1 h2 => by rw [k q (List.mem_of_getElem? h1)]; exact R.row i q r h1 h2, R.new, R.nd⟩
theorem Rows.same {H H' H'' : Hp} {ps : List Addr} {rs : List (List Nat)} (R : Rows H H' ps rs) (s : Same H' H'') : Rows H H'' ps rs :=
  ⟨R.len, fun i q r h1 h2 => s _ _ (R.row i q r h1 h2), R.new, R.nd⟩
theorem Rows.upd {H H' : Hp} {ps : List Addr} {rs : List (List Nat)} {o : Addr} {x : HO} (R : Rows H H' ps rs) (h : o ∉ ps) : Rows H (upd H' o x) ps rs :=
  R.moved fun q hq => upd_ne fun e => h (e ▸ hq)
theorem Rows.snoc {H H' : Hp} {ps : List Addr} {rs : List (List Nat)} {p : Addr} {r : List Nat} (R : Rows H H' ps rs) (hp : H' p = some (.lst (iv r))) (hn : H p = none) (hd : p ∉ ps) : Rows H H' (ps ++ [p]) (rs ++ [r]) where
  len := by rw [List.length_append, List.length_append, R.len]; rfl
  row := fun i q r' h1 h2 => by
    by_cases hi : i < ps.length
    · rw [List.getElem?_append_left hi] at h1
      rw [List.getElem?_append_left (by rw [← R.len]; exact hi)] at h2
      exact R.row i q r' h1 h2
    · rw [List.getElem?_append_right (by omega)] at h1
      rw [List.getElem?_append_right (by rw [← R.len]; omega)] at h2
      have e : i - ps.length = 0 := by
        obtain ⟨h, _⟩ := List.getElem?_eq_some_iff.mp h1
        simpa using h
      rw [← R.len, e] at h2
      rw [e] at h1
      cases h1
      cases h2
      exact hp
  new := fun q hq => by
    rcases List.mem_append.mp hq with z | z
    · exact R.new q z
    · simp at z; subst z; exact hn
  nd := by
    rw [List.nodup_append]
    refine ⟨R.nd, by simp, fun a ha b hb => ?_⟩
    simp at hb
    subst hb
    intro e; subst e; exact hd ha
/-- a new list of new lists: the rows rs -/
def NewLL (H : Hp) (Q : VK) (rs : List (List Nat)) : Prop := ∀ (H' : Hp) (p : Addr) (ps : List Addr), Same H H' → H p = none → H' p = some (.lst (ps.map V.ref)) → Rows H H' ps rs → p ∉ ps → Q (.ref p) H'
theorem refs_last {ps : List Addr} {p : Addr} : atI ((ps ++ [p]).map V.ref) (-1) = some (.ref p) := by
  rw [List.map_append]; exact atI_last _ _
end Sb
namespace Sb
open PySem PySem.Spec PyProof.Rows L2
/-! ### lists of lists compared -/
abbrev dNN (rs : List (List Nat)) : PyData := .list (rs.map dN)
theorem canN (ns : List Nat) : PyData.canLay0 (dN ns) = true := by
  rw [dN_eq]; unfold PyData.canLay0; exact canI _
theorem canNN : ∀ rs : List (List Nat), PyData.canLayAll0 (rs.map dN) = true
  | [] => by unfold PyData.canLayAll0; rfl
  | n :: r => by
    rw [List.map_cons]
    unfold PyData.canLayAll0
    rw [canNN r, canN n]; rfl
theorem depN (ns : List Nat) : PyData.depth (dN ns) ≤ 3 := by
  rw [dN_eq]
  have h := depI (ns.map fun (n : Nat) => (n : Int))
  unfold PyData.depth
  omega
theorem depNN : ∀ rs : List (List Nat), PyData.depthAll (rs.map dN) ≤ 3
  | [] => by unfold PyData.depthAll; exact Nat.zero_le _
  | n :: r => by
    rw [List.map_cons]
    unfold PyData.depthAll
    exact Nat.max_le.mpr ⟨depN n, depNN r⟩
theorem shapedNN (rs : List (List Nat)) : SeqAt.shaped (dNN rs) = true := by
  unfold SeqAt.shaped
  rw [Bool.and_eq_true_iff]
  refine ⟨by unfold PyData.canLay0; exact canNN rs, decide_eq_true ?_⟩
  have h := depNN rs
  unfold PyData.depth
  omega
theorem eqvNN : ∀ a b : List (List Nat), PyData.eqvAll (a.map dN) (b.map dN) = decide (a = b)
  | [], [] => by unfold PyData.eqvAll; rfl
  | [], y :: b => by rw [List.map_cons]; unfold PyData.eqvAll; rfl
  | x :: a, [] => by rw [List.map_cons]; unfold PyData.eqvAll; rfl
  | x :: a, y :: b => by
    rw [List.map_cons, List.map_cons]
    unfold PyData.eqvAll
    rw [eqvNN a b, eqvN, Bool.eq_iff_iff]
    simp
/-- a list of lists of numbers that is read -/
structure Sees (K : PySem.W.Frag) (H : Hp) (p : Addr) (rs : List (List Nat)) : Prop where
  ex : ∃ ps : List Addr, SqL K H p (ps.map V.ref) ∧ ps.length = rs.length ∧ ∀ (i : Nat) (q : Addr) (r : List Nat), ps[i]? = some q → rs[i]? = some r → SqL K H q (iv r)
theorem dpAll_rows {K : PySem.W.Frag} {H : Hp} : ∀ (ps : List Addr) (rs : List (List Nat)), ps.length = rs.length → (∀ (i : Nat) (q : Addr) (r : List Nat), ps[i]? = some q → rs[i]? = some r → SqL K H q (iv r)) → DpAll K H (ps.map V.ref) (rs.map dN)
  | [], [], _, _ => .nil
  | [], _ :: _, h, _ => by simp at h
  | _ :: _, [], h, _ => by simp at h
  | p :: ps, r :: rs, h, f => .cons (dp_iv (f 0 p r rfl rfl)) (dpAll_rows ps rs (by simpa using h) fun i q r' h1 h2 => f (i + 1) q r' (by simpa using h1) (by simpa using h2))
theorem Sees.dp {K : PySem.W.Frag} {H : Hp} {p : Addr} {rs : List (List Nat)} (S : Sees K H p rs) : Dp K H (.ref p) (dNN rs) := by
  obtain ⟨ps, h1, h2, h3⟩ := S.ex
  exact .lst h1 (dpAll_rows ps rs h2 h3)
theorem Rows.sees {K : PySem.W.Frag} {H H' : Hp} {p : Addr} {ps : List Addr} {rs : List (List Nat)} (R : Rows H H' ps rs) (hp : H' p = some (.lst (ps.map V.ref))) : Sees K H' p rs :=
  ⟨ps, .of hp, R.len, fun i q r h1 h2 => .of (R.row i q r h1 h2)⟩
theorem Sees.same {K : PySem.W.Frag} {H H' : Hp} {p : Addr} {rs : List (List Nat)} (S : Sees K H p rs) (s : Same H H') : Sees K H' p rs := by
  obtain ⟨ps, h1, h2, h3⟩ := S.ex
  exact ⟨ps, s.seq h1, h2, fun i q r a b => s.seq (h3 i q r a b)⟩
theorem ne_rows {K : PySem.W.Frag} {H : Hp} {a b : Addr} {x y : List (List Nat)} {Q : VK} (ha : Sees K H a x) (hb : Sees K H b y) (q : Q (.bl (!decide (x = y))) H) : rNeD K (.ref a) (.ref b) H Q :=
  ⟨dNN x, dNN y, ha.dp, hb.dp, shapedNN x, shapedNN y, by unfold PyData.eqv; rw [eqvNN]; exact q⟩
theorem eq_rows {K : PySem.W.Frag} {H : Hp} {a b : Addr} {x y : List (List Nat)} {Q : VK} (ha : Sees K H a x) (hb : Sees K H b y) (q : Q (.bl (decide (x = y))) H) : rEqD K (.ref a) (.ref b) H Q :=
  ⟨dNN x, dNN y, ha.dp, hb.dp, shapedNN x, shapedNN y, by unfold PyData.eqv; rw [eqvNN]; exact q⟩
/-! ### slices of any list -/
theorem cut_to (xs : List V) (k : Nat) : cutV xs none (some (k : Int)) = xs.take k := by
  unfold cutV
  rw [HT.sIx_nat, HT.sIx_none, List.drop_zero, Nat.sub_zero]
  by_cases h : k ≤ xs.length
  · rw [Nat.min_eq_left h]
  · rw [Nat.min_eq_right (by omega), List.take_of_length_le (Nat.le_refl _), List.take_of_length_le (by omega)]
theorem cut_m1 (xs : List V) (x : V) : cutV (xs ++ [x]) none (some (-1)) = xs := by
  unfold cutV
  rw [HT.sIx_none, List.drop_zero, Nat.sub_zero]
  have e : HT.sIx (xs ++ [x]).length (xs ++ [x]).length (some (-1)) = xs.length := by
    unfold HT.sIx
    dsimp only
    rw [if_pos (by decide), List.length_append]
    show ((-1 : Int) + ((xs.length + 1 : Nat) : Int)).toNat = xs.length
    omega
  rw [e, List.take_left' rfl]
theorem Good.rev {ns : List Nat} (g : Good ns) : Good ns.reverse := ⟨by
  rw [List.length_reverse]
  exact (List.reverse_perm ns).trans g.perm⟩
theorem rev_iv (ns : List Nat) : (iv ns).reverse = iv ns.reverse := (List.map_reverse ..).symm
end Sb
namespace Sb
open PySem PySem.Spec PyProof.Rows L2
theorem min_of_if (m n : Nat) : (if ((n : Nat) : Int) < (m : Int) then ((n : Nat) : Int) else (m : Int)) = ((min m n : Nat) : Int) := by
  by_cases h : ((n : Nat) : Int) < (m : Int)
  · rw [if_pos h, Nat.min_eq_right (by omega)]
  · rw [if_neg h, Nat.min_eq_left (by omega)]
theorem bits_of {n b : Nat} (h : n < 2 ^ b) : Builtin.Int.intBits ((n : Nat) : Int) ≤ b := PySem.intBits_le_iff.mpr (by rw [Int.natAbs_natCast]; exact h)
theorem bits_small {n : Nat} (h : n ≤ 100000) : Builtin.Int.intBits ((n : Nat) : Int) ≤ 64 := bits_of (Nat.lt_of_le_of_lt h (by decide))
theorem fact_bits {n : Nat} (h : n ≤ 100) : fact n < 2 ^ 600 := Nat.lt_of_le_of_lt (fact_le n 100 h) (by decide +kernel)
theorem gw_bits (T : List Nat) {k : Nat} (hk : k ≤ 100) : ∀ s, s ≤ 100 → (gw T k s).2 < 2 ^ 700 := by
  have h : ∀ s, (gw T k s).2 ≤ 100 ^ s := fun s => by
    induction s with
    | zero => exact Nat.le_refl _
    | succ s ih =>
      rw [gw_succ, Nat.pow_succ]
      exact Nat.mul_le_mul ih (by omega)
  intro s hs
  refine Nat.lt_of_le_of_lt (h s) (Nat.lt_of_le_of_lt (Nat.pow_le_pow_right (by decide) hs) ?_)
  decide +kernel
theorem hm_bits {n m : Nat} (h : n ≤ 100) : hm n m < 2 ^ 600 := Nat.lt_of_le_of_lt (hm_le n m) (fact_bits h)
theorem tbl_get? {n m i : Nat} (h : i ≤ n) : (tbl m n)[i]? = some (hm i m) := by
  have hl : i < (tbl m n).length := by rw [tbl_len]; omega
  rw [← tbl_get h, List.getD_eq_getElem?_getD, List.getElem?_eq_getElem hl]
  rfl
section
variable {P : Program} {w : World} {K : PySem.W.Frag} {mg : Str → Option Value} {base : Heap}
/-! ### check_counts: counts are let through -/
def spCounts : Sp := fun vs H Q _ => ∃ (n m g : Int), vs = [.int n, .int m, .int g] ∧ 1 ≤ n ∧ n ≤ g ∧ 1 ≤ m ∧ m ≤ n ∧ Q .non H
abbrev n_check_counts : List Str := ["boxes", "most", "greatest"]
theorem sc_check_counts : FnScope n_check_counts ["boxes", "most", "greatest"] (defScope s_check_counts) := ⟨rfl, rfl, rfl, by decide +kernel, rfl, by decide +kernel, by decide +kernel⟩
theorem ok_check_counts (T : Tx K mg) : FnOk P w K mg base CX0 3 T.check_counts.f T.check_counts.fd ["boxes", "most", "greatest"] spCounts := by
  refine T.check_counts.F.ok sc_check_counts (fun vs H Q E h => ?_) (fun cdv A outer s H vs Q E hr h => ?_)
  · obtain ⟨n, m, g, rfl, _⟩ := h
    rfl
  · obtain ⟨n, m, g, rfl, h1, h2, h3, h4, q⟩ := h
    refine ⟨_, (pss_cons (ps_if (PW.pt (pw_or (pt_not (pt_val (pe_df T.is_whole (ok_is_whole T) (hr.mono (by decide)) (pa_cons (pv 0) pa_nil)))) (pw_or1 (pt_not (pt_chain op_le op_le pe_int (pv 0) (pv 2))))))
      (pss_one ps_never)
      pss_nil)
    (pss_one (ps_expr (pe_df T.check_count (ok_check_count T) (hr.mono (by decide)) (pa_cons (pv 0) (pa_cons (pv 1) pa_nil)))))), ?_⟩
    refine ⟨_, rfl, .int n, "int", true, false, rfl, .base (.int _), by decide +kernel, by decide +kernel, _, rfl, iteF ?_⟩
    refine ⟨_, rfl, 1, n, rfl, rfl, _, rfl, ?_⟩
    rw [decide_eq_true h1]
    refine iteT ⟨_, rfl, n, g, rfl, rfl, _, rfl, ?_⟩
    rw [decide_eq_true h2]
    exact iteF ⟨_, rfl, _, rfl, n, m, rfl, h3, h4, q⟩
/-! ### how_many -/
def spMany : Sp := fun vs H Q _ => ∃ (n m : Nat), vs = [.int (n : Int), .int (m : Int)] ∧ 1 ≤ n ∧ n ≤ 100 ∧ 1 ≤ m ∧ m ≤ n ∧ ∀ H', Same H H' → Q (.int ((hm n m : Nat) : Int)) H'
abbrev n_how_many : List Str := ["boxes", "most", "found", "many", "gain", "ways", "size"]
theorem sc_how_many : FnScope n_how_many ["boxes", "most"] (defScope s_how_many) := ⟨rfl, rfl, rfl, by decide +kernel, rfl, by decide +kernel, by decide +kernel⟩
theorem ok_how_many (T : Tx K mg) : FnOk P w K mg base CX0 4 T.how_many.f T.how_many.fd ["boxes", "most"] spMany := by
  refine T.how_many.F.ok sc_how_many (fun vs H Q E h => ?_) (fun cdv A outer s H vs Q E hr h => ?_)
  · obtain ⟨n, m, rfl, _⟩ := h
    rfl
  · obtain ⟨n, m, rfl, h1, h2, h3, h4, q⟩ := h
    refine ⟨_, (pss_cons (ps_expr (pe_df T.check_counts (ok_check_counts T) (hr.mono (by decide)) (pa_cons (pv 0) (pa_cons (pv 1) (pa_cons (pe_glob (v := .int 100) rfl T.c_GREATEST ⟨_, rfl⟩) pa_nil)))))
    (pss_cons (ps_set (i := 2) sc_how_many.nd rfl (.inl rfl) (pe_lst (pa_cons pe_int pa_nil)))
    (pss_cons (ps_for PassesOwn.never rfl (pi_range2 (by rfl) T.m_range (pa_cons pe_int (pa_cons (pe_op op_add (pv 0) pe_int) pa_nil))) (pg_name (i := 3) sc_how_many.nd rfl (.inl rfl))
      (pss_cons (ps_asg (pe_tup (pa_cons pe_int (pa_cons pe_int pa_nil))) (pg_tup rfl (pgs_cons (pg_name (i := 4) sc_how_many.nd rfl (.inl rfl)) (pgs_cons (pg_name (i := 5) sc_how_many.nd rfl (.inl rfl)) pgs_nil))))
      (pss_cons (ps_for PassesOwn.never rfl (pi_range2 (by rfl) T.m_range (pa_cons pe_int (pa_cons (pe_op op_add (pe_callB (call_min2 rfl) (by rfl) T.m_min (by decide +kernel) (pa_cons (pv 1) (pa_cons (pv 3) pa_nil))) pe_int) pa_nil))) (pg_name (i := 6) sc_how_many.nd rfl (.inl rfl))
        (pss_cons (ps_set (i := 4) sc_how_many.nd rfl (.inl rfl) (pe_op op_add (pv 4) (pe_op op_mulX (pv 5) (pe_ix ix_list (pv 2) (pe_op op_sub (pv 3) (pv 6)) (fun _ _ => rfl)))))
        (pss_one (ps_set (i := 5) sc_how_many.nd rfl (.inl rfl) (pe_op op_mulX (pv 5) (pe_op op_sub (pv 3) (pv 6)))))))
      (pss_one (ps_expr (pe_bm PySem.F.plainAttrs_list PySem.F.slot_list_append PySem.F.type_list_append mt_append (pv 2) (pa_cons (pv 4) pa_nil)))))))
    (pss_one (ps_ret (pe_ix ix_list (pv 2) (pv 0) (fun _ _ => rfl))))))), ?_⟩
    refine ⟨_, rfl, _, rfl, n, m, 100, rfl, by omega, by omega, by omega, by omega, ?_⟩
    refine ⟨sz (by simp), fun o no => ?_⟩
    refine ⟨_, rfl, n, 1, rfl, rfl, 1, _, rfl, ⟨by omega, by omega, by omega, by omega⟩, ?_⟩
    rw [show ((n : Int) + 1 - 1).toNat = n by omega]
    refine for_range (lo := 1) (n := n) (fun i σ H3 => ∃ w3 w4 w5 w6, σ = [some (.int (n : Int)), some (.int (m : Int)), some (.ref o), w3, w4, w5, w6] ∧ Same H H3 ∧ H3 o = some (.lst (iv (tbl m i)))) ⟨_, _, _, _, rfl, same_upd no, upd_same⟩ (fun i σ H3 hi hP => ?_) (fun σ H3 hP => ?_)
    · obtain ⟨w3, w4, w5, w6, rfl, sm, eo⟩ := hP
      refine ⟨sz (by simp), fun t nt => ⟨t, _, rfl, .of upd_same, rfl, _, _, rfl, _, _, rfl, rfl, ?_⟩⟩
      have st := same_upd (o := .tup [V.int 0, V.int 1]) nt
      refine ⟨_, rfl, _, rfl, _, _, rfl, _, 1, rfl, rfl, 1, _, rfl, ?_⟩
      rw [show (1 : Int) + ((i : Nat) : Int) = ((i + 1 : Nat) : Int) by omega, min_of_if]
      refine ⟨⟨by omega, by omega, by omega, by omega⟩, ?_⟩
      rw [show (((min m (i + 1) : Nat) : Int) + 1 - 1).toNat = min m (i + 1) by omega]
      refine for_range (lo := 1) (n := min m (i + 1)) (fun s σ H4 => ∃ w6, σ = [some (.int (n : Int)), some (.int (m : Int)), some (.ref o), some (.int ((i + 1 : Nat) : Int)), some (.int (((gw (tbl m i) (i + 1) s).1 : Nat) : Int)), some (.int (((gw (tbl m i) (i + 1) s).2 : Nat) : Int)), w6] ∧ Same H H4 ∧ H4 o = some (.lst (iv (tbl m i)))) ⟨_, rfl, sm.trans st, st _ _ eo⟩ (fun s σ H4 hs hP => ?_) (fun σ H4 hP => ?_)
      · obtain ⟨w6, rfl, s4, eo4⟩ := hP
        have ea : atI (iv (tbl m i)) (((i + 1 : Nat) : Int) - (1 + ((s : Nat) : Int))) = some (.int ((hm (i - s) m : Nat) : Int)) := by
          rw [show ((i + 1 : Nat) : Int) - (1 + ((s : Nat) : Int)) = ((i - s : Nat) : Int) by omega]
          exact iv_at (tbl_get? (by omega))
        have b1 : Builtin.Int.intBits (((gw (tbl m i) (i + 1) s).2 : Nat) : Int) ≤ 700 := bits_of (gw_bits _ (by omega) s (by omega))
        have b2 : Builtin.Int.intBits ((hm (i - s) m : Nat) : Int) ≤ 600 := bits_of (hm_bits (by omega))
        have b3 : Builtin.Int.intBits (((i + 1 : Nat) : Int) - (1 + ((s : Nat) : Int))) ≤ 64 := by
          rw [show ((i + 1 : Nat) : Int) - (1 + ((s : Nat) : Int)) = ((i - s : Nat) : Int) by omega]
          exact bits_small (by omega)
        refine ⟨_, rfl, _, rfl, _, rfl, _, rfl, _, rfl, _, _, rfl, rfl, o, _, _, _, rfl, rfl, .of eo4, ea, _, _, rfl, rfl, PySem.IntMulOk.of_le b1 b2 (by decide), _, _, rfl, rfl, ?_⟩
        refine ⟨_, rfl, _, rfl, _, rfl, _, _, rfl, rfl, _, _, rfl, rfl, .of_right b3, ?_⟩
        refine ⟨some (.int (1 + ((s : Nat) : Int))), ?_, s4, eo4⟩
        have e1 : (((gw (tbl m i) (i + 1) (s + 1)).1 : Nat) : Int) = (((gw (tbl m i) (i + 1) s).1 : Nat) : Int) + (((gw (tbl m i) (i + 1) s).2 : Nat) : Int) * ((hm (i - s) m : Nat) : Int) := by
          rw [gw_succ, tbl_get (show i + 1 - (s + 1) ≤ i by omega), show i + 1 - (s + 1) = i - s by omega]
          push_cast
          rfl
        have e2 : (((gw (tbl m i) (i + 1) (s + 1)).2 : Nat) : Int) = (((gw (tbl m i) (i + 1) s).2 : Nat) : Int) * (((i + 1 : Nat) : Int) - (1 + ((s : Nat) : Int))) := by
          rw [gw_succ, show ((i + 1 : Nat) : Int) - (1 + ((s : Nat) : Int)) = ((i + 1 - (s + 1) : Nat) : Int) by omega, ← Int.natCast_mul]
        rw [e1, e2]
        rfl
      · obtain ⟨w6, rfl, s4, eo4⟩ := hP
        refine ⟨_, rfl, .inl ⟨rfl, _, .of eo4⟩, _, rfl, o, _, _, rfl, rfl, eo4, ?_, ?_⟩
        · rw [iv_len, tbl_len]
          exact szl (by omega)
        · refine ⟨_, _, _, _, rfl, same_mut s4 no, ?_⟩
          rw [upd_same, iv_snoc, tbl_succ]
    · obtain ⟨w3, w4, w5, w6, rfl, sm, eo⟩ := hP
      exact ⟨_, rfl, _, rfl, o, _, _, _, rfl, rfl, .of eo, iv_at (tbl_get? (Nat.le_refl _)), q _ sm⟩
end
end Sb
namespace Sb
open PySem PySem.Spec PyProof.Rows L2
theorem cut_since (xs : List V) (k : Nat) : cutV xs (some (k : Int)) none = xs.drop k := by
  unfold cutV
  rw [HT.sIx_nat, HT.sIx_none]
  by_cases h : k ≤ xs.length
  · rw [Nat.min_eq_left h, List.take_of_length_le (by rw [List.length_drop]; exact Nat.le_refl _)]
  · rw [Nat.min_eq_right (by omega), List.drop_of_length_le (Nat.le_refl _), List.drop_of_length_le (by omega)]
    simp
theorem ins_iv (l : List Nat) (n i : Nat) : (iv l).take i ++ [V.int (n : Int)] ++ (iv l).drop i = iv (insAt l n i) := by
  show _ = List.map _ (l.take i ++ [n] ++ l.drop i)
  rw [List.map_append, List.map_append, List.map_take, List.map_drop]
  rfl
/-- the lists made so far: of the first j all, of the next one t -/
def ordPart (L : List (List Nat)) (n j : Nat) (l : List Nat) (t : Nat) : List (List Nat) := ((L.take j).flatMap fun l => (List.range (n + 1)).map fun i => insAt l n i) ++ (List.range t).map fun i => insAt l n i
theorem ordPart_succ (L : List (List Nat)) (n j : Nat) (l : List Nat) (t : Nat) : ordPart L n j l (t + 1) = ordPart L n j l t ++ [insAt l n t] := by
  unfold ordPart
  rw [List.range_succ (n := t), List.map_append, List.append_assoc]
  rfl
theorem ordPart_next {L : List (List Nat)} {n j : Nat} {l : List Nat} (h : L[j]? = some l) (l' : List Nat) : ordPart L n j l (n + 1) = ordPart L n (j + 1) l' 0 := by
  unfold ordPart
  rw [List.take_add_one, h, List.flatMap_append]
  simp
theorem ordPart_len {L : List (List Nat)} {n j t : Nat} {l : List Nat} (hl : L.length ≤ 200) (hn : n ≤ 10) (ht : t ≤ 11) : (ordPart L n j l t).length ≤ 10000 := by
  unfold ordPart
  rw [List.length_append, List.length_flatMap, List.length_map, List.length_range]
  have : ((L.take j).map fun l => ((List.range (n + 1)).map fun i => insAt l n i).length) = List.replicate (L.take j).length (n + 1) := by
    rw [← List.map_const']
    apply List.map_congr_left
    intro l _
    rw [List.length_map, List.length_range]
  rw [this, List.sum_replicate_nat]
  have h1 : (L.take j).length ≤ 200 := by rw [List.length_take]; omega
  have h2 : (L.take j).length * (n + 1) ≤ 200 * 11 := Nat.mul_le_mul h1 (by omega)
  omega
theorem ord200 : ∀ n, n ≤ 5 → (ordersOf n).length ≤ 120 := fun n h => by
  rw [ordersOf_len]
  exact Nat.le_trans (fact_le n 5 h) (by decide)
section
variable {P : Program} {w : World} {K : PySem.W.Frag} {mg : Str → Option Value} {base : Heap}
/-! ### _law_orders -/
def spOrders : Sp := fun vs H Q _ => ∃ (n : Nat), vs = [.int (n : Int)] ∧ n ≤ 5 ∧ NewLL H Q (ordersOf n)
abbrev n_law_orders : List Str := ["_law_many", "_law_found", "_law_one", "_law_longer", "_law_some", "_law_at"]
theorem sc_law_orders : FnScope n_law_orders ["_law_many"] (defScope s_law_orders) := ⟨rfl, rfl, rfl, by decide +kernel, rfl, by decide +kernel, by decide +kernel⟩
theorem ok_law_orders (T : Tx K mg) : FnOk P w K mg base CX0 1 T.law_orders.f T.law_orders.fd ["_law_many"] spOrders := by
  refine T.law_orders.F.ok sc_law_orders (fun vs H Q E h => ?_) (fun cdv A outer s H vs Q E hr h => ?_)
  · obtain ⟨n, rfl, _⟩ := h
    rfl
  · obtain ⟨n, rfl, hn, q⟩ := h
    refine ⟨_, (pss_cons (ps_set (i := 1) sc_law_orders.nd rfl (.inl rfl) (pe_lst (pa_cons (pe_lst pa_nil) pa_nil)))
    (pss_cons (ps_for PassesOwn.never rfl (pi_range1 (by rfl) T.m_range (pa_cons (pv 0) pa_nil)) (pg_name (i := 2) sc_law_orders.nd rfl (.inl rfl))
      (pss_cons (ps_set (i := 3) sc_law_orders.nd rfl (.inl rfl) (pe_lst pa_nil))
      (pss_cons (ps_for PassesOwn.never rfl (pi_list (pv 1)) (pg_name (i := 4) sc_law_orders.nd rfl (.inl rfl))
        (pss_one (ps_for PassesOwn.never rfl (pi_range1 (by rfl) T.m_range (pa_cons (pe_op op_add (pv 2) pe_int) pa_nil)) (pg_name (i := 5) sc_law_orders.nd rfl (.inl rfl))
          (pss_one (ps_expr (pe_bm PySem.F.plainAttrs_list PySem.F.slot_list_append PySem.F.type_list_append mt_append (pv 3) (pa_cons (pe_op op_cat (pe_op op_cat (pe_slice sl_list (pv 4) po_none (po_some (pv 5))) (pe_lst (pa_cons (pv 2) pa_nil))) (pe_slice sl_list (pv 4) (po_some (pv 5)) po_none)) pa_nil)))))))
      (pss_one (ps_set (i := 1) sc_law_orders.nd rfl (.inl rfl) (pv 3))))))
    (pss_one (ps_ret (pv 1))))), ?_⟩
    refine ⟨Nat.zero_le _, fun z nz => ⟨sz (by simp), fun o no => ?_⟩⟩
    have s1 := same_upd (o := .lst []) nz
    have s2 := same_upd (o := .lst [V.ref z]) no
    have nzo : o ≠ z := fun e => by rw [e, upd_same] at no; cases no
    refine ⟨_, rfl, _, rfl, by omega, by omega, ?_⟩
    rw [Int.toNat_natCast]
    refine for_range (lo := 0) (n := n) (fun i σ H3 => ∃ fo ps w2 w3 w4 w5, σ = [some (.int (n : Int)), some (.ref fo), w2, w3, w4, w5] ∧ Same H H3 ∧ H fo = none ∧ H3 fo = some (.lst (ps.map V.ref)) ∧ Rows H H3 ps (ordersOf i) ∧ fo ∉ ps) ?_ (fun i σ H3 hi hP => ?_) (fun σ H3 hP => ?_)
    · refine ⟨o, [z], _, _, _, _, rfl, s1.trans s2, s1.free no, upd_same, ?_, by simpa using nzo⟩
      refine ⟨rfl, fun i q r h1 h2 => ?_, fun q hq => ?_, by simp⟩
      · match i with
        | 0 =>
          cases h1
          cases h2
          exact s2 _ _ upd_same
        | i + 1 => simp at h1
      · simp at hq
        subst hq
        exact nz
    · obtain ⟨fo, ps, w2, w3, w4, w5, rfl, sm, nfo, efo, R, hfo⟩ := hP
      rw [Int.zero_add]
      refine ⟨Nat.zero_le _, fun lo nlo => ?_⟩
      have sl := same_upd (o := .lst []) nlo
      have hL := ord200 i (by omega)
      refine ⟨_, rfl, fo, rfl, ⟨_, sl.seq (.of efo)⟩, ?_⟩
      refine for_list (K := K) (a := fo) (xs := ps.map V.ref) (fun j σ H4 => ∃ qs w4 w5, σ = [some (.int (n : Int)), some (.ref fo), some (.int (i : Int)), some (.ref lo), w4, w5] ∧ Same H3 H4 ∧ H4 lo = some (.lst (qs.map V.ref)) ∧ Rows H3 H4 qs (ordPart (ordersOf i) i j [] 0) ∧ lo ∉ qs) ⟨[], _, _, rfl, sl, upd_same, Rows.nil, by simp⟩ (fun j σ H4 _ h => ?_) (fun j v σ H4 hv hP => ?_) (fun σ H4 hP => ?_)
      · obtain ⟨qs, _, _, _, s4, _⟩ := h
        exact .of (s4 _ _ efo)
      · obtain ⟨qs, w4, w5, rfl, s4, elo, R4, hlo⟩ := hP
        rw [List.getElem?_map] at hv
        obtain ⟨p, hp, rfl⟩ := Option.map_eq_some_iff.mp hv
        have hj : j < (ordersOf i).length := by rw [← R.len]; exact (List.getElem?_eq_some_iff.mp hp).1
        have hjl : (ordersOf i)[j]? = some (ordersOf i)[j] := List.getElem?_eq_getElem hj
        have ep3 := R.row j p _ hp hjl
        have hll : (ordersOf i)[j].length ≤ 5 := by
          have := (orders_good (List.getElem_mem hj)).2
          omega
        generalize (ordersOf i)[j] = l at hjl ep3 hll
        have hpl : p ≠ lo := fun e => by rw [e] at ep3; rw [ep3] at nlo; cases nlo
        refine ⟨_, rfl, _, 1, rfl, rfl, _, rfl, by omega, by omega, ?_⟩
        rw [show (((i : Nat) : Int) + 1).toNat = i + 1 by omega]
        refine for_range (lo := 0) (n := i + 1) (fun t σ H5 => ∃ qs w5, σ = [some (.int (n : Int)), some (.ref fo), some (.int (i : Int)), some (.ref lo), some (.ref p), w5] ∧ Same H3 H5 ∧ H5 lo = some (.lst (qs.map V.ref)) ∧ Rows H3 H5 qs (ordPart (ordersOf i) i j l t) ∧ lo ∉ qs) ⟨qs, _, rfl, s4, elo, R4, hlo⟩ (fun t σ H5 ht hP => ?_) (fun σ H5 hP => ?_)
        · obtain ⟨qs, w5, rfl, s5, elo5, R5, hlo5⟩ := hP
          rw [Int.zero_add]
          have hp5 : SqL K H5 p (iv l) := .of (s5 _ _ ep3)
          refine ⟨_, rfl, .inl ⟨rfl, _, .of elo5⟩, _, rfl, _, rfl, _, rfl, p, _, rfl, hp5, fun c1 n1 => ?_⟩
          rw [cut_to]
          have t1 := same_upd (o := .lst ((iv l).take t)) n1
          refine ⟨_, rfl, sz (by simp), fun c2 n2 => ?_⟩
          have t2 := same_upd (o := .lst [V.int (i : Int)]) n2
          refine ⟨c1, c2, _, _, rfl, rfl, t2 _ _ upd_same, upd_same, ?_, fun c3 n3 => ?_⟩
          · rw [List.length_take, iv_len]
            exact sz (by simp; omega)
          have t3 := same_upd (o := .lst ((iv l).take t ++ [V.int (i : Int)])) n3
          refine ⟨_, rfl, _, rfl, _, rfl, p, _, rfl, ((t1.trans t2).trans t3).seq hp5, fun c4 n4 => ?_⟩
          rw [cut_since]
          have t4 := same_upd (o := .lst ((iv l).drop t)) n4
          refine ⟨c3, c4, _, _, rfl, rfl, t4 _ _ upd_same, upd_same, ?_, fun c5 n5 => ?_⟩
          · rw [List.length_append, List.length_take, List.length_drop, iv_len]
            exact sz (by simp; omega)
          rw [ins_iv]
          have t5 := same_upd (o := .lst (iv (insAt l i t))) n5
          have sAll := (((t1.trans t2).trans t3).trans t4).trans t5
          have ec5 : (upd (upd (upd (upd (upd H5 c1 (.lst ((iv l).take t))) c2 (.lst [V.int (i : Int)])) c3 (.lst ((iv l).take t ++ [V.int (i : Int)]))) c4 (.lst ((iv l).drop t))) c5 (.lst (iv (insAt l i t)))) c5 = some (.lst (iv (insAt l i t))) := upd_same
          have n5H : H5 c5 = none := (((t1.trans t2).trans t3).trans t4).free n5
          generalize upd (upd (upd (upd (upd H5 c1 (.lst ((iv l).take t))) c2 (.lst [V.int (i : Int)])) c3 (.lst ((iv l).take t ++ [V.int (i : Int)]))) c4 (.lst ((iv l).drop t))) c5 (.lst (iv (insAt l i t))) = H6 at *
          have nq : c5 ∉ qs := fun h => by
            obtain ⟨r, _, e⟩ := R5.at h
            rw [n5H] at e
            cases e
          have nlc : lo ≠ c5 := fun e => by rw [← e, elo5] at n5H; cases n5H
          refine ⟨lo, _, _, rfl, rfl, sAll _ _ elo5, ?_, ?_⟩
          · rw [List.length_map, R5.len]
            have := ordPart_len (L := ordersOf i) (n := i) (j := j) (t := t) (l := l) (by omega) (by omega) (by omega)
            exact szl (by omega)
          · refine ⟨qs ++ [c5], _, rfl, same_mut (s5.trans sAll) nlo, ?_, ?_, ?_⟩
            · rw [upd_same, List.map_append]; rfl
            · rw [ordPart_succ]
              refine (((R5.same sAll).snoc ec5 (s5.free n5H) nq).upd ?_)
              intro h
              rcases List.mem_append.mp h with y | y
              · exact hlo5 y
              · simp at y; exact nlc y
            · intro h
              rcases List.mem_append.mp h with y | y
              · exact hlo5 y
              · simp at y; exact nlc y
        · obtain ⟨qs, w5, rfl, s5, elo5, R5, hlo5⟩ := hP
          refine ⟨qs, _, _, rfl, s5, elo5, ?_, hlo5⟩
          rw [← ordPart_next hjl]
          exact R5
      · obtain ⟨qs, w4, w5, rfl, s4, elo, R4, hlo⟩ := hP
        refine ⟨_, rfl, lo, qs, _, _, _, _, rfl, sm.trans s4, sm.free nlo, elo, ?_, hlo⟩
        have e : ordPart (ordersOf i) i (ps.map V.ref).length [] 0 = ordersOf (i + 1) := by
          unfold ordPart
          rw [List.length_map, R.len, List.take_length]
          show _ ++ [] = _
          rw [List.append_nil]
          rfl
        rw [e] at R4
        exact ⟨R4.len, R4.row, fun q hq => sm.free (R4.new q hq), R4.nd⟩
    · obtain ⟨fo, ps, w2, w3, w4, w5, rfl, sm, nfo, efo, R, hfo⟩ := hP
      exact ⟨_, rfl, q H3 fo ps sm nfo efo R hfo⟩
end
end Sb
namespace Sb
open PySem PySem.Spec PyProof.Rows L2
section
variable {P : Program} {w : World} {K : PySem.W.Frag} {mg : Str → Option Value} {base : Heap}
/-! ### _law_product -/
def spProduct : Sp := fun vs H Q _ => ∃ (n : Nat), vs = [.int (n : Int)] ∧ 1 ≤ n ∧ n ≤ 100 ∧ Q (.int ((fact n : Nat) : Int)) H
abbrev n_law_product : List Str := ["_law_many", "_law_found", "_law_one"]
theorem sc_law_product : FnScope n_law_product ["_law_many"] (defScope s_law_product) := ⟨rfl, rfl, rfl, by decide +kernel, rfl, by decide +kernel, by decide +kernel⟩
theorem ok_law_product (T : Tx K mg) : FnOk P w K mg base CX0 1 T.law_product.f T.law_product.fd ["_law_many"] spProduct := by
  refine T.law_product.F.ok sc_law_product (fun vs H Q E h => ?_) (fun cdv A outer s H vs Q E hr h => ?_)
  · obtain ⟨n, rfl, _⟩ := h
    rfl
  · obtain ⟨n, rfl, h1, h2, q⟩ := h
    refine ⟨_, (pss_cons (ps_set (i := 1) sc_law_product.nd rfl (.inl rfl) pe_int)
    (pss_cons (ps_for PassesOwn.never rfl (pi_range2 (by rfl) T.m_range (pa_cons pe_int (pa_cons (pe_op op_add (pv 0) pe_int) pa_nil))) (pg_name (i := 2) sc_law_product.nd rfl (.inl rfl))
      (pss_one (ps_set (i := 1) sc_law_product.nd rfl (.inl rfl) (pe_op op_mulX (pv 1) (pv 2)))))
    (pss_one (ps_ret (pv 1))))), ?_⟩
    refine ⟨_, rfl, n, 1, rfl, rfl, 2, _, rfl, ⟨by omega, by omega, by omega, by omega⟩, ?_⟩
    rw [show ((n : Int) + 1 - 2).toNat = n - 1 by omega]
    refine for_range (lo := 2) (n := n - 1) (fun i σ H3 => ∃ w2, σ = [some (.int (n : Int)), some (.int ((fact (i + 1) : Nat) : Int)), w2] ∧ H3 = H) ⟨_, rfl, rfl⟩ (fun i σ H3 hi hP => ?_) (fun σ H3 hP => ?_)
    · obtain ⟨w2, rfl, rfl⟩ := hP
      have b : Builtin.Int.intBits ((fact (i + 1) : Nat) : Int) ≤ 600 := bits_of (fact_bits (by omega))
      refine ⟨_, rfl, _, rfl, _, _, rfl, rfl, .of_right ?_, some (.int (2 + ((i : Nat) : Int))), ?_, rfl⟩
      · rw [show (2 : Int) + ((i : Nat) : Int) = ((i + 2 : Nat) : Int) by omega]
        exact bits_small (by omega)
      · have e : ((fact (i + 1 + 1) : Nat) : Int) = ((fact (i + 1) : Nat) : Int) * (2 + ((i : Nat) : Int)) := by
          rw [show (2 : Int) + ((i : Nat) : Int) = ((i + 1 + 1 : Nat) : Int) by omega, ← Int.natCast_mul, Nat.mul_comm]
          rfl
        rw [e]
        rfl
    · obtain ⟨w2, rfl, rfl⟩ := hP
      rw [show n - 1 + 1 = n by omega]
      exact ⟨_, rfl, q⟩
/-! ### _law_pairs -/
def pairsTo : Nat → List Nat
  | 0 => [1, 1]
  | i + 1 => pairsTo i ++ [hm (i + 2) 2]
theorem pairs_len : ∀ i, (pairsTo i).length = i + 2
  | 0 => rfl
  | i + 1 => by unfold pairsTo; rw [List.length_append, pairs_len i]; rfl
theorem pairs_get : ∀ i k, k ≤ i + 1 → (pairsTo i)[k]? = some (hm k 2)
  | 0, k, h => by
    match k, h with
    | 0, _ => rfl
    | 1, _ => rfl
  | i + 1, k, h => by
    unfold pairsTo
    by_cases hk : k ≤ i + 1
    · rw [List.getElem?_append_left (by rw [pairs_len]; omega)]
      exact pairs_get i k hk
    · have e : k = i + 2 := by omega
      subst e
      rw [List.getElem?_append_right (by rw [pairs_len]; omega), pairs_len, Nat.sub_self]
      rfl
theorem at_neg {xs : List V} {k : Nat} {x : V} (h0 : 0 < k) (hk : k ≤ xs.length) (h : xs[xs.length - k]? = some x) : atI xs (-(k : Int)) = some x := by
  unfold atI
  unfold ixN
  rw [if_neg (by omega), if_pos (by omega)]
  rw [show (-(k : Int) + (xs.length : Int)).toNat = xs.length - k by omega]
  exact h
def spPairs : Sp := fun vs H Q _ => ∃ (n : Nat), vs = [.int (n : Int)] ∧ 1 ≤ n ∧ n ≤ 100 ∧ ∀ H', Same H H' → Q (.int ((hm n 2 : Nat) : Int)) H'
abbrev n_law_pairs : List Str := ["_law_many", "_law_found", "_law_one"]
theorem sc_law_pairs : FnScope n_law_pairs ["_law_many"] (defScope s_law_pairs) := ⟨rfl, rfl, rfl, by decide +kernel, rfl, by decide +kernel, by decide +kernel⟩
theorem ok_law_pairs (T : Tx K mg) : FnOk P w K mg base CX0 1 T.law_pairs.f T.law_pairs.fd ["_law_many"] spPairs := by
  refine T.law_pairs.F.ok sc_law_pairs (fun vs H Q E h => ?_) (fun cdv A outer s H vs Q E hr h => ?_)
  · obtain ⟨n, rfl, _⟩ := h
    rfl
  · obtain ⟨n, rfl, h1, h2, q⟩ := h
    refine ⟨_, (pss_cons (ps_set (i := 1) sc_law_pairs.nd rfl (.inl rfl) (pe_lst (pa_cons pe_int (pa_cons pe_int pa_nil))))
    (pss_cons (ps_for PassesOwn.never rfl (pi_range2 (by rfl) T.m_range (pa_cons pe_int (pa_cons (pe_op op_add (pv 0) pe_int) pa_nil))) (pg_name (i := 2) sc_law_pairs.nd rfl (.inl rfl))
      (pss_one (ps_expr (pe_bm PySem.F.plainAttrs_list PySem.F.slot_list_append PySem.F.type_list_append mt_append (pv 1) (pa_cons (pe_op op_add (pe_ix ix_list (pv 1) (pe_un un_neg pe_int) (fun _ _ => rfl)) (pe_op op_mulX (pe_op op_sub (pv 2) pe_int) (pe_ix ix_list (pv 1) (pe_un un_neg pe_int) (fun _ _ => rfl)))) pa_nil)))))
    (pss_one (ps_ret (pe_ix ix_list (pv 1) (pv 0) (fun _ _ => rfl)))))), ?_⟩
    refine ⟨sz (by simp), fun o no => ?_⟩
    refine ⟨_, rfl, n, 1, rfl, rfl, 2, _, rfl, ⟨by omega, by omega, by omega, by omega⟩, ?_⟩
    rw [show ((n : Int) + 1 - 2).toNat = n - 1 by omega]
    refine for_range (lo := 2) (n := n - 1) (fun i σ H3 => ∃ w2, σ = [some (.int (n : Int)), some (.ref o), w2] ∧ Same H H3 ∧ H3 o = some (.lst (iv (pairsTo i)))) ⟨_, rfl, same_upd no, upd_same⟩ (fun i σ H3 hi hP => ?_) (fun σ H3 hP => ?_)
    · obtain ⟨w2, rfl, sm, eo⟩ := hP
      have a1 : atI (iv (pairsTo i)) (-1) = some (.int ((hm (i + 1) 2 : Nat) : Int)) := iv_last (by rw [pairs_len]; exact pairs_get i _ (by omega))
      have a2 : atI (iv (pairsTo i)) (-2) = some (.int ((hm i 2 : Nat) : Int)) := by
        refine at_neg (k := 2) (by decide) (by rw [iv_len, pairs_len]; omega) ?_
        rw [iv_get?, iv_len, pairs_len, show i + 2 - 2 = i by omega, pairs_get i i (by omega)]
        rfl
      refine ⟨_, rfl, .inl ⟨rfl, _, .of eo⟩, _, rfl, 1, rfl, o, _, _, _, rfl, rfl, .of eo, a1, _, rfl, _, 1, rfl, rfl, _, rfl, 2, rfl, o, _, _, _, rfl, rfl, .of eo, a2, _, _, rfl, rfl, .of_left ?_, _, _, rfl, rfl, o, _, _, rfl, rfl, eo, ?_, ?_⟩
      · rw [show (2 : Int) + ((i : Nat) : Int) - 1 = ((i + 1 : Nat) : Int) by omega]
        exact bits_small (by omega)
      · rw [iv_len, pairs_len]
        exact szl (by omega)
      · refine ⟨_, rfl, same_mut sm no, ?_⟩
        have e : ((hm (i + 1) 2 : Nat) : Int) + (2 + ((i : Nat) : Int) - 1) * ((hm i 2 : Nat) : Int) = ((hm (i + 2) 2 : Nat) : Int) := by
          rw [hm_two, show (2 : Int) + ((i : Nat) : Int) - 1 = ((i + 1 : Nat) : Int) by omega]
          push_cast
          rfl
        rw [upd_same]
        dsimp only
        rw [e, iv_snoc]
        rfl
    · obtain ⟨w2, rfl, sm, eo⟩ := hP
      exact ⟨_, rfl, _, rfl, o, _, _, _, rfl, rfl, .of eo, iv_at (pairs_get _ n (by omega)), q _ sm⟩
end
end Sb
namespace Sb
open PySem PySem.Spec PyProof.Rows L2
/-- the winning ones of the first lists -/
def dueTo (n m i : Nat) : List (List Nat) := ((ordersOf n).take i).filter fun b => (longOf b m).isEmpty
theorem dueTo_succ {n m i : Nat} {l : List Nat} (h : (ordersOf n)[i]? = some l) : dueTo n m (i + 1) = if (longOf l m).isEmpty = true then dueTo n m i ++ [l] else dueTo n m i := by
  unfold dueTo
  rw [List.take_add_one, h, List.filter_append]
  by_cases e : (longOf l m).isEmpty = true
  · rw [if_pos e]
    simp [e]
  · rw [if_neg e]
    simp [e]
theorem dueTo_all (n m : Nat) : dueTo n m (ordersOf n).length = due n m := by
  unfold dueTo due
  rw [List.take_length]
section
variable {P : Program} {w : World} {K : PySem.W.Frag} {mg : Str → Option Value} {base : Heap}
/-! ### the law -/
def spLaw (K : PySem.W.Frag) : Sp := fun vs H Q _ => ∃ (a : Addr) (cs : List Int), vs = [.ref a] ∧ SqL K H a (cs.map V.int) ∧ cs.length ≤ 63 ∧ Cells cs ∧ ∀ H', Q (.bl true) H'
abbrev n_law : List Str := ["_law_script", "_law_cell", "_law_many", "_law_orders_here", "_law_most", "_law_found", "_law_due", "_law_great", "_law_size", "_law_some"]
theorem sc_law : FnScope n_law ["_law_script"] (defScope s_law) := ⟨rfl, rfl, rfl, by decide +kernel, rfl, by decide +kernel, by decide +kernel⟩
theorem ok_law (T : Tx K mg) {f : Addr} {fd : FuncData} (F : Fun K "law" "law" s_law f fd) : FnOk P w K mg base CX0 8 f fd ["_law_script"] (spLaw K) := by
  refine F.ok sc_law (fun vs H Q E h => ?_) (fun cdv A outer s H vs Q E hr h => ?_)
  · obtain ⟨a, cs, rfl, _⟩ := h
    rfl
  · obtain ⟨a, cs, rfl, hS, hlen, hC, q⟩ := h
    refine ⟨_, (pss_cons (ps_set (i := 0) sc_law.nd rfl (.inl rfl) (pe_slice sl_list (pv 0) po_none (po_some pe_int)))
    (pss_cons (ps_set (i := 1) sc_law.nd rfl (.inl rfl) (pe_df T.law_cell_at (ok_law_cell_at T) (hr.mono (by decide)) (pa_cons (pv 0) (pa_cons pe_int pa_nil))))
    (pss_cons (ps_set (i := 2) sc_law.nd rfl (.inl rfl) (pe_op op_add pe_int (pe_op op_mod (pe_df T.law_value (ok_law_value T) (hr.mono (by decide)) (pa_cons (pv 1) (pa_cons pe_int pa_nil))) pe_int)))
    (pss_cons (ps_set (i := 3) sc_law.nd rfl (.inl rfl) (pe_df T.law_orders (ok_law_orders T) (hr.mono (by decide)) (pa_cons (pv 2) pa_nil)))
    (pss_cons (ps_for PassesOwn.never rfl (pi_range2 (by rfl) T.m_range (pa_cons pe_int (pa_cons (pe_op op_add (pv 2) pe_int) pa_nil))) (pg_name (i := 4) sc_law.nd rfl (.inr rfl))
      (pss_cons (ps_set (i := 5) sc_law.nd rfl (.inl rfl) (pe_df T.how_many (ok_how_many T) (hr.mono (by decide)) (pa_cons (pv 2) (pa_cons (pv 4) pa_nil))))
      (pss_cons (ps_setLc (i := 6) (own := [("_law_some", 9)]) (g := gName 9) rfl sc_law.nd rfl rfl (sw_true rfl rfl rfl (by decide +kernel)) (pi_list (pv 3)) (blkOk_by (own := [("_law_some", 9)]) (N := n_law) (sc := defScope s_law) (by decide +kernel)) (fun _ _ _ _ _ => (pg_name (i := 9) sc_law.nd rfl (.inl rfl))) (fun _ _ _ _ _ => (pts_one (pt_cmpR op_le (pe_df T.law_longest (ok_law_longest T) (hr.mono (by decide)) (pa_cons (pv 9) pa_nil)) (pv 4) (nomark _)))) (fun _ _ _ _ _ => (pv 9)))
      (pss_one (ps_if (PW.pt (pw_or (pt_not (pt_val (pe_df T.law_whole (ok_law_whole T) (hr.mono (by decide)) (pa_cons (pv 5) pa_nil)))) (pw_or1 (pt_cmpR op_ne (pv 5) (pe_callB call_len_seq (by rfl) T.m_len (by decide +kernel) (pa_cons (pv 6) pa_nil)) (nomark _)))))
        (pss_one (ps_ret pe_bl))
        pss_nil)))))
    (pss_cons (ps_set (i := 7) sc_law.nd rfl (.inl rfl) (pe_op op_add pe_int (pe_op op_mod (pe_df T.law_value (ok_law_value T) (hr.mono (by decide)) (pa_cons (pv 1) (pa_cons pe_int pa_nil))) pe_int)))
    (pss_cons (ps_set (i := 4) sc_law.nd rfl (.inr rfl) (pe_op op_add (pe_op op_fdiv (pe_op op_add (pv 7) pe_int) pe_int) (pe_op op_mod (pe_df T.law_value (ok_law_value T) (hr.mono (by decide)) (pa_cons (pv 1) (pa_cons pe_int pa_nil))) (pe_op op_add pe_int (pe_op op_fdiv (pv 7) pe_int)))))
    (pss_cons (ps_set (i := 6) sc_law.nd rfl (.inl rfl) (pe_df T.law_product (ok_law_product T) (hr.mono (by decide)) (pa_cons (pv 7) pa_nil)))
    (pss_cons (ps_for PassesOwn.never rfl (pi_range2 (by rfl) T.m_range (pa_cons (pe_op op_add (pv 4) pe_int) (pa_cons (pe_op op_add (pv 7) pe_int) pa_nil))) (pg_name (i := 8) sc_law.nd rfl (.inl rfl))
      (pss_one (ps_set (i := 6) sc_law.nd rfl (.inl rfl) (pe_op op_sub (pv 6) (pe_op op_fdiv (pe_df T.law_product (ok_law_product T) (hr.mono (by decide)) (pa_cons (pv 7) pa_nil)) (pv 8))))))
    (pss_cons (ps_if (PW.pt (pw_or (pt_cmpR op_ne (pe_df T.how_many (ok_how_many T) (hr.mono (by decide)) (pa_cons (pv 7) (pa_cons (pv 4) pa_nil))) (pv 6) (nomark _)) (pw_or1 (pt_cmpR op_ne (pe_df T.how_many (ok_how_many T) (hr.mono (by decide)) (pa_cons (pv 7) (pa_cons pe_int pa_nil))) pe_int (nomark _)))))
      (pss_one (ps_ret pe_bl))
      pss_nil)
    (pss_cons (ps_if (pt_cmpR op_ne (pe_df T.how_many (ok_how_many T) (hr.mono (by decide)) (pa_cons (pv 7) (pa_cons (pe_callB (call_min2 rfl) (by rfl) T.m_min (by decide +kernel) (pa_cons pe_int (pa_cons (pv 7) pa_nil))) pa_nil))) (pe_df T.law_pairs (ok_law_pairs T) (hr.mono (by decide)) (pa_cons (pv 7) pa_nil)) (nomark _))
      (pss_one (ps_ret pe_bl))
      pss_nil)
    (pss_one (ps_ret (pe_and (pe_cmpR op_eq (pe_df T.how_many (ok_how_many T) (hr.mono (by decide)) (pa_cons pe_int (pa_cons pe_int pa_nil))) pe_int (nomark _)) (pe_one (pe_cmpR op_eq (pe_df T.how_many (ok_how_many T) (hr.mono (by decide)) (pa_cons pe_int (pa_cons pe_int pa_nil))) (pe_df T.law_product (ok_law_product T) (hr.mono (by decide)) (pa_cons pe_int pa_nil)) (nomark _))))))))))))))))), ?_⟩
    refine ⟨_, rfl, 63, rfl, a, _, rfl, hS, fun sc nsc => ?_⟩
    rw [show (63 : Int) = ((63 : Nat) : Int) from rfl, cut_to, List.take_of_length_le (by rw [List.length_map]; omega)]
    have esc : (upd H sc (.lst (cs.map V.int))) sc = some (.lst (cs.map V.int)) := upd_same
    refine ⟨_, rfl, sc, cs, 0, rfl, .of esc, hC, fun c hc => ?_⟩
    refine ⟨_, rfl, c, 1, rfl, hc, by decide, fun H1 v1 s1 hv1 => ⟨v1, 5, rfl, rfl, (by show (0 : Int) < 5; decide), 1, _, rfl, rfl, ?_⟩⟩
    obtain ⟨n, en, hn1, hn2⟩ : ∃ n : Nat, 1 + v1 % 5 = (n : Int) ∧ 1 ≤ n ∧ n ≤ 5 := ⟨(1 + v1 % 5).toNat, by omega, by omega, by omega⟩
    dsimp only
    rw [en]
    refine ⟨_, rfl, n, rfl, hn2, fun H2 po ps s2 npo epo R hpo => ?_⟩
    refine ⟨_, rfl, n, 1, rfl, rfl, 1, _, rfl, ⟨by omega, by omega, by omega, by omega⟩, ?_⟩
    rw [show ((n : Int) + 1 - 1).toNat = n by omega]
    refine for_range (lo := 1) (n := n) (fun i σ H3 => ∃ w4 w5 w6, σ = [some (.ref sc), some (.int c), some (.int (n : Int)), some (.ref po), w4, w5, w6, none, none, none] ∧ Same H2 H3) ⟨_, _, _, rfl, .refl _⟩ (fun i σ H3 hi hP => ?_) (fun σ H3 hP => ?_)
    · obtain ⟨w4, w5, w6, rfl, s3⟩ := hP
      rw [show (1 : Int) + ((i : Nat) : Int) = ((i + 1 : Nat) : Int) by omega]
      refine ⟨_, rfl, _, rfl, n, i + 1, rfl, hn1, by omega, by omega, by omega, fun H4 s4 => ?_⟩
      have s34 := s3.trans s4
      refine ⟨_, rfl, po, rfl, ⟨_, .of (s34 _ _ epo)⟩, fun D nD => ?_⟩
      refine lc_list (K := K) (a := po) (xs := ps.map V.ref) (fun j H5 => ∃ vs : List V, Same H4 H5 ∧ H5 D = some (.lst vs) ∧ vs.length = (dueTo n (i + 1) j).length ∧ vs.length ≤ j) ⟨[], same_upd nD, upd_same, rfl, Nat.le_refl _⟩ (fun j H5 _ h => ?_) (fun j v H5 hv h => ?_) (fun H5 h => ?_)
      · obtain ⟨_, s5, _⟩ := h
        exact .of (s5 _ _ (s34 _ _ epo))
      · obtain ⟨vs, s5, eD, hvs, hvj⟩ := h
        rw [List.getElem?_map] at hv
        obtain ⟨p, hp, rfl⟩ := Option.map_eq_some_iff.mp hv
        have hj : j < (ordersOf n).length := by rw [← R.len]; exact (List.getElem?_eq_some_iff.mp hp).1
        have hjl : (ordersOf n)[j]? = some (ordersOf n)[j] := List.getElem?_eq_getElem hj
        have ep := R.row j p _ hp hjl
        obtain ⟨gl, hll⟩ := orders_good (List.getElem_mem hj)
        have h120 := ord200 n hn2
        generalize (ordersOf n)[j] = l at hjl ep gl hll
        refine ⟨rfl, _, rfl, p, l, rfl, .of (s5 _ _ (s34 _ _ ep)), gl, by omega, by omega, fun H6 g s6 _ _ hg => ⟨_, rfl, _, _, rfl, rfl, _, rfl, ite2 (fun e => ?_) (fun e => ?_)⟩⟩
        · have hs : Short l (i + 1) := (hg _).mp (by
            have := of_decide_eq_true e
            omega)
          refine ⟨_, rfl, vs, s6 _ _ eD, szl (by omega), _, same_mut (s5.trans s6) nD, upd_same, ?_, ?_⟩
          · rw [dueTo_succ hjl, if_pos (by rw [(longOf_nil gl).mpr hs]; rfl), List.length_append, List.length_append, hvs]
            rfl
          · rw [List.length_append]
            show vs.length + 1 ≤ j + 1
            omega
        · refine ⟨vs, s5.trans s6, s6 _ _ eD, ?_, by omega⟩
          rw [dueTo_succ hjl, if_neg]
          · exact hvs
          · intro z
            apply e
            have := (hg (i + 1)).mpr ((longOf_nil gl).mp (List.isEmpty_iff.mp z))
            exact decide_eq_true (by omega)
      obtain ⟨vs, s5, eD, hvs, _⟩ := h
      rw [List.length_map, R.len, dueTo_all, due_len n (by omega) (i + 1) (by omega) (by omega) (by omega)] at hvs
      refine ⟨_, rfl, .int _, "int", true, false, rfl, .base (.int _), by decide +kernel, by decide +kernel, _, rfl, iteF ?_⟩
      refine ⟨_, rfl, _, rfl, D, _, rfl, .inl (.of eD), rfl, _, rfl, ?_⟩
      rw [hvs, decide_eq_true rfl]
      exact iteF ⟨_, _, _, rfl, s34.trans s5⟩
    obtain ⟨w4, w5, w6, rfl, s3⟩ := hP
    refine ⟨_, rfl, c, 2, rfl, hc, by decide, fun H4 v2 s4 hv2 => ⟨v2, 100, rfl, rfl, (by show (0 : Int) < 100; decide), 1, _, rfl, rfl, ?_⟩⟩
    obtain ⟨g, eg, hg1, hg2⟩ : ∃ g : Nat, 1 + v2 % 100 = (g : Int) ∧ 1 ≤ g ∧ g ≤ 100 := ⟨(1 + v2 % 100).toNat, by omega, by omega, by omega⟩
    dsimp only
    rw [eg]
    refine ⟨_, rfl, g, 1, rfl, rfl, _, 2, rfl, rfl, ⟨by decide, by decide⟩, _, rfl, c, 3, rfl, hc, by decide, fun H5 v3 s5 hv3 => ⟨_, rfl, g, 2, rfl, rfl, ⟨by decide, by decide⟩, 1, _, rfl, rfl, v3, _, rfl, rfl, (by show (0 : Int) < 1 + (g : Int) / 2; omega), _, _, rfl, rfl, ?_⟩⟩
    obtain ⟨m, em, hm1, hm2, hm3⟩ : ∃ m : Nat, ((g : Int) + 1) / 2 + v3 % (1 + (g : Int) / 2) = (m : Int) ∧ 1 ≤ m ∧ m ≤ g ∧ g ≤ 2 * m := by
      have e1 := Int.emod_nonneg v3 (show (1 + (g : Int) / 2) ≠ 0 by omega)
      have e2 := Int.emod_lt_of_pos v3 (show (0 : Int) < 1 + (g : Int) / 2 by omega)
      exact ⟨(((g : Int) + 1) / 2 + v3 % (1 + (g : Int) / 2)).toNat, by omega, by omega, by omega, by omega⟩
    dsimp only
    rw [em]
    refine ⟨_, rfl, g, rfl, hg1, hg2, ?_⟩
    refine ⟨_, rfl, m, 1, rfl, rfl, _, rfl, g, 1, rfl, rfl, _, _, rfl, ⟨by omega, by omega, by omega, by omega⟩, ?_⟩
    rw [show ((g : Int) + 1 - ((m : Int) + 1)).toNat = g - m by omega]
    refine for_range (lo := (m : Int) + 1) (n := g - m) (fun j σ H6 => ∃ w5 w8, σ = [some (.ref sc), some (.int c), some (.int (n : Int)), some (.ref po), some (.int (m : Int)), w5, some (.int (((fact g : Nat) : Int) - ((over g m j : Nat) : Int))), some (.int (g : Int)), w8, none] ∧ H6 = H5) ⟨w5, none, ?_, rfl⟩ (fun j σ H6 hj hP => ?_) (fun σ H6 hP => ?_)
    · rw [show (((fact g : Nat) : Int) - ((over g m 0 : Nat) : Int)) = ((fact g : Nat) : Int) by show _ - ((0 : Nat) : Int) = _; omega]
      rfl
    · obtain ⟨w5, w8, rfl, rfl⟩ := hP
      refine ⟨_, rfl, _, rfl, g, rfl, hg1, hg2, _, rfl, _, _, rfl, rfl, ⟨?_, ?_⟩, _, _, rfl, rfl, ?_⟩
      · show (0 : Int) < (m : Int) + 1 + ((j : Nat) : Int)
        omega
      · show (m : Int) + 1 + ((j : Nat) : Int) < _
        omega
      refine ⟨w5, some (.int ((m : Int) + 1 + ((j : Nat) : Int))), ?_, rfl⟩
      have e : ((fact g : Nat) : Int) - ((over g m (j + 1) : Nat) : Int) = ((fact g : Nat) : Int) - ((over g m j : Nat) : Int) - ((fact g : Nat) : Int) / ((m : Int) + 1 + ((j : Nat) : Int)) := by
        rw [over_step, show (m : Int) + 1 + ((j : Nat) : Int) = ((m + j + 1 : Nat) : Int) by omega, ← Int.natCast_ediv]
        push_cast
        omega
      rw [e]
      rfl
    obtain ⟨w5, w8, rfl, rfl⟩ := hP
    have hov := hm_over hm1 (g - m) (by omega)
    rw [show m + (g - m) = g by omega] at hov
    rw [show ((fact g : Nat) : Int) - ((over g m (g - m) : Nat) : Int) = ((hm g m : Nat) : Int) by omega]
    refine ⟨_, rfl, _, rfl, g, m, rfl, hg1, hg2, hm1, hm2, fun H7 s7 => ⟨_, rfl, rfl, _, rfl, iteNS rfl ?_⟩⟩
    refine ⟨_, rfl, g, 1, rfl, hg1, hg2, by omega, by omega, fun H8 s8 => ⟨rfl, _, rfl, iteNS ?_ ?_⟩⟩
    · rw [hm_one]
      rfl
    refine ⟨_, rfl, _, rfl, 2, g, rfl, ?_⟩
    rw [show (if ((g : Nat) : Int) < 2 then ((g : Nat) : Int) else 2) = ((min 2 g : Nat) : Int) from min_of_if 2 g]
    refine ⟨g, min 2 g, rfl, hg1, hg2, by omega, by omega, fun H9 s9 => ⟨_, rfl, g, rfl, hg1, hg2, fun Ha sa => ⟨rfl, _, rfl, iteNS ?_ ?_⟩⟩⟩
    · by_cases h2 : 2 ≤ g
      · rw [Nat.min_eq_left h2]
      · have : g = 1 := by omega
        subst this
        rfl
    refine ⟨6, 3, rfl, by decide, by decide, by decide, by decide, fun Hb sb => ⟨rfl, _, rfl, ?_⟩⟩
    rw [hm63, show decide (V.int ((276 : Nat) : Int) = V.int 276) = true from decide_eq_true rfl]
    refine iteT ⟨100, 100, rfl, by decide, by decide, by decide, by decide, fun Hc sc2 => ⟨100, rfl, by decide, by decide, rfl, ?_⟩⟩
    rw [hm_free (Nat.le_refl 100), decide_eq_true rfl]
    exact q _
end
end Sb
/-! ### what the top has written; the law's own head -/
namespace Sb
open PySem PySem.Spec PyProof.Rows L2
theorem all_mk {l : PySem.W.OpenLaw} {w : World} {K : PySem.W.Frag} {h : Heap} {mg : Str → Option Value} {fa : Addr} (X : K.In h) (G : h.Ns mainGlobals mg) (hfa : mg "law" = some (.ref fa))
    {f0 : Addr} {od0 an0 : Option Addr} {sl0 : Array (Option Value)} {oc0 kV0 dc0 pm0 cd0 ct0 : Value}
    (a0 : PySem.W.nsIn K mainGlobals "is_whole" = some (some (.ref f0))) (l0 : K.lookup f0 = some ⟨oc0, od0, .func (PySem.W.fnOf "is_whole" "is_whole" (defArgs s_is_whole) (defBody s_is_whole) (defScope s_is_whole) .none kV0 dc0 pm0 an0 cd0 ct0), sl0⟩) (e0 : PySem.W.codeIn K cd0 "is_whole" = true) (k0 : PySem.W.keepIn K (.ref f0) = true)
    {f1 : Addr} {od1 an1 : Option Addr} {sl1 : Array (Option Value)} {oc1 kV1 dc1 pm1 cd1 ct1 : Value}
    (a1 : PySem.W.nsIn K mainGlobals "check_count" = some (some (.ref f1))) (l1 : K.lookup f1 = some ⟨oc1, od1, .func (PySem.W.fnOf "check_count" "check_count" (defArgs s_check_count) (defBody s_check_count) (defScope s_check_count) .none kV1 dc1 pm1 an1 cd1 ct1), sl1⟩) (e1 : PySem.W.codeIn K cd1 "check_count" = true) (k1 : PySem.W.keepIn K (.ref f1) = true)
    {f2 : Addr} {od2 an2 : Option Addr} {sl2 : Array (Option Value)} {oc2 kV2 dc2 pm2 cd2 ct2 : Value}
    (a2 : PySem.W.nsIn K mainGlobals "check_counts" = some (some (.ref f2))) (l2 : K.lookup f2 = some ⟨oc2, od2, .func (PySem.W.fnOf "check_counts" "check_counts" (defArgs s_check_counts) (defBody s_check_counts) (defScope s_check_counts) .none kV2 dc2 pm2 an2 cd2 ct2), sl2⟩) (e2 : PySem.W.codeIn K cd2 "check_counts" = true) (k2 : PySem.W.keepIn K (.ref f2) = true)
    {f3 : Addr} {od3 an3 : Option Addr} {sl3 : Array (Option Value)} {oc3 kV3 dc3 pm3 cd3 ct3 : Value}
    (a3 : PySem.W.nsIn K mainGlobals "how_many" = some (some (.ref f3))) (l3 : K.lookup f3 = some ⟨oc3, od3, .func (PySem.W.fnOf "how_many" "how_many" (defArgs s_how_many) (defBody s_how_many) (defScope s_how_many) .none kV3 dc3 pm3 an3 cd3 ct3), sl3⟩) (e3 : PySem.W.codeIn K cd3 "how_many" = true) (k3 : PySem.W.keepIn K (.ref f3) = true)
    {f4 : Addr} {od4 an4 : Option Addr} {sl4 : Array (Option Value)} {oc4 kV4 dc4 pm4 cd4 ct4 : Value}
    (a4 : PySem.W.nsIn K mainGlobals "_law_cell_at" = some (some (.ref f4))) (l4 : K.lookup f4 = some ⟨oc4, od4, .func (PySem.W.fnOf "_law_cell_at" "_law_cell_at" (defArgs s_law_cell_at) (defBody s_law_cell_at) (defScope s_law_cell_at) .none kV4 dc4 pm4 an4 cd4 ct4), sl4⟩) (e4 : PySem.W.codeIn K cd4 "_law_cell_at" = true) (k4 : PySem.W.keepIn K (.ref f4) = true)
    {f5 : Addr} {od5 an5 : Option Addr} {sl5 : Array (Option Value)} {oc5 kV5 dc5 pm5 cd5 ct5 : Value}
    (a5 : PySem.W.nsIn K mainGlobals "_law_draw" = some (some (.ref f5))) (l5 : K.lookup f5 = some ⟨oc5, od5, .func (PySem.W.fnOf "_law_draw" "_law_draw" (defArgs s_law_draw) (defBody s_law_draw) (defScope s_law_draw) .none kV5 dc5 pm5 an5 cd5 ct5), sl5⟩) (e5 : PySem.W.codeIn K cd5 "_law_draw" = true) (k5 : PySem.W.keepIn K (.ref f5) = true)
    {f6 : Addr} {od6 an6 : Option Addr} {sl6 : Array (Option Value)} {oc6 kV6 dc6 pm6 cd6 ct6 : Value}
    (a6 : PySem.W.nsIn K mainGlobals "_law_value" = some (some (.ref f6))) (l6 : K.lookup f6 = some ⟨oc6, od6, .func (PySem.W.fnOf "_law_value" "_law_value" (defArgs s_law_value) (defBody s_law_value) (defScope s_law_value) .none kV6 dc6 pm6 an6 cd6 ct6), sl6⟩) (e6 : PySem.W.codeIn K cd6 "_law_value" = true) (k6 : PySem.W.keepIn K (.ref f6) = true)
    {f7 : Addr} {od7 an7 : Option Addr} {sl7 : Array (Option Value)} {oc7 kV7 dc7 pm7 cd7 ct7 : Value}
    (a7 : PySem.W.nsIn K mainGlobals "_law_whole" = some (some (.ref f7))) (l7 : K.lookup f7 = some ⟨oc7, od7, .func (PySem.W.fnOf "_law_whole" "_law_whole" (defArgs s_law_whole) (defBody s_law_whole) (defScope s_law_whole) .none kV7 dc7 pm7 an7 cd7 ct7), sl7⟩) (e7 : PySem.W.codeIn K cd7 "_law_whole" = true) (k7 : PySem.W.keepIn K (.ref f7) = true)
    {f8 : Addr} {od8 an8 : Option Addr} {sl8 : Array (Option Value)} {oc8 kV8 dc8 pm8 cd8 ct8 : Value}
    (a8 : PySem.W.nsIn K mainGlobals "_law_ring" = some (some (.ref f8))) (l8 : K.lookup f8 = some ⟨oc8, od8, .func (PySem.W.fnOf "_law_ring" "_law_ring" (defArgs s_law_ring) (defBody s_law_ring) (defScope s_law_ring) .none kV8 dc8 pm8 an8 cd8 ct8), sl8⟩) (e8 : PySem.W.codeIn K cd8 "_law_ring" = true) (k8 : PySem.W.keepIn K (.ref f8) = true)
    {f9 : Addr} {od9 an9 : Option Addr} {sl9 : Array (Option Value)} {oc9 kV9 dc9 pm9 cd9 ct9 : Value}
    (a9 : PySem.W.nsIn K mainGlobals "_law_longest" = some (some (.ref f9))) (l9 : K.lookup f9 = some ⟨oc9, od9, .func (PySem.W.fnOf "_law_longest" "_law_longest" (defArgs s_law_longest) (defBody s_law_longest) (defScope s_law_longest) .none kV9 dc9 pm9 an9 cd9 ct9), sl9⟩) (e9 : PySem.W.codeIn K cd9 "_law_longest" = true) (k9 : PySem.W.keepIn K (.ref f9) = true)
    {f10 : Addr} {od10 an10 : Option Addr} {sl10 : Array (Option Value)} {oc10 kV10 dc10 pm10 cd10 ct10 : Value}
    (a10 : PySem.W.nsIn K mainGlobals "_law_orders" = some (some (.ref f10))) (l10 : K.lookup f10 = some ⟨oc10, od10, .func (PySem.W.fnOf "_law_orders" "_law_orders" (defArgs s_law_orders) (defBody s_law_orders) (defScope s_law_orders) .none kV10 dc10 pm10 an10 cd10 ct10), sl10⟩) (e10 : PySem.W.codeIn K cd10 "_law_orders" = true) (k10 : PySem.W.keepIn K (.ref f10) = true)
    {f11 : Addr} {od11 an11 : Option Addr} {sl11 : Array (Option Value)} {oc11 kV11 dc11 pm11 cd11 ct11 : Value}
    (a11 : PySem.W.nsIn K mainGlobals "_law_product" = some (some (.ref f11))) (l11 : K.lookup f11 = some ⟨oc11, od11, .func (PySem.W.fnOf "_law_product" "_law_product" (defArgs s_law_product) (defBody s_law_product) (defScope s_law_product) .none kV11 dc11 pm11 an11 cd11 ct11), sl11⟩) (e11 : PySem.W.codeIn K cd11 "_law_product" = true) (k11 : PySem.W.keepIn K (.ref f11) = true)
    {f12 : Addr} {od12 an12 : Option Addr} {sl12 : Array (Option Value)} {oc12 kV12 dc12 pm12 cd12 ct12 : Value}
    (a12 : PySem.W.nsIn K mainGlobals "_law_pairs" = some (some (.ref f12))) (l12 : K.lookup f12 = some ⟨oc12, od12, .func (PySem.W.fnOf "_law_pairs" "_law_pairs" (defArgs s_law_pairs) (defBody s_law_pairs) (defScope s_law_pairs) .none kV12 dc12 pm12 an12 cd12 ct12), sl12⟩) (e12 : PySem.W.codeIn K cd12 "_law_pairs" = true) (k12 : PySem.W.keepIn K (.ref f12) = true)
    {f13 : Addr} {od13 an13 : Option Addr} {sl13 : Array (Option Value)} {oc13 kV13 dc13 pm13 cd13 ct13 : Value}
    (a13 : PySem.W.nsIn K mainGlobals "law" = some (some (.ref f13))) (l13 : K.lookup f13 = some ⟨oc13, od13, .func (PySem.W.fnOf "law" "law" (defArgs s_law) (defBody s_law) (defScope s_law) .none kV13 dc13 pm13 an13 cd13 ct13), sl13⟩) (e13 : PySem.W.codeIn K cd13 "law" = true) (k13 : PySem.W.keepIn K (.ref f13) = true)
    {tc0 : Tok} (x0 : PySem.W.nsIn K mainGlobals "GREATEST" = some (some (.int 100 tc0)))
    (z0 : PySem.W.nsIn K mainGlobals "len" = some none)
    (z1 : PySem.W.nsIn K mainGlobals "range" = some none)
    (z2 : PySem.W.nsIn K mainGlobals "isinstance" = some none)
    (z3 : PySem.W.nsIn K mainGlobals "int" = some none)
    (z4 : PySem.W.nsIn K mainGlobals "bool" = some none)
    (z5 : PySem.W.nsIn K mainGlobals "max" = some none)
    (z6 : PySem.W.nsIn K mainGlobals "min" = some none)
    : ∃ fd : FuncData, (∀ (s : Shared) (v : Value), BindsTo s fd ⟨[v], []⟩ [("_law_script", v)]) ∧ ∀ base : Heap, K.In base → base.Ns mainGlobals mg → FnOk l.prog w K mg base CX0 8 fa fd ["_law_script"] (spLaw K) := by
  have e := hfa.symm.trans (PySem.W.mg_of X G a13)
  cases e
  have F0 := fun_mk (st := s_is_whole) l0 e0 k0
  have F1 := fun_mk (st := s_check_count) l1 e1 k1
  have F2 := fun_mk (st := s_check_counts) l2 e2 k2
  have F3 := fun_mk (st := s_how_many) l3 e3 k3
  have F4 := fun_mk (st := s_law_cell_at) l4 e4 k4
  have F5 := fun_mk (st := s_law_draw) l5 e5 k5
  have F6 := fun_mk (st := s_law_value) l6 e6 k6
  have F7 := fun_mk (st := s_law_whole) l7 e7 k7
  have F8 := fun_mk (st := s_law_ring) l8 e8 k8
  have F9 := fun_mk (st := s_law_longest) l9 e9 k9
  have F10 := fun_mk (st := s_law_orders) l10 e10 k10
  have F11 := fun_mk (st := s_law_product) l11 e11 k11
  have F12 := fun_mk (st := s_law_pairs) l12 e12 k12
  have F13 := fun_mk (st := s_law) l13 e13 k13
  refine ⟨_, fun s v => ?b, fun base _ _ => ok_law ⟨⟨_, _, F0, PySem.W.mg_of X G a0, F0.binds (ps := ["thing"]) fun _ _ _ _ _ _ us hl => match us, hl with | [_], _ => rfl⟩, ⟨_, _, F1, PySem.W.mg_of X G a1, F1.binds (ps := ["boxes", "most"]) fun _ _ _ _ _ _ us hl => match us, hl with | [_, _], _ => rfl⟩, ⟨_, _, F2, PySem.W.mg_of X G a2, F2.binds (ps := ["boxes", "most", "greatest"]) fun _ _ _ _ _ _ us hl => match us, hl with | [_, _, _], _ => rfl⟩, ⟨_, _, F3, PySem.W.mg_of X G a3, F3.binds (ps := ["boxes", "most"]) fun _ _ _ _ _ _ us hl => match us, hl with | [_, _], _ => rfl⟩, ⟨_, _, F4, PySem.W.mg_of X G a4, F4.binds (ps := ["_law_script", "_law_k"]) fun _ _ _ _ _ _ us hl => match us, hl with | [_, _], _ => rfl⟩, ⟨_, _, F5, PySem.W.mg_of X G a5, F5.binds (ps := ["_law_cell", "_law_k", "_law_many"]) fun _ _ _ _ _ _ us hl => match us, hl with | [_, _, _], _ => rfl⟩, ⟨_, _, F6, PySem.W.mg_of X G a6, F6.binds (ps := ["_law_cell", "_law_turn"]) fun _ _ _ _ _ _ us hl => match us, hl with | [_, _], _ => rfl⟩, ⟨_, _, F7, PySem.W.mg_of X G a7, F7.binds (ps := ["_law_number"]) fun _ _ _ _ _ _ us hl => match us, hl with | [_], _ => rfl⟩, ⟨_, _, F8, PySem.W.mg_of X G a8, F8.binds (ps := ["_law_boxes", "_law_hand"]) fun _ _ _ _ _ _ us hl => match us, hl with | [_, _], _ => rfl⟩, ⟨_, _, F9, PySem.W.mg_of X G a9, F9.binds (ps := ["_law_boxes"]) fun _ _ _ _ _ _ us hl => match us, hl with | [_], _ => rfl⟩, ⟨_, _, F10, PySem.W.mg_of X G a10, F10.binds (ps := ["_law_many"]) fun _ _ _ _ _ _ us hl => match us, hl with | [_], _ => rfl⟩, ⟨_, _, F11, PySem.W.mg_of X G a11, F11.binds (ps := ["_law_many"]) fun _ _ _ _ _ _ us hl => match us, hl with | [_], _ => rfl⟩, ⟨_, _, F12, PySem.W.mg_of X G a12, F12.binds (ps := ["_law_many"]) fun _ _ _ _ _ _ us hl => match us, hl with | [_], _ => rfl⟩, _, PySem.W.mg_of X G x0, PySem.W.mg_none_of X G z0, PySem.W.mg_none_of X G z1, PySem.W.mg_none_of X G z2, PySem.W.mg_none_of X G z3, PySem.W.mg_none_of X G z4, PySem.W.mg_none_of X G z5, PySem.W.mg_none_of X G z6⟩ F13⟩
  exact .of_eq rfl
end Sb
open PySem PySem.W PyProof.Rows
set_option maxHeartbeats 0 in
theorem PySem.Challenge.cw_slipboxes_k04_whole_counted_holds : PySem.Challenge.rw_slipboxes_k04_whole_counted.Holds := by
  w_on; o_law; k_head; (case hw => w_witness2)
  k_fill
  refine L2.walk_ofB (l := PySem.Challenge.rw_slipboxes_k04_whole_counted) (n := 63) (k := 8) (x := "_law_script") (CX := fun _ => L2.CX0) (sp := fun w => Sb.spLaw _) rfl (by decide) rfl ⟨rfl, by decide, by decide⟩ (fun w h Y => PySem.W.kIn_of Y) ?F (fun _ _ a ns hl hb _ hS => ⟨a, ns, rfl, hS, hl, hb, fun _ => rfl⟩) (fun _ _ _ _ _ h => h)
  case F =>
    intro w mg fa h KX G hmg
    refine' Sb.all_mk KX G hmg ?a0 ?l0 ?e0 ?k0 ?a1 ?l1 ?e1 ?k1 ?a2 ?l2 ?e2 ?k2 ?a3 ?l3 ?e3 ?k3 ?a4 ?l4 ?e4 ?k4 ?a5 ?l5 ?e5 ?k5 ?a6 ?l6 ?e6 ?k6 ?a7 ?l7 ?e7 ?k7 ?a8 ?l8 ?e8 ?k8 ?a9 ?l9 ?e9 ?k9 ?a10 ?l10 ?e10 ?k10 ?a11 ?l11 ?e11 ?k11 ?a12 ?l12 ?e12 ?k12 ?a13 ?l13 ?e13 ?k13 ?x0 ?z0 ?z1 ?z2 ?z3 ?z4 ?z5 ?z6
    (case a0 => k_is)
    (case l0 => k_is)
    (case e0 => k_is)
    (case k0 => k_is)
    (case a1 => k_is)
    (case l1 => k_is)
    (case e1 => k_is)
    (case k1 => k_is)
    (case a2 => k_is)
    (case l2 => k_is)
    (case e2 => k_is)
    (case k2 => k_is)
    (case a3 => k_is)
    (case l3 => k_is)
    (case e3 => k_is)
    (case k3 => k_is)
    (case a4 => k_is)
    (case l4 => k_is)
    (case e4 => k_is)
    (case k4 => k_is)
    (case a5 => k_is)
    (case l5 => k_is)
    (case e5 => k_is)
    (case k5 => k_is)
    (case a6 => k_is)
    (case l6 => k_is)
    (case e6 => k_is)
    (case k6 => k_is)
    (case a7 => k_is)
    (case l7 => k_is)
    (case e7 => k_is)
    (case k7 => k_is)
    (case a8 => k_is)
    (case l8 => k_is)
    (case e8 => k_is)
    (case k8 => k_is)
    (case a9 => k_is)
    (case l9 => k_is)
    (case e9 => k_is)
    (case k9 => k_is)
    (case a10 => k_is)
    (case l10 => k_is)
    (case e10 => k_is)
    (case k10 => k_is)
    (case a11 => k_is)
    (case l11 => k_is)
    (case e11 => k_is)
    (case k11 => k_is)
    (case a12 => k_is)
    (case l12 => k_is)
    (case e12 => k_is)
    (case k12 => k_is)
    (case a13 => k_is)
    (case l13 => k_is)
    (case e13 => k_is)
    (case k13 => k_is)
    (case x0 => k_is)
    (case z0 => k_is)
    (case z1 => k_is)
    (case z2 => k_is)
    (case z3 => k_is)
    (case z4 => k_is)
    (case z5 => k_is)
    (case z6 => k_is)

