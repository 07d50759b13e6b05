import PyProof.Rows.All
import Wide.All
import OpenK.AllK
import Wide.FinOn
import HandS.ForMost
import HandS.IsInst
import HandS.Conv
import HandS.More
import HandS.Zip
import HandS.Wide
import HandS.SortInts
import HandS.EndBits
import KE.IntBitsLaws
import PySem.Challenge.RW_slipboxes_k01_opened
set_option Elab.async false
set_option linter.all false
set_option maxRecDepth 100000
set_option maxHeartbeats 4000000
/-! Rings of boxes, in plain Lean. -/
namespace Sb

/-- the slip in box i -/
def nxt (ns : List Nat) (i : Nat) : Nat := ns.getD i 0

/-- boxes: each number below the length once -/
structure Good (ns : List Nat) : Prop where
  perm : ns.Perm (List.range ns.length)

theorem Good.nodup {ns : List Nat} (g : Good ns) : ns.Nodup := g.perm.nodup_iff.mpr List.nodup_range
theorem Good.lt {ns : List Nat} (g : Good ns) {x : Nat} (h : x ∈ ns) : x < ns.length := List.mem_range.mp (g.perm.mem_iff.mp h)
theorem Good.mem {ns : List Nat} (g : Good ns) {x : Nat} (h : x < ns.length) : x ∈ ns := g.perm.mem_iff.mpr (List.mem_range.mpr h)

theorem nxt_get {ns : List Nat} {i : Nat} (h : i < ns.length) : nxt ns i = ns[i] := by
  unfold nxt; rw [List.getD_eq_getElem?_getD, List.getElem?_eq_getElem h]; rfl
theorem nxt_get? {ns : List Nat} {i : Nat} (h : i < ns.length) : ns[i]? = some (nxt ns i) := by
  rw [nxt_get h, List.getElem?_eq_getElem h]
theorem Good.nxt_lt {ns : List Nat} (g : Good ns) {i : Nat} (h : i < ns.length) : nxt ns i < ns.length := by
  rw [nxt_get h]; exact g.lt (List.getElem_mem h)
theorem Good.inj {ns : List Nat} (g : Good ns) {i j : Nat} (hi : i < ns.length) (hj : j < ns.length) (e : nxt ns i = nxt ns j) : i = j := by
  rw [nxt_get hi, nxt_get hj] at e
  exact (List.getElem_inj g.nodup).mp e

/-- r goes from h on where the slips lead, no box twice -/
structure Chain (ns : List Nat) (h : Nat) (r : List Nat) : Prop where
  head : r[0]? = some h
  step : ∀ i x y, r[i]? = some x → r[i + 1]? = some y → nxt ns x = y
  nd : r.Nodup
  lt : ∀ x ∈ r, x < ns.length

/-- a ring from h on -/
structure IsRing (ns : List Nat) (h : Nat) (r : List Nat) : Prop extends Chain ns h r where
  back : ∀ x, r[r.length - 1]? = some x → nxt ns x = h

theorem Chain.pos {ns : List Nat} {h : Nat} {r : List Nat} (c : Chain ns h r) : 0 < r.length := by
  have := c.head
  cases r with
  | nil => simp at this
  | cons a l => simp
theorem Chain.hlt {ns : List Nat} {h : Nat} {r : List Nat} (c : Chain ns h r) : h < ns.length := c.lt h (List.mem_of_getElem? c.head)
theorem Chain.hmem {ns : List Nat} {h : Nat} {r : List Nat} (c : Chain ns h r) : h ∈ r := List.mem_of_getElem? c.head
theorem Chain.one {ns : List Nat} {h : Nat} (hh : h < ns.length) : Chain ns h [h] where
  head := rfl
  step := fun i x y _ e => by simp at e
  nd := by simp
  lt := fun x hx => by simp at hx; subst hx; exact hh

theorem nodup_le : ∀ {n : Nat} {r : List Nat}, r.Nodup → (∀ x ∈ r, x < n) → r.length ≤ n
  | 0, r, _, lt => by
    cases r with
    | nil => simp
    | cons a l => exact absurd (lt a List.mem_cons_self) (Nat.not_lt_zero a)
  | n + 1, r, nd, lt => by
    have ih := nodup_le (n := n) (r := r.erase n) (nd.erase n) fun x hx => by
      have h1 := lt x (List.mem_of_mem_erase hx)
      have h2 : x ≠ n := fun e => by
        subst e
        exact (List.Nodup.not_mem_erase nd) hx
      omega
    by_cases h : n ∈ r
    · rw [List.length_erase_of_mem h] at ih
      omega
    · rw [List.erase_of_not_mem h] at ih
      omega
theorem Chain.len_le {ns : List Nat} {h : Nat} {r : List Nat} (c : Chain ns h r) : r.length ≤ ns.length := nodup_le c.nd c.lt

/-- the slip behind a chain is its first box, or a new one -/
theorem Chain.slip {ns : List Nat} {h : Nat} {r : List Nat} (g : Good ns) (c : Chain ns h r) {x : Nat} (hx : r[r.length - 1]? = some x) (hm : nxt ns x ∈ r) : nxt ns x = h := by
  obtain ⟨j, hj, e⟩ := List.mem_iff_getElem.mp hm
  cases j with
  | zero =>
    have := c.head
    rw [List.getElem?_eq_getElem hj] at this
    rw [← e]; exact Option.some.inj this
  | succ j =>
    exfalso
    have hj' : j < r.length := by omega
    have e1 : nxt ns r[j] = r[j + 1] := c.step j _ _ (List.getElem?_eq_getElem hj') (List.getElem?_eq_getElem hj)
    have hl : r.length - 1 < r.length := by omega
    have ex : r[r.length - 1] = x := by
      rw [List.getElem?_eq_getElem hl] at hx
      exact Option.some.inj hx
    have e2 : r[j] = x := g.inj (c.lt _ (List.getElem_mem hj')) (c.lt _ (ex ▸ List.getElem_mem hl)) (by rw [e1, e])
    have : j = r.length - 1 := (List.getElem_inj c.nd).mp (e2.trans ex.symm)
    omega

theorem last?_append {r : List Nat} {y : Nat} : (r ++ [y])[(r ++ [y]).length - 1]? = some y := by
  simp

theorem Chain.more {ns : List Nat} {h : Nat} {r : List Nat} (c : Chain ns h r) {x : Nat} (hx : r[r.length - 1]? = some x) (hn : nxt ns x ∉ r) (hl : nxt ns x < ns.length) : Chain ns h (r ++ [nxt ns x]) where
  head := by
    rw [List.getElem?_append_left c.pos]; exact c.head
  step := fun i a b ha hb => by
    by_cases hi : i + 1 < r.length
    · rw [List.getElem?_append_left (by omega)] at ha
      rw [List.getElem?_append_left hi] at hb
      exact c.step i a b ha hb
    · have hlt : i + 1 < (r ++ [nxt ns x]).length := by
        obtain ⟨h1, _⟩ := List.getElem?_eq_some_iff.mp hb; exact h1
      rw [List.length_append] at hlt
      simp at hlt
      have hi2 : i = r.length - 1 := by omega
      have hp := c.pos
      rw [List.getElem?_append_left (by omega), hi2, hx] at ha
      rw [List.getElem?_append_right (by omega)] at hb
      have : i + 1 - r.length = 0 := by omega
      rw [this] at hb
      cases ha
      simpa using hb
  nd := by
    rw [List.nodup_append]
    refine ⟨c.nd, by simp, ?_⟩
    intro a ha b hb
    simp at hb
    subst hb
    intro e; subst e; exact hn ha
  lt := fun y hy => by
    rcases List.mem_append.mp hy with z | z
    · exact c.lt y z
    · simp at z; subst z; exact hl

theorem Chain.last {ns : List Nat} {h : Nat} {r : List Nat} (c : Chain ns h r) : ∃ x, r[r.length - 1]? = some x ∧ x ∈ r ∧ x < ns.length := by
  have hp := c.pos
  have hl : r.length - 1 < r.length := by omega
  exact ⟨r[r.length - 1], List.getElem?_eq_getElem hl, List.getElem_mem hl, c.lt _ (List.getElem_mem hl)⟩

/-- the ring of a hand, by steps -/
def ringGo (ns : List Nat) (h : Nat) : Nat → List Nat → List Nat
  | 0, r => r
  | k + 1, r => if nxt ns (r.getLastD 0) = h then r else ringGo ns h k (r ++ [nxt ns (r.getLastD 0)])
def ringOf (ns : List Nat) (h : Nat) : List Nat := ringGo ns h ns.length [h]

theorem getLastD_of {r : List Nat} {x : Nat} (hx : r[r.length - 1]? = some x) : r.getLastD 0 = x := by
  rw [List.getLastD_eq_getLast?, List.getLast?_eq_getElem?, hx]; rfl

theorem ringGo_is {ns : List Nat} {h : Nat} (g : Good ns) : ∀ (k : Nat) (r : List Nat), Chain ns h r → ns.length < r.length + k → IsRing ns h (ringGo ns h k r)
  | 0, r, c, hk => by have := c.len_le; omega
  | k + 1, r, c, hk => by
    obtain ⟨x, hx, hm, hl⟩ := c.last
    unfold ringGo
    rw [getLastD_of hx]
    by_cases e : nxt ns x = h
    · rw [if_pos e]
      exact ⟨c, fun y hy => by rw [hx] at hy; cases hy; exact e⟩
    · rw [if_neg e]
      refine ringGo_is g k _ (c.more hx (fun z => e (c.slip g hx z)) (g.nxt_lt hl)) ?_
      rw [List.length_append, List.length_singleton]; omega

theorem ringOf_is {ns : List Nat} {h : Nat} (g : Good ns) (hh : h < ns.length) : IsRing ns h (ringOf ns h) :=
  ringGo_is g _ _ (Chain.one hh) (by simp)

theorem Chain.same {ns : List Nat} {h : Nat} {r q : List Nat} (c : Chain ns h r) (d : Chain ns h q) : ∀ i, i < r.length → i < q.length → r[i]? = q[i]?
  | 0, _, _ => c.head.trans d.head.symm
  | i + 1, h1, h2 => by
    have ih := Chain.same c d i (by omega) (by omega)
    have e1 := c.step i _ _ (List.getElem?_eq_getElem (by omega)) (List.getElem?_eq_getElem h1)
    have e2 := d.step i _ _ (List.getElem?_eq_getElem (by omega)) (List.getElem?_eq_getElem h2)
    rw [List.getElem?_eq_getElem (by omega), List.getElem?_eq_getElem (by omega)] at ih
    rw [List.getElem?_eq_getElem h1, List.getElem?_eq_getElem h2, ← e1, ← e2, Option.some.inj ih]

theorem IsRing.not_lt {ns : List Nat} {h : Nat} {r q : List Nat} (c : IsRing ns h r) (d : Chain ns h q) : ¬ r.length < q.length := fun hlt => by
  have hp := c.pos
  obtain ⟨x, hx, hm, hl⟩ := c.toChain.last
  have e := Chain.same c.toChain d (r.length - 1) (by omega) (by omega)
  have b := c.back x hx
  rw [hx] at e
  have s := d.step (r.length - 1) x _ e.symm (by rw [show r.length - 1 + 1 = r.length by omega]; exact List.getElem?_eq_getElem hlt)
  rw [b] at s
  have h0 := d.head
  have hq : 0 < q.length := by omega
  rw [List.getElem?_eq_getElem hq] at h0
  have : 0 = r.length := (List.getElem_inj d.nd).mp ((Option.some.inj h0).trans s)
  omega

theorem IsRing.unique {ns : List Nat} {h : Nat} {r q : List Nat} (c : IsRing ns h r) (d : IsRing ns h q) : r = q := by
  have hl : r.length = q.length := by
    have h1 := c.not_lt d.toChain
    have h2 := d.not_lt c.toChain
    omega
  apply List.ext_getElem? 
  intro i
  by_cases hi : i < r.length
  · exact Chain.same c.toChain d.toChain i hi (by omega)
  · rw [List.getElem?_eq_none (by omega), List.getElem?_eq_none (by omega)]

theorem IsRing.eq {ns : List Nat} {h : Nat} {r : List Nat} (g : Good ns) (c : IsRing ns h r) : r = ringOf ns h := c.unique (ringOf_is g c.toChain.hlt)

end Sb

namespace Sb

theorem ringOf_nd {ns : List Nat} {h : Nat} (g : Good ns) (hh : h < ns.length) : (ringOf ns h).Nodup := (ringOf_is g hh).nd
theorem ringOf_lt {ns : List Nat} {h x : Nat} (g : Good ns) (hh : h < ns.length) (hx : x ∈ ringOf ns h) : x < ns.length := (ringOf_is g hh).lt x hx
theorem ringOf_mem {ns : List Nat} {h : Nat} (g : Good ns) (hh : h < ns.length) : h ∈ ringOf ns h := (ringOf_is g hh).toChain.hmem
theorem ringOf_len {ns : List Nat} {h : Nat} (g : Good ns) (hh : h < ns.length) : (ringOf ns h).length ≤ ns.length := (ringOf_is g hh).toChain.len_le
theorem ringOf_pos {ns : List Nat} {h : Nat} (g : Good ns) (hh : h < ns.length) : 0 < (ringOf ns h).length := (ringOf_is g hh).toChain.pos

/-- consecutive boxes of a list, each leading to the next -/
def Leads (ns : List Nat) : List Nat → Prop
  | x :: y :: r => nxt ns x = y ∧ Leads ns (y :: r)
  | _ => True

/-- IsRing by a list's own form -/
theorem isRing_iff {ns : List Nat} {h : Nat} {r : List Nat} : IsRing ns h r ↔ r[0]? = some h ∧ r.Nodup ∧ (∀ x ∈ r, x < ns.length) ∧ ∀ i x y, r[i]? = some x → r[(i + 1) % r.length]? = some y → nxt ns x = y := by
  constructor
  · intro c
    refine ⟨c.head, c.nd, c.lt, fun i x y hx hy => ?_⟩
    have hi : i < r.length := (List.getElem?_eq_some_iff.mp hx).1
    by_cases hl : i + 1 < r.length
    · rw [Nat.mod_eq_of_lt hl] at hy
      exact c.step i x y hx hy
    · have e : i + 1 = r.length := by omega
      rw [e, Nat.mod_self, c.head] at hy
      cases hy
      exact c.back x (by rw [← e]; exact hx)
  · rintro ⟨h0, nd, lt, st⟩
    refine ⟨⟨h0, fun i x y hx hy => ?_, nd, lt⟩, fun x hx => ?_⟩
    · have hl : i + 1 < r.length := (List.getElem?_eq_some_iff.mp hy).1
      exact st i x y hx (by rw [Nat.mod_eq_of_lt hl]; exact hy)
    · have hi : r.length - 1 < r.length := (List.getElem?_eq_some_iff.mp hx).1
      exact st (r.length - 1) x h hx (by rw [show r.length - 1 + 1 = r.length by omega, Nat.mod_self]; exact h0)

/-- a ring turned -/
theorem IsRing.turn {ns : List Nat} {h y : Nat} {a b : List Nat} (c : IsRing ns h (a ++ y :: b)) : IsRing ns y (y :: b ++ a) := by
  rw [isRing_iff] at c ⊢
  obtain ⟨h0, nd, lt, st⟩ := c
  refine ⟨rfl, ?_, fun x hx => lt x ?_, fun i x z hx hz => ?_⟩
  · exact (List.perm_append_comm.nodup_iff).mp nd
  · exact (List.perm_append_comm.mem_iff).mp hx
  · have hn : (y :: b ++ a).length = (a ++ y :: b).length := by simp; omega
    have key : ∀ j, j < (a ++ y :: b).length → (y :: b ++ a)[j]? = (a ++ y :: b)[(j + a.length) % (a ++ y :: b).length]? := by
      intro j hj
      by_cases hjb : j < (y :: b).length
      · have e : (j + a.length) % (a ++ y :: b).length = j + a.length := Nat.mod_eq_of_lt (by rw [List.length_append]; omega)
        rw [e, List.getElem?_append_left hjb, List.getElem?_append_right (by omega)]
        congr 1; omega
      · have hl : (a ++ y :: b).length = a.length + (y :: b).length := List.length_append
        have e : (j + a.length) % (a ++ y :: b).length = j - (y :: b).length := by
          rw [Nat.mod_eq_sub_mod (by omega), Nat.mod_eq_of_lt (by omega)]; omega
        rw [e, List.getElem?_append_right (by omega), List.getElem?_append_left (by omega)]
    have hi : i < (a ++ y :: b).length := by
      have := (List.getElem?_eq_some_iff.mp hx).1; omega
    rw [key i hi] at hx
    rw [hn, key _ (Nat.mod_lt _ (by omega))] at hz
    refine st _ x z hx ?_
    rw [← hz]
    congr 1
    rw [Nat.mod_add_mod, Nat.mod_add_mod]
    congr 1; omega

theorem ringOf_turn {ns : List Nat} {h y : Nat} (g : Good ns) (hh : h < ns.length) (hy : y ∈ ringOf ns h) : ∃ a b, ringOf ns h = a ++ y :: b ∧ ringOf ns y = y :: b ++ a := by
  obtain ⟨a, b, e⟩ := List.append_of_mem hy
  have c := ringOf_is g hh
  rw [e] at c
  exact ⟨a, b, e, (c.turn.eq g).symm⟩

theorem ringOf_perm {ns : List Nat} {h y : Nat} (g : Good ns) (hh : h < ns.length) (hy : y ∈ ringOf ns h) : (ringOf ns y).Perm (ringOf ns h) := by
  obtain ⟨a, b, e1, e2⟩ := ringOf_turn g hh hy
  rw [e1, e2]
  exact List.perm_append_comm
theorem ringOf_mem_iff {ns : List Nat} {h y x : Nat} (g : Good ns) (hh : h < ns.length) (hy : y ∈ ringOf ns h) : x ∈ ringOf ns y ↔ x ∈ ringOf ns h := (ringOf_perm g hh hy).mem_iff
theorem ringOf_symm {ns : List Nat} {h y : Nat} (g : Good ns) (hh : h < ns.length) (hy : y ∈ ringOf ns h) : h ∈ ringOf ns y := (ringOf_mem_iff g hh hy).mpr (ringOf_mem g hh)
theorem ringOf_len_eq {ns : List Nat} {h y : Nat} (g : Good ns) (hh : h < ns.length) (hy : y ∈ ringOf ns h) : (ringOf ns y).length = (ringOf ns h).length := (ringOf_perm g hh hy).length_eq

/-- h is the least of its ring -/
def isMin (ns : List Nat) (h : Nat) : Bool := (ringOf ns h).all fun x => decide (h ≤ x)
theorem isMin_iff {ns : List Nat} {h : Nat} : isMin ns h = true ↔ ∀ x ∈ ringOf ns h, h ≤ x := by
  unfold isMin
  rw [List.all_eq_true]
  simp
/-- the rings from the boxes below k on -/
def ringsTo (ns : List Nat) (k : Nat) : List (List Nat) := ((List.range k).filter (isMin ns)).map (ringOf ns)
def ringsOf (ns : List Nat) : List (List Nat) := ringsTo ns ns.length
theorem ringsTo_zero (ns : List Nat) : ringsTo ns 0 = [] := rfl
theorem ringsTo_succ (ns : List Nat) (k : Nat) : ringsTo ns (k + 1) = if isMin ns k = true then ringsTo ns k ++ [ringOf ns k] else ringsTo ns k := by
  unfold ringsTo
  rw [List.range_succ, List.filter_append, List.map_append]
  by_cases h : isMin ns k = true
  · rw [if_pos h]; simp [h]
  · rw [if_neg h]; simp [h]

theorem exists_min : ∀ (r : List Nat), r ≠ [] → ∃ m, m ∈ r ∧ ∀ x ∈ r, m ≤ x
  | [], h => absurd rfl h
  | [a], _ => ⟨a, by simp, fun x hx => by simp at hx; omega⟩
  | a :: b :: l, _ => by
    obtain ⟨m, hm, hl⟩ := exists_min (b :: l) (by simp)
    by_cases h : a ≤ m
    · exact ⟨a, by simp, fun x hx => by
        rcases List.mem_cons.mp hx with e | e
        · omega
        · have := hl x e; omega⟩
    · exact ⟨m, List.mem_cons_of_mem _ hm, fun x hx => by
        rcases List.mem_cons.mp hx with e | e
        · omega
        · exact hl x e⟩

/-- box k stands in a ring from a lesser box on, just where it is not the least of its own -/
theorem gone_iff {ns : List Nat} (g : Good ns) {k : Nat} (hk : k < ns.length) : k ∈ (ringsTo ns k).flatten ↔ ¬ isMin ns k = true := by
  unfold ringsTo
  rw [List.mem_flatten]
  constructor
  · rintro ⟨r, hr, hkr⟩ hm
    obtain ⟨h, hh, rfl⟩ := List.mem_map.mp hr
    obtain ⟨h1, h2⟩ := List.mem_filter.mp hh
    have h3 := List.mem_range.mp h1
    have := isMin_iff.mp hm h (ringOf_symm g (by omega) hkr)
    omega
  · intro hm
    obtain ⟨m, hm1, hm2⟩ := exists_min (ringOf ns k) (fun e => by have := ringOf_pos g hk; rw [e] at this; simp at this)
    have hmk : m ≤ k := hm2 k (ringOf_mem g hk)
    have hml : m < ns.length := ringOf_lt g hk hm1
    have hmin : isMin ns m = true := isMin_iff.mpr fun x hx => hm2 x ((ringOf_mem_iff g hk hm1).mp hx)
    have hne : m ≠ k := fun e => by subst e; exact hm hmin
    exact ⟨ringOf ns m, List.mem_map.mpr ⟨m, List.mem_filter.mpr ⟨List.mem_range.mpr (by omega), hmin⟩, rfl⟩, ringOf_symm g hk hm1⟩

theorem ringsOf_mem {ns : List Nat} {r : List Nat} (h : r ∈ ringsOf ns) : ∃ k, k < ns.length ∧ isMin ns k = true ∧ r = ringOf ns k := by
  unfold ringsOf ringsTo at h
  obtain ⟨k, hk, rfl⟩ := List.mem_map.mp h
  obtain ⟨h1, h2⟩ := List.mem_filter.mp hk
  exact ⟨k, List.mem_range.mp h1, h2, rfl⟩
theorem ringsTo_len (ns : List Nat) (k : Nat) : (ringsTo ns k).length ≤ k := by
  unfold ringsTo
  rw [List.length_map]
  have := List.length_filter_le (isMin ns) (List.range k)
  rwa [List.length_range] at this
end Sb

namespace Sb

/-! ### boxes laid by a law's own steps -/
theorem good_of_perm {ns : List Nat} {m : Nat} (h : ns.Perm (List.range m)) : Good ns := ⟨by
  have e : ns.length = m := by rw [h.length_eq, List.length_range]
  rw [e]; exact h⟩
theorem insert_perm {ns : List Nat} {i m : Nat} (h : ns.Perm (List.range m)) : (ns.take i ++ [m] ++ ns.drop i).Perm (List.range (m + 1)) := by
  rw [List.range_succ]
  have h1 : (ns.take i ++ [m] ++ ns.drop i).Perm (ns.take i ++ ns.drop i ++ [m]) := by
    rw [List.append_assoc, List.append_assoc]
    exact List.Perm.append_left _ List.perm_append_comm
  rw [List.take_append_drop] at h1
  exact h1.trans (List.Perm.append_right _ h)

/-- slips laid one after the other -/
def layAll (f : List Nat) (ps : List (Nat × Nat)) : List Nat := ps.foldl (fun f p => f.set p.1 p.2) f
theorem layAll_snoc (f : List Nat) (ps : List (Nat × Nat)) (p : Nat × Nat) : layAll f (ps ++ [p]) = (layAll f ps).set p.1 p.2 := by
  unfold layAll; rw [List.foldl_append]; rfl
theorem layAll_len : ∀ (ps : List (Nat × Nat)) (f : List Nat), (layAll f ps).length = f.length
  | [], _ => rfl
  | p :: ps, f => by
    show (layAll (f.set p.1 p.2) ps).length = f.length
    rw [layAll_len ps, List.length_set]
theorem nxt_set_ne {f : List Nat} {i j v : Nat} (h : i ≠ j) : nxt (f.set i v) j = nxt f j := by
  unfold nxt; rw [List.getD_eq_getElem?_getD, List.getD_eq_getElem?_getD, List.getElem?_set_ne h]
theorem nxt_set_eq {f : List Nat} {i v : Nat} (h : i < f.length) : nxt (f.set i v) i = v := by
  unfold nxt; rw [List.getD_eq_getElem?_getD, List.getElem?_set_self h]; rfl
theorem layAll_out : ∀ (ps : List (Nat × Nat)) (f : List Nat) (x : Nat), x ∉ ps.map (·.1) → nxt (layAll f ps) x = nxt f x
  | [], _, _, _ => rfl
  | p :: ps, f, x, h => by
    show nxt (layAll (f.set p.1 p.2) ps) x = nxt f x
    rw [List.map_cons, List.mem_cons, not_or] at h
    rw [layAll_out ps _ x h.2, nxt_set_ne (fun e => h.1 e.symm)]
theorem layAll_in : ∀ (ps : List (Nat × Nat)) (f : List Nat), (ps.map (·.1)).Nodup → (∀ p ∈ ps, p.1 < f.length) → (ps.map (·.1)).map (nxt (layAll f ps)) = ps.map (·.2)
  | [], _, _, _ => rfl
  | p :: ps, f, nd, lt => by
    rw [List.map_cons, List.nodup_cons] at nd
    have e1 : nxt (layAll (f.set p.1 p.2) ps) p.1 = p.2 := by
      rw [layAll_out ps _ _ nd.1, nxt_set_eq (lt p List.mem_cons_self)]
    have e2 := layAll_in ps (f.set p.1 p.2) nd.2 (fun q hq => by rw [List.length_set]; exact lt q (List.mem_cons_of_mem _ hq))
    show nxt (layAll (f.set p.1 p.2) ps) p.1 :: (ps.map (·.1)).map (nxt (layAll (f.set p.1 p.2) ps)) = _
    rw [e1, e2]; rfl

/-- a ring's boxes and their slips -/
def rot (r : List Nat) : List Nat := r.drop 1 ++ r.take 1
theorem rot_perm (r : List Nat) : (rot r).Perm r := by
  unfold rot
  exact List.perm_append_comm.trans (by rw [List.take_append_drop])
theorem rot_len (r : List Nat) : (rot r).length = r.length := (rot_perm r).length_eq
theorem zip_fst {r q : List Nat} (h : r.length = q.length) : (r.zip q).map (·.1) = r := by
  rw [List.map_fst_zip]; omega
theorem zip_snd {r q : List Nat} (h : r.length = q.length) : (r.zip q).map (·.2) = q := by
  rw [List.map_snd_zip]; omega

/-- what holds between the blocks: the boxes of the first b of the order lead to one another -/
structure Laid (order f : List Nat) (b : Nat) : Prop where
  len : f.length = order.length
  perm : ((order.take b).map (nxt f)).Perm (order.take b)
theorem Laid.start (order : List Nat) (f : List Nat) (h : f.length = order.length) : Laid order f 0 := ⟨h, by simp⟩
theorem Laid.step {order f : List Nat} {b s : Nat} (ho : order.Perm (List.range order.length)) (L : Laid order f b) :
    Laid order (layAll f (((order.drop b).take s).zip (rot ((order.drop b).take s)))) (b + s) := by
  have nd : order.Nodup := ho.nodup_iff.mpr List.nodup_range
  have hr : ((order.drop b).take s).length = (rot ((order.drop b).take s)).length := (rot_len _).symm
  have et : order.take (b + s) = order.take b ++ (order.drop b).take s := List.take_add
  have nd2 : (order.take b ++ (order.drop b).take s).Nodup := by
    rw [← et]; exact nd.sublist (List.take_sublist _ _)
  rw [List.nodup_append] at nd2
  refine ⟨by rw [layAll_len]; exact L.len, ?_⟩
  rw [et, List.map_append]
  refine List.Perm.append ?_ ?_
  · have e : (order.take b).map (nxt (layAll f (((order.drop b).take s).zip (rot ((order.drop b).take s))))) = (order.take b).map (nxt f) := by
      apply List.map_congr_left
      intro x hx
      refine layAll_out _ _ _ ?_
      rw [zip_fst hr]
      exact fun z => nd2.2.2 x hx x z rfl
    rw [e]; exact L.perm
  · have e := layAll_in (((order.drop b).take s).zip (rot ((order.drop b).take s))) f (by rw [zip_fst hr]; exact nd2.2.1) (fun p hp => by
      have h1 : p.1 ∈ (order.drop b).take s := by
        rw [← zip_fst hr]; exact List.mem_map.mpr ⟨p, hp, rfl⟩
      have h2 : p.1 ∈ order := List.mem_of_mem_drop (List.mem_of_mem_take h1)
      rw [L.len]
      exact List.mem_range.mp (ho.mem_iff.mp h2))
    rw [zip_fst hr, zip_snd hr] at e
    rw [e]; exact rot_perm _
theorem map_nxt_range (f : List Nat) : (List.range f.length).map (nxt f) = f := by
  apply List.ext_getElem?
  intro i
  rw [List.getElem?_map]
  by_cases h : i < f.length
  · rw [List.getElem?_range h, nxt_get? h]; rfl
  · rw [List.getElem?_eq_none (by rw [List.length_range]; omega), List.getElem?_eq_none (by omega)]; rfl
theorem Laid.done {order f : List Nat} {b : Nat} (ho : order.Perm (List.range order.length)) (L : Laid order f b) (hb : order.length ≤ b) : Good f := by
  have p := L.perm
  rw [List.take_of_length_le hb] at p
  have q : ((List.range f.length).map (nxt f)).Perm (order.map (nxt f)) := by
    rw [L.len]; exact (ho.map _).symm
  rw [map_nxt_range] at q
  refine good_of_perm (m := order.length) ?_
  exact (q.trans p).trans ho

theorem flatten_len {n : Nat} : ∀ (l : List (List Nat)), (∀ r ∈ l, r.length ≤ n) → l.flatten.length ≤ l.length * n
  | [], _ => by simp
  | r :: l, h => by
    have ih := flatten_len l fun q hq => h q (List.mem_cons_of_mem _ hq)
    have h1 := h r List.mem_cons_self
    rw [List.flatten_cons, List.length_append, List.length_cons, Nat.succ_mul]
    omega
theorem ringsTo_flat {ns : List Nat} (g : Good ns) {k : Nat} (hk : k ≤ ns.length) : (ringsTo ns k).flatten.length ≤ k * ns.length := by
  have h := flatten_len (n := ns.length) (ringsTo ns k) fun r hr => by
    unfold ringsTo at hr
    obtain ⟨h, hh, rfl⟩ := List.mem_map.mp hr
    have := List.mem_range.mp (List.mem_filter.mp hh).1
    exact ringOf_len g (by omega)
  exact Nat.le_trans h (Nat.mul_le_mul_right _ (ringsTo_len ns k))
end Sb

/-! ### the layer's words turned to lists of whole numbers -/
namespace Sb
open PySem PySem.Spec PyProof.Rows L2

/-- numbers from 0 on as values -/
abbrev iv (ns : List Nat) : List V := ns.map fun (n : Nat) => V.int (n : Int)
theorem iv_eq (ns : List Nat) : iv ns = (ns.map fun (n : Nat) => (n : Int)).map V.int := by
  rw [List.map_map]; rfl
theorem iv_len (ns : List Nat) : (iv ns).length = ns.length := List.length_map ..
theorem iv_get? (ns : List Nat) (i : Nat) : (iv ns)[i]? = (ns[i]?).map fun (n : Nat) => V.int (n : Int) := List.getElem?_map ..
theorem iv_at {ns : List Nat} {i x : Nat} (h : ns[i]? = some x) : atI (iv ns) (i : Int) = some (.int (x : Int)) := atI_nat (by rw [iv_get?, h]; rfl)
theorem iv_snoc (ns : List Nat) (x : Nat) : iv ns ++ [.int (x : Int)] = iv (ns ++ [x]) := by
  show _ = List.map _ _
  rw [List.map_append]; rfl
theorem iv_last {ns : List Nat} {x : Nat} (h : ns[ns.length - 1]? = some x) : atI (iv ns) (-1) = some (.int (x : Int)) := by
  have hne : ns ≠ [] := fun e => by subst e; simp at h
  have e : ns = ns.dropLast ++ [x] := by
    have := List.dropLast_concat_getLast hne
    rw [List.getLast_eq_getElem] at this
    have hl : ns.length - 1 < ns.length := by have := List.length_pos_iff.mpr hne; omega
    rw [List.getElem?_eq_getElem hl] at h
    rw [Option.some.inj h] at this
    exact this.symm
  rw [e, ← iv_snoc]
  exact atI_last _ _
theorem iv_inj {a b : List Nat} (h : iv a = iv b) : a = b := by
  induction a generalizing b with
  | nil => cases b with
    | nil => rfl
    | cons y b => cases h
  | cons x a ih => cases b with
    | nil => cases h
    | cons y b =>
      have h' : V.int (x : Int) :: iv a = V.int (y : Int) :: iv b := h
      injection h' with h1 h2
      injection h1 with h3
      rw [ih h2]
      have : x = y := by omega
      rw [this]
theorem flat_iv (ns : List Nat) : (iv ns).all flatV = true := by
  rw [List.all_eq_true]
  intro v hv
  obtain ⟨n, _, rfl⟩ := List.mem_map.mp hv
  rfl
theorem inV_iv (ns : List Nat) (x : Nat) : inV (.int (x : Int)) (iv ns) = decide (x ∈ ns) := by
  unfold inV
  rw [Bool.eq_iff_iff, List.any_eq_true, decide_eq_true_iff]
  constructor
  · rintro ⟨v, hv, e⟩
    obtain ⟨n, hn, rfl⟩ := List.mem_map.mp hv
    have : (n : Int) = (x : Int) := by
      have e' : eqV (V.int (n : Int)) (V.int (x : Int)) = true := e
      simpa [eqV] using e'
    have : n = x := by omega
    subst this; exact hn
  · intro h
    refine ⟨_, List.mem_map.mpr ⟨x, h, rfl⟩, ?_⟩
    simp [eqV]

/-! ### heaps -/
theorem same_upd {H : Hp} {p : Addr} {o : HO} (h : H p = none) : Same H (upd H p o) := fun b x e => by
  rw [upd_ne (ne_of_none e h)]
  exact e
/-- an object that H does not know is changed behind H -/
theorem same_mut {H H' : Hp} {p : Addr} {o : HO} (e : Same H H') (h : H p = none) : Same H (upd H' p o) := fun a u ha => by
  rw [upd_ne (ne_of_none ha h)]
  exact e a u ha
theorem same_t {K : PySem.W.Frag} {H H' : Hp} {a : Addr} {xs : List V} (e : Same H H') (h : SqT K H a xs) : SqT K H' a xs := by
  rcases h with (h | ⟨o, h⟩) | h
  · exact .inl (.inl (e _ _ h))
  · exact .inl (.inr ⟨o, e _ _ h⟩)
  · exact .inr h
theorem sz {n : Nat} (h : n ≤ 100000) : n ≤ sizeLine := Nat.le_trans h (by decide)
theorem szl {n : Nat} (h : n < 100000) : n < sizeLine := Nat.lt_of_lt_of_le h (by decide)

/-! ### lists of whole numbers compared -/
abbrev dI (ns : List Int) : PyData := .list (ns.map PyData.int)
abbrev dN (ns : List Nat) : PyData := .list (ns.map fun (n : Nat) => PyData.int (n : Int))
theorem canI : ∀ ns : List Int, PyData.canLayAll0 (ns.map PyData.int) = true
  | [] => by unfold PyData.canLayAll0; rfl
  | n :: r => by
    rw [List.map_cons]
    unfold PyData.canLayAll0
    rw [canI r]; unfold PyData.canLay0; rfl
theorem depI : ∀ ns : List Int, PyData.depthAll (ns.map PyData.int) ≤ 1
  | [] => by unfold PyData.depthAll; exact Nat.zero_le _
  | n :: r => by
    rw [List.map_cons]
    unfold PyData.depthAll
    have h := depI r
    have e : PyData.depth (.int n) ≤ 1 := by
      unfold PyData.depth
      omega
    exact Nat.max_le.mpr ⟨e, h⟩
theorem shapedI (ns : List Int) : SeqAt.shaped (dI ns) = true := by
  unfold SeqAt.shaped
  rw [Bool.and_eq_true_iff]
  refine ⟨by unfold PyData.canLay0; exact canI ns, decide_eq_true ?_⟩
  have h := depI ns
  unfold PyData.depth
  omega
theorem eqvI : ∀ a b : List Int, PyData.eqvAll (a.map PyData.int) (b.map PyData.int) = decide (a = b)
  | [], [] => by unfold PyData.eqvAll; rfl
  | [], y :: b => by rw [List.map_cons]; unfold PyData.eqvAll; rfl
  | x :: a, [] => by rw [List.map_cons]; unfold PyData.eqvAll; rfl
  | x :: a, y :: b => by
    rw [List.map_cons, List.map_cons]
    unfold PyData.eqvAll
    rw [eqvI a b]
    unfold PyData.eqv
    rw [Bool.eq_iff_iff]
    simp
theorem dpI {K : PySem.W.Frag} {H : Hp} : ∀ ns : List Int, DpAll K H (ns.map V.int) (ns.map PyData.int)
  | [] => .nil
  | n :: r => .cons (.int n) (dpI r)
theorem dp_ints {K : PySem.W.Frag} {H : Hp} {a : Addr} {ns : List Int} (h : SqL K H a (ns.map V.int)) : Dp K H (.ref a) (dI ns) := .lst h (dpI ns)
theorem dp_iv {K : PySem.W.Frag} {H : Hp} {a : Addr} {ns : List Nat} (h : SqL K H a (iv ns)) : Dp K H (.ref a) (dN ns) := by
  have h' : SqL K H a ((ns.map fun (n : Nat) => (n : Int)).map V.int) := by rw [← iv_eq]; exact h
  have r := dp_ints h'
  unfold dI at r
  rw [List.map_map] at r
  exact r
theorem dN_eq (ns : List Nat) : dN ns = dI (ns.map fun (n : Nat) => (n : Int)) := by
  unfold dN dI; rw [List.map_map]; rfl
theorem shapedN (ns : List Nat) : SeqAt.shaped (dN ns) = true := by rw [dN_eq]; exact shapedI _
theorem cast_inj {a b : List Nat} : a.map (fun (n : Nat) => (n : Int)) = b.map (fun (n : Nat) => (n : Int)) ↔ a = b := by
  constructor
  · intro h
    refine iv_inj ?_
    rw [iv_eq, iv_eq, h]
  · intro h; rw [h]
theorem eqvN (a b : List Nat) : PyData.eqv (dN a) (dN b) = decide (a = b) := by
  rw [dN_eq, dN_eq]
  show PyData.eqv (PyData.list _) (PyData.list _) = _
  unfold PyData.eqv
  rw [eqvI, Bool.eq_iff_iff, decide_eq_true_iff, decide_eq_true_iff]
  exact cast_inj
/-- two lists of numbers, unlike each other or not -/
theorem ne_iv {K : PySem.W.Frag} {H : Hp} {a b : Addr} {x y : List Nat} {Q : VK} (ha : SqL K H a (iv x)) (hb : SqL K H b (iv y)) (q : Q (.bl (!decide (x = y))) H) : rNeD K (.ref a) (.ref b) H Q :=
  ⟨dN x, dN y, dp_iv ha, dp_iv hb, shapedN x, shapedN y, by rw [eqvN]; exact q⟩
theorem eq_iv {K : PySem.W.Frag} {H : Hp} {a b : Addr} {x y : List Nat} {Q : VK} (ha : SqL K H a (iv x)) (hb : SqL K H b (iv y)) (q : Q (.bl (decide (x = y))) H) : rEqD K (.ref a) (.ref b) H Q :=
  ⟨dN x, dN y, dp_iv ha, dp_iv hb, shapedN x, shapedN y, by rw [eqvN]; exact q⟩

/-! ### a def of the text, and its call -/
structure Df (K : PySem.W.Frag) (mg : Str → Option Value) (x : Str) (st : Stmt) (ps : List Str) where
  f : Addr
  fd : FuncData
  F : Fun K x x st f fd
  g : mg x = some (.ref f)
  b : Binds K fd ps []
section
variable {X : Cx} {x : Str} {st : Stmt} {ps : List Str} {k : Nat} {sp : Sp} {e : Expr} {es : List Expr} {t : TA} {p pos : Pos}
theorem pe_df (D : Df X.K X.mg x st ps) (G : FnOk X.prog X.w X.K X.mg X.base CX0 k D.f D.fd ps sp) (hr : Room k X.A) (ha : PA X (e :: es) t) (hg : Gl X x := by rfl) (hdb : (x == ("__debug__" : Str)) = false := by decide)
    (he : starEach (e :: es) X.env = (false, eval e X.env) :: starEach es X.env := by rfl) (hpl : (backTo pos (starEach es X.env)).any (·.1) = false := by rfl) :
    PE X (.Call (.Name x p) (e :: es) [] pos) (tCall sp [] E0 t) := pe_call G hr hg D.g D.F.kp D.b .nil pass0 ha hdb he hpl
/-- a product of whole numbers, told by the model's own line -/
theorem op_mulX : OpR X (binaryOp .Mult) (rI (fun i j => IntMulOk i j) fun i j => .int (i * j)) := opI fun _ _ _ _ _ _ _ hc q => mul_int q hc
end
end Sb
/-! ### the text -/
namespace Sb
open PySem PySem.Spec PyProof.Rows L2
def topS (i : Nat) : Stmt := PySem.Challenge.pw_slipboxes_k01_opened.main.body.getD i (.Pass ⟨0, 0, 0, 0⟩)
abbrev s_is_whole : Stmt := topS 6
abbrev s_check_boxes : Stmt := topS 7
abbrev s_ring_from : Stmt := topS 8
abbrev s_opened : Stmt := topS 9
abbrev s_rings_of : Stmt := topS 10
abbrev s_rings : Stmt := topS 11
abbrev s_law_cell_at : Stmt := topS 13
abbrev s_law_draw : Stmt := topS 14
abbrev s_law_value : Stmt := topS 15
abbrev s_law_boxes : Stmt := topS 16
abbrev s_law_ring : Stmt := topS 17
abbrev s_law : Stmt := topS 18
structure Tx (K : PySem.W.Frag) (mg : Str → Option Value) where
  is_whole : Df K mg "is_whole" s_is_whole ["thing"]
  check_boxes : Df K mg "check_boxes" s_check_boxes ["boxes", "most"]
  ring_from : Df K mg "ring_from" s_ring_from ["boxes", "hand"]
  opened : Df K mg "opened" s_opened ["boxes", "hand"]
  rings_of : Df K mg "rings_of" s_rings_of ["boxes"]
  rings : Df K mg "rings" s_rings ["boxes"]
  law_cell_at : Df K mg "_law_cell_at" s_law_cell_at ["_law_script", "_law_k"]
  law_draw : Df K mg "_law_draw" s_law_draw ["_law_cell", "_law_k", "_law_many"]
  law_value : Df K mg "_law_value" s_law_value ["_law_cell", "_law_turn"]
  law_boxes : Df K mg "_law_boxes" s_law_boxes ["_law_script", "_law_by", "_law_most"]
  law_ring : Df K mg "_law_ring" s_law_ring ["_law_boxes_here", "_law_hand"]
  t_MOST : Tok
  c_MOST : mg "MOST" = some (.int 40 t_MOST)
  m_len : mg "len" = none
  m_range : mg "range" = none
  m_list : mg "list" = none
  m_isinstance : mg "isinstance" = none
  m_all : mg "all" = none
  m_sorted : mg "sorted" = none
  m_int : mg "int" = none
  m_bool : mg "bool" = none
  m_max : mg "max" = none
  m_min : mg "min" = none
  m_zip : mg "zip" = none
end Sb

namespace Sb
open PySem PySem.Spec PyProof.Rows L2
section
variable {P : Program} {w : World} {K : PySem.W.Frag} {mg : Str → Option Value} {base : Heap}
/-! ### is_whole -/
/-- a thing of the type ty (no list of one's own): a number, or not -/
def spWhole (K : PySem.W.Frag) : Sp := fun vs H Q _ => ∃ (v : V) (ty : String) (b1 b2 : Bool), vs = [v] ∧ TyX K H v (.type ty) ∧ kitB ty "int" = some b1 ∧ kitB ty "bool" = some b2 ∧ Q (.bl (b1 && !b2)) H
abbrev n_is_whole : List Str := ["thing"]
theorem sc_is_whole : FnScope n_is_whole ["thing"] (defScope s_is_whole) := ⟨rfl, rfl, rfl, by decide +kernel, rfl, by decide +kernel, by decide +kernel⟩
theorem ok_is_whole (T : Tx K mg) : FnOk P w K mg base CX0 1 T.is_whole.f T.is_whole.fd ["thing"] (spWhole K) := by
  refine T.is_whole.F.ok sc_is_whole (fun vs H Q E h => ?_) (fun cdv A outer s H vs Q E hr h => ?_)
  · obtain ⟨v, ty, b1, b2, rfl, _⟩ := h
    rfl
  · obtain ⟨v, ty, b1, b2, rfl, hty, h1, h2, q⟩ := h
    refine ⟨_, (pss_one (ps_ret (pe_and (pe_callB call_isi (by rfl) T.m_isinstance (by decide +kernel) (pa_cons (pv 0) (pa_cons (pe_bltn (v := .ty "int") (by rfl) T.m_int (by decide +kernel) rfl) pa_nil))) (pe_one (pe_not (pe_callB call_isi (by rfl) T.m_isinstance (by decide +kernel) (pa_cons (pv 0) (pa_cons (pe_bltn (v := .ty "bool") (by rfl) T.m_bool (by decide +kernel) rfl) pa_nil)))))))), ?_⟩
    refine ⟨v, rfl, v, .ty "int", .type ty, .type "int", b1, rfl, .ty "int", hty, kit_ty h1, b1, rfl, ite2 (fun e => ?_) (fun e => ?_)⟩
    · refine ⟨v, rfl, v, .ty "bool", .type ty, .type "bool", b2, rfl, .ty "bool", hty, kit_ty h2, b2, rfl, ?_⟩
      rw [e] at q
      exact q
    · have e' : b1 = false := by cases b1 with
        | true => exact absurd rfl e
        | false => rfl
      rw [e'] at q
      exact q
theorem whole_int {H : Hp} {Q : VK} {E : XK} {i : Int} (q : Q (.bl true) H) : spWhole K [.int i] H Q E :=
  ⟨.int i, "int", true, false, rfl, .base (.int i), by decide +kernel, by decide +kernel, q⟩
end
end Sb
namespace Sb
open PySem PySem.Spec PyProof.Rows L2
section
variable {P : Program} {w : World} {K : PySem.W.Frag} {mg : Str → Option Value} {base : Heap}
/-! ### ring_from -/
/-- a new list at p: the numbers r -/
def NewL (H : Hp) (Q : VK) (r : List Nat) : Prop := ∀ (H' : Hp) (p : Addr), Same H H' → H p = none → H' p = some (.lst (iv r)) → Q (.ref p) H'
def spRing (K : PySem.W.Frag) : Sp := fun vs H Q _ => ∃ (a : Addr) (ns : List Nat) (h : Nat), vs = [.ref a, .int (h : Int)] ∧ SqL K H a (iv ns) ∧ Good ns ∧ h < ns.length ∧ ns.length ≤ 1000 ∧ NewL H Q (ringOf ns h)
abbrev n_ring_from : List Str := ["boxes", "hand", "found"]
theorem sc_ring_from : FnScope n_ring_from ["boxes", "hand"] (defScope s_ring_from) := ⟨rfl, rfl, rfl, by decide +kernel, rfl, by decide +kernel, by decide +kernel⟩
theorem ok_ring_from (T : Tx K mg) : FnOk P w K mg base CX0 1 T.ring_from.f T.ring_from.fd ["boxes", "hand"] (spRing K) := by
  refine T.ring_from.F.ok sc_ring_from (fun vs H Q E h => ?_) (fun cdv A outer s H vs Q E hr h => ?_)
  · obtain ⟨a, ns, h, rfl, _⟩ := h
    rfl
  · obtain ⟨a, ns, h, rfl, hS, g, hh, hlen, q⟩ := h
    refine ⟨_, (pss_cons (ps_set (i := 2) sc_ring_from.nd rfl (.inl rfl) (pe_lst (pa_cons (pv 1) pa_nil)))
    (pss_cons (ps_while PassesOwn.never (pt_cmpR op_ne (pe_ix ix_list (pv 0) (pe_ix ix_list (pv 2) (pe_un un_neg pe_int) (fun _ _ => rfl)) (fun _ _ => rfl)) (pv 1) (nomark _))
      (pss_one (ps_expr (pe_bm PySem.F.plainAttrs_list PySem.F.slot_list_append PySem.F.type_list_append mt_append (pv 2) (pa_cons (pe_ix ix_list (pv 0) (pe_ix ix_list (pv 2) (pe_un un_neg pe_int) (fun _ _ => rfl)) (fun _ _ => rfl)) pa_nil)))))
    (pss_one (ps_ret (pv 2))))), ?_⟩
    refine ⟨.int h, rfl, sz (by simp), fun o no => ?_⟩
    refine ⟨fun m σ H3 => ∃ r, σ = [some (.ref a), some (.int (h : Int)), some (.ref o)] ∧ Same H H3 ∧ H3 o = some (.lst (iv r)) ∧ Chain ns h r ∧ m = ns.length - r.length,
      ⟨_, [h], rfl, same_upd no, upd_same, Chain.one hh, rfl⟩, fun m σ H3 hW => ?_⟩
    obtain ⟨r, rfl, sm, eo, c, rfl⟩ := hW
    obtain ⟨x, hx, hm, hl⟩ := c.last
    have hA : SqL K H3 a (iv ns) := sm.seq hS
    have hO : SqL K H3 o (iv r) := .of eo
    have ax : atI (iv ns) ((x : Nat) : Int) = some (.int ((nxt ns x : Nat) : Int)) := iv_at (nxt_get? hl)
    refine ⟨.ref a, rfl, .ref o, rfl, 1, rfl, o, _, -1, _, rfl, rfl, hO, iv_last hx, a, _, _, _, rfl, rfl, hA, ax, .int h, rfl, rfl, _, rfl, ite2 (fun e => ?_) (fun e => ?_)⟩
    · have ne : nxt ns x ≠ h := fun z => by
        rw [z] at e
        simp at e
      have hn : nxt ns x ∉ r := fun z => ne (c.slip g hx z)
      have c' := c.more hx hn (g.nxt_lt hl)
      refine ⟨fun σ' H' => ∃ r', σ' = [some (.ref a), some (.int (h : Int)), some (.ref o)] ∧ Same H H' ∧ H' o = some (.lst (iv r')) ∧ Chain ns h r' ∧ r'.length = r.length + 1, fun σ' H' hN => ?_, ?_⟩
      · obtain ⟨r', e1, e2, e3, e4, e5⟩ := hN
        have := e4.len_le
        exact ⟨_, by omega, r', e1, e2, e3, e4, rfl⟩
      · refine ⟨.ref o, rfl, .inl ⟨rfl, _, hO⟩, .ref a, rfl, .ref o, rfl, 1, rfl, o, _, -1, _, rfl, rfl, hO, iv_last hx, a, _, _, _, rfl, rfl, hA, ax, o, _, _, rfl, rfl, eo, ?_, ?_⟩
        · rw [iv_len]
          have := c.len_le
          exact szl (by omega)
        · rw [iv_snoc]
          exact ⟨_, rfl, same_mut sm no, upd_same, c', by rw [List.length_append]; rfl⟩
    · have e2 : nxt ns x = h := by
        have : V.int ((nxt ns x : Nat) : Int) = V.int (h : Int) := by
          cases hd : decide (V.int ((nxt ns x : Nat) : Int) = V.int (h : Int)) with
          | true => exact of_decide_eq_true hd
          | false => rw [hd] at e; exact absurd rfl e
        injection this with this
        omega
      have R : IsRing ns h r := ⟨c, fun y hy => by rw [hx] at hy; cases hy; exact e2⟩
      rw [R.eq g] at eo
      exact ⟨.ref o, rfl, q H3 o sm no eo⟩
end
end Sb
namespace Sb
open PySem PySem.Spec PyProof.Rows L2
theorem ty_list {K : PySem.W.Frag} {H : Hp} {a : Addr} {xs : List V} (h : SqL K H a xs) : TyX K H (.ref a) (.type "list") := by
  rcases h with (h | ⟨o, h⟩) | ⟨o, its, n, h1, h2, _⟩
  · exact .base (.lst h)
  · exact .base (.frz h)
  · exact .kList h1 h2
/-- numbers in rising order, each below their count once: the numbers from 0 on -/
theorem sorted_range : ∀ (l m : List Nat), l.Perm m → l.Pairwise (· ≤ ·) → m.Pairwise (· ≤ ·) → l = m := fun l m p a b =>
  p.eq_of_pairwise (fun x y _ _ h1 h2 => Nat.le_antisymm h1 h2) a b
theorem range_pw (n : Nat) : (List.range n).Pairwise (· ≤ ·) := by
  refine List.Pairwise.imp ?_ (List.pairwise_lt_range (n := n))
  intro a b h
  exact Nat.le_of_lt h
theorem rgV_iv (n : Nat) : rgV 0 (n : Int) = iv (List.range n) := by
  unfold rgV
  rw [show ((n : Int) - 0).toNat = n by omega]
  apply List.map_congr_left
  intro i _
  rw [Int.zero_add]
theorem perm_int {ns' : List Int} {ns : List Nat} (p : ns'.Perm (ns.map fun (n : Nat) => (n : Int))) : ∃ ms : List Nat, ns' = ms.map (fun (n : Nat) => (n : Int)) ∧ ms.Perm ns := by
  have all : ∀ x ∈ ns', ∃ n : Nat, x = (n : Int) := fun x hx => by
    obtain ⟨n, _, e⟩ := List.mem_map.mp (p.mem_iff.mp hx)
    exact ⟨n, e.symm⟩
  have e : ns' = (ns'.map Int.toNat).map (fun (n : Nat) => (n : Int)) := by
    rw [List.map_map]
    conv => lhs; rw [← List.map_id ns']
    apply List.map_congr_left
    intro x hx
    obtain ⟨n, rfl⟩ := all x hx
    rfl
  refine ⟨ns'.map Int.toNat, e, ?_⟩
  have h := p.map Int.toNat
  rw [List.map_map] at h
  have e2 : ns.map (Int.toNat ∘ fun (n : Nat) => (n : Int)) = ns := by
    conv => rhs; rw [← List.map_id ns]
    apply List.map_congr_left
    intro x _
    rfl
  rw [e2] at h
  exact h
theorem pw_int {ms : List Nat} (h : (ms.map fun (n : Nat) => (n : Int)).Pairwise (· ≤ ·)) : ms.Pairwise (· ≤ ·) := by
  rw [List.pairwise_map] at h
  exact h.imp fun h => by omega
section
variable {P : Program} {w : World} {K : PySem.W.Frag} {mg : Str → Option Value} {base : Heap}
/-! ### check_boxes: boxes are let through -/
def spCheck (K : PySem.W.Frag) : Sp := fun vs H Q _ => ∃ (a : Addr) (ns : List Nat) (m : Int), vs = [.ref a, .int m] ∧ SqL K H a (iv ns) ∧ Good ns ∧ 1 ≤ ns.length ∧ (ns.length : Int) ≤ m ∧ ns.length < 64 ∧ ∀ H', Same H H' → Q .non H'
abbrev n_check_boxes : List Str := ["boxes", "most", "slip"]
theorem sc_check_boxes : FnScope n_check_boxes ["boxes", "most"] (defScope s_check_boxes) := ⟨rfl, rfl, rfl, by decide +kernel, rfl, by decide +kernel, by decide +kernel⟩
theorem ok_check_boxes (T : Tx K mg) : FnOk P w K mg base CX0 2 T.check_boxes.f T.check_boxes.fd ["boxes", "most"] (spCheck K) := by
  refine T.check_boxes.F.ok sc_check_boxes (fun vs H Q E h => ?_) (fun cdv A outer s H vs Q E hr h => ?_)
  · obtain ⟨a, ns, h, rfl, _⟩ := h
    rfl
  · obtain ⟨a, ns, m, rfl, hS, g, h1, hm, hlen, q⟩ := h
    refine ⟨_, (pss_cons (ps_if (PW.pt (pw_or (pt_not (pt_val (pe_callB call_isi (by rfl) T.m_isinstance (by decide +kernel) (pa_cons (pv 0) (pa_cons (pe_bltn (v := .ty "list") (by rfl) T.m_list (by decide +kernel) rfl) pa_nil))))) (pw_or (pt_not (pt_chain op_le op_le pe_int (pe_callB call_len_seq (by rfl) T.m_len (by decide +kernel) (pa_cons (pv 0) pa_nil)) (pv 1))) (pw_or1 (pt_not (pt_val (pe_callB (cr_all rfl) (by rfl) T.m_all (by decide +kernel) (pa_cons (pe_lc (own := [("slip", 2)]) (g := gName 2) rfl sc_check_boxes.nd (pi_list (pv 0)) (blkOk_by (own := [("slip", 2)]) (N := n_check_boxes) (sc := defScope s_check_boxes) (by decide +kernel)) (fun _ _ _ _ _ => (pg_name (i := 2) sc_check_boxes.nd rfl (.inl rfl))) (fun _ _ _ _ _ => pts_nil) (fun _ _ _ _ _ => (pe_df T.is_whole (ok_is_whole T) (hr.mono (by decide)) (pa_cons (pv 2) pa_nil)))) pa_nil))))))))
      (pss_one ps_never)
      pss_nil)
    (pss_one (ps_if (pt_cmpR (op_neD hr.units) (pe_callB cr_sorted (by rfl) T.m_sorted (by decide +kernel) (pa_cons (pv 0) pa_nil)) (pe_listRg rfl (by rfl) T.m_list (prg_1 (by rfl) T.m_range (pe_callB call_len_seq (by rfl) T.m_len (by decide +kernel) (pa_cons (pv 0) pa_nil)))) (nomark _))
      (pss_one ps_never)
      pss_nil))), ?_⟩
    -- isinstance(boxes, list)
    refine ⟨.ref a, rfl, _, _, _, .type "list", true, rfl, .ty "list", ty_list hS, kit_ty (by decide +kernel), true, rfl, iteF ?_⟩
    -- 1 <= len(boxes) <= most
    refine ⟨.ref a, rfl, a, _, rfl, .inl hS, 1, _, rfl, rfl, _, rfl, ?_⟩
    rw [iv_len, show decide ((1 : Int) ≤ (ns.length : Int)) = true from decide_eq_true (by omega)]
    refine iteT ⟨.int m, rfl, _, m, rfl, rfl, _, rfl, ?_⟩
    rw [show decide ((ns.length : Int) ≤ m) = true from decide_eq_true hm]
    refine iteF ?_
    -- all(..)
    refine ⟨.ref a, rfl, a, rfl, ⟨_, hS⟩, fun D nD => ?_⟩
    refine lc_list (K := K) (a := a) (xs := iv ns) (fun i H3 => Same H H3 ∧ H3 D = some (.lst ((List.replicate i true).map V.bl))) ⟨same_upd nD, upd_same⟩ (fun i H3 _ h => h.1.seq hS) (fun i x H3 hx h => ?_) (fun H3 h => ?_)
    · obtain ⟨sm, eD⟩ := h
      rw [iv_get?] at hx
      obtain ⟨n, _, rfl⟩ := Option.map_eq_some_iff.mp hx
      have hi : i < ns.length := by
        obtain ⟨h, _⟩ := List.getElem?_eq_some_iff.mp (by assumption : ns[i]? = some n); exact h
      refine ⟨rfl, .int n, rfl, .int n, "int", true, false, rfl, .base (.int _), by decide +kernel, by decide +kernel, _, eD, ?_, ?_⟩
      · rw [List.length_map, List.length_replicate]
        exact szl (by omega)
      · refine ⟨same_mut sm nD, ?_⟩
        rw [upd_same, List.replicate_succ', List.map_append]
        rfl
    · obtain ⟨sm, eD⟩ := h
      refine ⟨D, _, rfl, .of eD, _, rfl, ?_⟩
      have ea : (List.replicate (iv ns).length true).all id = true := by
        rw [List.all_eq_true]
        intro b hb
        rw [(List.mem_replicate.mp hb).2]
        rfl
      rw [ea]
      refine iteF ?_
      -- sorted(boxes) != list(range(len(boxes)))
      have hS3 : SqL K H3 a ((ns.map fun (n : Nat) => (n : Int)).map V.int) := by rw [← iv_eq]; exact sm.seq hS
      refine ⟨.ref a, rfl, a, _, rfl, hS3, by rw [List.length_map]; omega, fun ns' p pm rise np => ?_⟩
      obtain ⟨ms, rfl, pm'⟩ := perm_int pm
      have em : ms = List.range ns.length := sorted_range _ _ (pm'.trans g.perm) (pw_int rise) (range_pw _)
      have s4 : Same H3 (upd H3 p (.lst ((ms.map fun (n : Nat) => (n : Int)).map V.int))) := same_upd np
      refine ⟨.ref a, rfl, a, _, rfl, .inl (s4.seq (sm.seq hS)), (ns.length : Int), by rw [iv_len], RgOk.of_le (by omega) (by omega) (by omega) (by omega), fun p2 np2 => ?_⟩
      have s5 := same_upd (o := .lst (rgV 0 (ns.length : Int))) np2
      refine ne_iv (x := ms) (y := List.range ns.length) (s5.seq (.of (by rw [upd_same, iv_eq]))) (.of (by rw [upd_same, rgV_iv])) ⟨_, rfl, iteNS em ?_⟩
      exact q _ ((sm.trans s4).trans s5)
end
end Sb
namespace Sb
open PySem PySem.Spec PyProof.Rows L2
/-- the rows of a list of lists, at ps: new ones *)-/
structure Rows (H H' : Hp) (ps : List Addr) (rs : List (List Nat)) : Prop where
  len : ps.length = rs.length
  row : ∀ (i : Nat) (q : Addr) (r : List Nat), ps[i]? = some q → rs[i]? = some r → H' q = some (.lst (iv r))
  new : ∀ q ∈ ps, H q = none
  nd : ps.Nodup
theorem Rows.nil {H H' : Hp} : Rows H H' [] [] := ⟨rfl, fun i q r h _ => by simp at h, fun q h => by simp at h, List.nodup_nil⟩
theorem Rows.at {H H' : Hp} {ps : List Addr} {rs : List (List Nat)} (R : Rows H H' ps rs) {q : Addr} (h : q ∈ ps) : ∃ r, r ∈ rs ∧ H' q = some (.lst (iv r)) := by
  obtain ⟨i, hi, e⟩ := List.mem_iff_getElem.mp h
  have hr : i < rs.length := by rw [← R.len]; exact hi
  exact ⟨rs[i], List.getElem_mem hr, R.row i q _ (by rw [List.getElem?_eq_getElem hi, e]) (List.getElem?_eq_getElem hr)⟩
theorem Rows.moved {H H' H'' : Hp} {ps : List Addr} {rs : List (List Nat)} (R : Rows H H' ps rs) (k : ∀ q ∈ ps, H'' q = H' q) : Rows H H'' ps rs :=
  ⟨R.len, fun i q r h1 h2 => by rw [k q (List.mem_of_getElem? h1)]; exact R.row i q r h1 h2, R.new, R.nd⟩
theorem Rows.same {H H' H'' : Hp} {ps : List Addr} {rs : List (List Nat)} (R : Rows H H' ps rs) (s : Same H' H'') : Rows H H'' ps rs :=
  ⟨R.len, fun i q r h1 h2 => s _ _ (R.row i q r h1 h2), R.new, R.nd⟩
theorem Rows.upd {H H' : Hp} {ps : List Addr} {rs : List (List Nat)} {o : Addr} {x : HO} (R : Rows H H' ps rs) (h : o ∉ ps) : Rows H (upd H' o x) ps rs :=
  R.moved fun q hq => upd_ne fun e => h (e ▸ hq)
theorem Rows.snoc {H H' : Hp} {ps : List Addr} {rs : List (List Nat)} {p : Addr} {r : List Nat} (R : Rows H H' ps rs) (hp : H' p = some (.lst (iv r))) (hn : H p = none) (hd : p ∉ ps) : Rows H H' (ps ++ [p]) (rs ++ [r]) where
  len := by rw [List.length_append, List.length_append, R.len]; rfl
  row := fun i q r' h1 h2 => by
    by_cases hi : i < ps.length
    · rw [List.getElem?_append_left hi] at h1
      rw [List.getElem?_append_left (by rw [← R.len]; exact hi)] at h2
      exact R.row i q r' h1 h2
    · rw [List.getElem?_append_right (by omega)] at h1
      rw [List.getElem?_append_right (by rw [← R.len]; omega)] at h2
      have e : i - ps.length = 0 := by
        obtain ⟨h, _⟩ := List.getElem?_eq_some_iff.mp h1
        simpa using h
      rw [← R.len, e] at h2
      rw [e] at h1
      cases h1
      cases h2
      exact hp
  new := fun q hq => by
    rcases List.mem_append.mp hq with z | z
    · exact R.new q z
    · simp at z; subst z; exact hn
  nd := by
    rw [List.nodup_append]
    refine ⟨R.nd, by simp, fun a ha b hb => ?_⟩
    simp at hb
    subst hb
    intro e; subst e; exact hd ha
/-- a new list of new lists: the rows rs -/
def NewLL (H : Hp) (Q : VK) (rs : List (List Nat)) : Prop := ∀ (H' : Hp) (p : Addr) (ps : List Addr), Same H H' → H p = none → H' p = some (.lst (ps.map V.ref)) → Rows H H' ps rs → p ∉ ps → Q (.ref p) H'
theorem refs_last {ps : List Addr} {p : Addr} : atI ((ps ++ [p]).map V.ref) (-1) = some (.ref p) := by
  rw [List.map_append]; exact atI_last _ _
section
variable {P : Program} {w : World} {K : PySem.W.Frag} {mg : Str → Option Value} {base : Heap}
/-! ### rings_of -/
def spRings (K : PySem.W.Frag) : Sp := fun vs H Q _ => ∃ (a : Addr) (ns : List Nat), vs = [.ref a] ∧ SqL K H a (iv ns) ∧ Good ns ∧ ns.length ≤ 100 ∧ NewLL H Q (ringsOf ns)
abbrev n_rings_of : List Str := ["boxes", "found", "gone", "box"]
theorem sc_rings_of : FnScope n_rings_of ["boxes"] (defScope s_rings_of) := ⟨rfl, rfl, rfl, by decide +kernel, rfl, by decide +kernel, by decide +kernel⟩
theorem ok_rings_of (T : Tx K mg) : FnOk P w K mg base CX0 2 T.rings_of.f T.rings_of.fd ["boxes"] (spRings K) := by
  refine T.rings_of.F.ok sc_rings_of (fun vs H Q E h => ?_) (fun cdv A outer s H vs Q E hr h => ?_)
  · obtain ⟨a, ns, rfl, _⟩ := h
    rfl
  · obtain ⟨a, ns, rfl, hS, g, hlen, q⟩ := h
    refine ⟨_, (pss_cons (ps_par (i := 1) (j := 2) (by rfl) sc_rings_of.nd rfl rfl (by decide) rfl rfl (pa_cons (pe_lst pa_nil) (pa_cons (pe_lst pa_nil) pa_nil)) (by rfl))
    (pss_cons (ps_for PassesOwn.never rfl (pi_range1 (by rfl) T.m_range (pa_cons (pe_callB call_len_seq (by rfl) T.m_len (by decide +kernel) (pa_cons (pv 0) pa_nil)) pa_nil)) (pg_name (i := 3) sc_rings_of.nd rfl (.inl rfl))
      (pss_one (ps_if (pt_cmpR op_notIn_seq (pv 3) (pv 2) (by rfl))
        (pss_cons (ps_expr (pe_bm PySem.F.plainAttrs_list PySem.F.slot_list_append PySem.F.type_list_append mt_append (pv 1) (pa_cons (pe_df T.ring_from (ok_ring_from T) (hr.mono (by decide)) (pa_cons (pv 0) (pa_cons (pv 3) pa_nil))) pa_nil)))
        (pss_one (ps_expr (pe_bm PySem.F.plainAttrs_list PySem.F.slot_list_extend PySem.F.type_list_extend mt_extend (pv 2) (pa_cons (pe_ix ix_list (pv 1) (pe_un un_neg pe_int) (fun _ _ => rfl)) pa_nil)))))
        pss_nil)))
    (pss_one (ps_ret (pv 1))))), ?_⟩
    refine ⟨Nat.zero_le _, fun o no => ⟨Nat.zero_le _, fun z nz => ⟨_, _, rfl, ?_⟩⟩⟩
    have s1 : Same H (upd H o (.lst [])) := same_upd no
    have s2 := same_upd (o := .lst []) nz
    have nzo : z ≠ o := fun e => by
      rw [e, upd_same] at nz
      cases nz
    have nzH : H z = none := s1.free nz
    refine ⟨.ref a, rfl, a, _, rfl, .inl (s2.seq (s1.seq hS)), _, rfl, by omega, by rw [iv_len]; omega, ?_⟩
    rw [iv_len, show ((ns.length : Int)).toNat = ns.length by omega]
    refine for_range (lo := 0) (n := ns.length) (fun i σ H3 => ∃ ps v, σ = [some (.ref a), some (.ref o), some (.ref z), v] ∧ Same H H3 ∧ H3 o = some (.lst (ps.map V.ref)) ∧ H3 z = some (.lst (iv (ringsTo ns i).flatten)) ∧ Rows H H3 ps (ringsTo ns i) ∧ o ∉ ps ∧ z ∉ ps) ?_ (fun i σ H3 hi hP => ?_) (fun σ H3 hP => ?_)
    · refine ⟨[], none, rfl, s1.trans s2, ?_, upd_same, Rows.nil, by simp, by simp⟩
      rw [upd_ne nzo.symm, upd_same]
      rfl
    · obtain ⟨ps, v, rfl, sm, eo, ez, R, ho, hz⟩ := hP
      have hA : SqL K H3 a (iv ns) := sm.seq hS
      refine ⟨_, rfl, .ref z, rfl, z, _, rfl, .inl (.of ez), rfl, flat_iv _, _, rfl, ?_⟩
      rw [if_pos rfl, show (0 : Int) + ((i : Nat) : Int) = ((i : Nat) : Int) by omega, inV_iv]
      have hg := gone_iff g hi
      by_cases hmin : isMin ns i = true
      · have hd : decide (i ∈ (ringsTo ns i).flatten) = false := decide_eq_false fun z => hg.mp z hmin
        rw [hd]
        refine iteT ?_
        refine ⟨.ref o, rfl, .inl ⟨rfl, _, .of eo⟩, .ref a, rfl, _, rfl, a, ns, i, rfl, hA, g, hi, by omega, fun H4 p sm4 np ep => ?_⟩
        have eo4 := sm4 _ _ eo
        have ez4 := sm4 _ _ ez
        have nop : o ≠ p := ne_of_none eo np
        have nzp : z ≠ p := ne_of_none ez np
        have npp : p ∉ ps := fun hp => by
          obtain ⟨r, _, e⟩ := R.at hp
          rw [np] at e
          cases e
        refine ⟨o, _, _, rfl, rfl, eo4, ?_, ?_⟩
        · rw [List.length_map, R.len]
          have := ringsTo_len ns i
          exact szl (by omega)
        · have ep5 : (upd H4 o (.lst (ps.map V.ref ++ [.ref p]))) p = some (.lst (iv (ringOf ns i))) := by
            rw [upd_ne nop.symm]; exact ep
          have ez5 : (upd H4 o (.lst (ps.map V.ref ++ [.ref p]))) z = some (.lst (iv (ringsTo ns i).flatten)) := by
            rw [upd_ne nzo]; exact ez4
          have eo5 : (upd H4 o (.lst (ps.map V.ref ++ [.ref p]))) o = some (.lst ((ps ++ [p]).map V.ref)) := by
            rw [upd_same, List.map_append]; rfl
          refine ⟨.ref z, rfl, .inl ⟨rfl, _, .of ez5⟩, .ref o, rfl, 1, rfl, o, _, -1, _, rfl, rfl, .of eo5, refs_last, z, p, _, _, rfl, rfl, ez5, ep5, ?_, ?_⟩
          · rw [iv_len, iv_len]
            have h1 := ringsTo_flat g (k := i) (by omega)
            have h2 := ringOf_len g hi
            have h3 : i * ns.length ≤ 100 * 100 := Nat.mul_le_mul (by omega) hlen
            exact sz (by omega)
          · refine ⟨ps ++ [p], _, rfl, same_mut (same_mut (sm.trans sm4) no) nzH, ?_, ?_, ?_, ?_, ?_⟩
            · rw [upd_ne nzo.symm]; exact eo5
            · rw [upd_same, ringsTo_succ, if_pos hmin, List.flatten_append, ← List.map_append]
              simp
            · rw [ringsTo_succ, if_pos hmin]
              have R5 := ((R.same sm4).upd (x := .lst (ps.map V.ref ++ [.ref p])) ho).snoc ep5 (sm.free np) npp
              exact R5.upd (by
                intro h
                rcases List.mem_append.mp h with y | y
                · exact hz y
                · simp at y; exact nzp y)
            · intro h
              rcases List.mem_append.mp h with y | y
              · exact ho y
              · simp at y; exact nop y
            · intro h
              rcases List.mem_append.mp h with y | y
              · exact hz y
              · simp at y; exact nzp y
      · have hd : decide (i ∈ (ringsTo ns i).flatten) = true := decide_eq_true (hg.mpr hmin)
        rw [hd]
        refine iteF ?_
        refine ⟨ps, _, rfl, sm, eo, ?_, ?_, ho, hz⟩
        · rw [ringsTo_succ, if_neg hmin]; exact ez
        · rw [ringsTo_succ, if_neg hmin]; exact R
    · obtain ⟨ps, v, rfl, sm, eo, ez, R, ho, hz⟩ := hP
      exact ⟨.ref o, rfl, q H3 o ps sm no eo R ho⟩
end
end Sb
namespace Sb
open PySem PySem.Spec PyProof.Rows L2
/-! ### lists of lists compared -/
abbrev dNN (rs : List (List Nat)) : PyData := .list (rs.map dN)
theorem canN (ns : List Nat) : PyData.canLay0 (dN ns) = true := by
  rw [dN_eq]; unfold PyData.canLay0; exact canI _
theorem canNN : ∀ rs : List (List Nat), PyData.canLayAll0 (rs.map dN) = true
  | [] => by unfold PyData.canLayAll0; rfl
  | n :: r => by
    rw [List.map_cons]
    unfold PyData.canLayAll0
    rw [canNN r, canN n]; rfl
theorem depN (ns : List Nat) : PyData.depth (dN ns) ≤ 3 := by
  rw [dN_eq]
  have h := depI (ns.map fun (n : Nat) => (n : Int))
  unfold PyData.depth
  omega
theorem depNN : ∀ rs : List (List Nat), PyData.depthAll (rs.map dN) ≤ 3
  | [] => by unfold PyData.depthAll; exact Nat.zero_le _
  | n :: r => by
    rw [List.map_cons]
    unfold PyData.depthAll
    exact Nat.max_le.mpr ⟨depN n, depNN r⟩
theorem shapedNN (rs : List (List Nat)) : SeqAt.shaped (dNN rs) = true := by
  unfold SeqAt.shaped
  rw [Bool.and_eq_true_iff]
  refine ⟨by unfold PyData.canLay0; exact canNN rs, decide_eq_true ?_⟩
  have h := depNN rs
  unfold PyData.depth
  omega
theorem eqvNN : ∀ a b : List (List Nat), PyData.eqvAll (a.map dN) (b.map dN) = decide (a = b)
  | [], [] => by unfold PyData.eqvAll; rfl
  | [], y :: b => by rw [List.map_cons]; unfold PyData.eqvAll; rfl
  | x :: a, [] => by rw [List.map_cons]; unfold PyData.eqvAll; rfl
  | x :: a, y :: b => by
    rw [List.map_cons, List.map_cons]
    unfold PyData.eqvAll
    rw [eqvNN a b, eqvN, Bool.eq_iff_iff]
    simp
/-- a list of lists of numbers that is read -/
structure Sees (K : PySem.W.Frag) (H : Hp) (p : Addr) (rs : List (List Nat)) : Prop where
  ex : ∃ ps : List Addr, SqL K H p (ps.map V.ref) ∧ ps.length = rs.length ∧ ∀ (i : Nat) (q : Addr) (r : List Nat), ps[i]? = some q → rs[i]? = some r → SqL K H q (iv r)
theorem dpAll_rows {K : PySem.W.Frag} {H : Hp} : ∀ (ps : List Addr) (rs : List (List Nat)), ps.length = rs.length → (∀ (i : Nat) (q : Addr) (r : List Nat), ps[i]? = some q → rs[i]? = some r → SqL K H q (iv r)) → DpAll K H (ps.map V.ref) (rs.map dN)
  | [], [], _, _ => .nil
  | [], _ :: _, h, _ => by simp at h
  | _ :: _, [], h, _ => by simp at h
  | p :: ps, r :: rs, h, f => .cons (dp_iv (f 0 p r rfl rfl)) (dpAll_rows ps rs (by simpa using h) fun i q r' h1 h2 => f (i + 1) q r' (by simpa using h1) (by simpa using h2))
theorem Sees.dp {K : PySem.W.Frag} {H : Hp} {p : Addr} {rs : List (List Nat)} (S : Sees K H p rs) : Dp K H (.ref p) (dNN rs) := by
  obtain ⟨ps, h1, h2, h3⟩ := S.ex
  exact .lst h1 (dpAll_rows ps rs h2 h3)
theorem Rows.sees {K : PySem.W.Frag} {H H' : Hp} {p : Addr} {ps : List Addr} {rs : List (List Nat)} (R : Rows H H' ps rs) (hp : H' p = some (.lst (ps.map V.ref))) : Sees K H' p rs :=
  ⟨ps, .of hp, R.len, fun i q r h1 h2 => .of (R.row i q r h1 h2)⟩
theorem Sees.same {K : PySem.W.Frag} {H H' : Hp} {p : Addr} {rs : List (List Nat)} (S : Sees K H p rs) (s : Same H H') : Sees K H' p rs := by
  obtain ⟨ps, h1, h2, h3⟩ := S.ex
  exact ⟨ps, s.seq h1, h2, fun i q r a b => s.seq (h3 i q r a b)⟩
theorem ne_rows {K : PySem.W.Frag} {H : Hp} {a b : Addr} {x y : List (List Nat)} {Q : VK} (ha : Sees K H a x) (hb : Sees K H b y) (q : Q (.bl (!decide (x = y))) H) : rNeD K (.ref a) (.ref b) H Q :=
  ⟨dNN x, dNN y, ha.dp, hb.dp, shapedNN x, shapedNN y, by unfold PyData.eqv; rw [eqvNN]; exact q⟩
theorem eq_rows {K : PySem.W.Frag} {H : Hp} {a b : Addr} {x y : List (List Nat)} {Q : VK} (ha : Sees K H a x) (hb : Sees K H b y) (q : Q (.bl (decide (x = y))) H) : rEqD K (.ref a) (.ref b) H Q :=
  ⟨dNN x, dNN y, ha.dp, hb.dp, shapedNN x, shapedNN y, by unfold PyData.eqv; rw [eqvNN]; exact q⟩
/-! ### slices of any list -/
theorem cut_to (xs : List V) (k : Nat) : cutV xs none (some (k : Int)) = xs.take k := by
  unfold cutV
  rw [HT.sIx_nat, HT.sIx_none, List.drop_zero, Nat.sub_zero]
  by_cases h : k ≤ xs.length
  · rw [Nat.min_eq_left h]
  · rw [Nat.min_eq_right (by omega), List.take_of_length_le (Nat.le_refl _), List.take_of_length_le (by omega)]
theorem cut_m1 (xs : List V) (x : V) : cutV (xs ++ [x]) none (some (-1)) = xs := by
  unfold cutV
  rw [HT.sIx_none, List.drop_zero, Nat.sub_zero]
  have e : HT.sIx (xs ++ [x]).length (xs ++ [x]).length (some (-1)) = xs.length := by
    unfold HT.sIx
    dsimp only
    rw [if_pos (by decide), List.length_append]
    show ((-1 : Int) + ((xs.length + 1 : Nat) : Int)).toNat = xs.length
    omega
  rw [e, List.take_left' rfl]
theorem Good.rev {ns : List Nat} (g : Good ns) : Good ns.reverse := ⟨by
  rw [List.length_reverse]
  exact (List.reverse_perm ns).trans g.perm⟩
theorem rev_iv (ns : List Nat) : (iv ns).reverse = iv ns.reverse := (List.map_reverse ..).symm
end Sb
namespace Sb
open PySem PySem.Spec PyProof.Rows L2
section
variable {P : Program} {w : World} {K : PySem.W.Frag} {mg : Str → Option Value} {base : Heap}
/-! ### opened: of boxes and a hand -/
def spOpened (K : PySem.W.Frag) : Sp := fun vs H Q _ => ∃ (a : Addr) (ns : List Nat) (h : Nat), vs = [.ref a, .int (h : Int)] ∧ SqL K H a (iv ns) ∧ Good ns ∧ h < ns.length ∧ ns.length ≤ 40 ∧ NewL H Q (ringOf ns h)
abbrev n_opened : List Str := ["boxes", "hand"]
theorem sc_opened : FnScope n_opened ["boxes", "hand"] (defScope s_opened) := ⟨rfl, rfl, rfl, by decide +kernel, rfl, by decide +kernel, by decide +kernel⟩
theorem ok_opened (T : Tx K mg) : FnOk P w K mg base CX0 3 T.opened.f T.opened.fd ["boxes", "hand"] (spOpened K) := by
  refine T.opened.F.ok sc_opened (fun vs H Q E h => ?_) (fun cdv A outer s H vs Q E hr h => ?_)
  · obtain ⟨a, ns, h, rfl, _⟩ := h
    rfl
  · obtain ⟨a, ns, h, rfl, hS, g, hh, hlen, q⟩ := h
    refine ⟨_, (pss_cons (ps_expr (pe_df T.check_boxes (ok_check_boxes T) (hr.mono (by decide)) (pa_cons (pv 0) (pa_cons (pe_glob (v := .int 40) rfl T.c_MOST ⟨_, rfl⟩) pa_nil))))
    (pss_cons (ps_if (PW.pt (pw_or (pt_not (pt_val (pe_df T.is_whole (ok_is_whole T) (hr.mono (by decide)) (pa_cons (pv 1) pa_nil)))) (pw_or1 (pt_not (pt_chain op_le op_lt pe_int (pv 1) (pe_callB call_len_seq (by rfl) T.m_len (by decide +kernel) (pa_cons (pv 0) pa_nil)))))))
      (pss_one ps_never)
      pss_nil)
    (pss_one (ps_ret (pe_df T.ring_from (ok_ring_from T) (hr.mono (by decide)) (pa_cons (pv 0) (pa_cons (pv 1) pa_nil))))))), ?_⟩
    refine ⟨_, rfl, a, ns, 40, rfl, hS, g, by omega, by omega, by omega, fun H1 s1 => ?_⟩
    refine ⟨_, rfl, .int h, "int", true, false, rfl, .base (.int _), by decide +kernel, by decide +kernel, _, rfl, iteF ?_⟩
    refine ⟨_, rfl, 0, h, rfl, rfl, _, rfl, ?_⟩
    rw [show decide ((0 : Int) ≤ (h : Int)) = true from decide_eq_true (by omega)]
    refine iteT ⟨.ref a, rfl, a, _, rfl, .inl (s1.seq hS), _, _, rfl, rfl, _, rfl, ?_⟩
    rw [iv_len, show decide ((h : Int) < (ns.length : Int)) = true from decide_eq_true (by omega)]
    refine iteF ?_
    exact ⟨_, rfl, _, rfl, a, ns, h, rfl, s1.seq hS, g, hh, by omega, fun H2 p s2 np ep => q H2 p (s1.trans s2) (s1.free np) ep⟩
end
end Sb
namespace Sb
open PySem PySem.Spec PyProof.Rows L2
section
variable {P : Program} {w : World} {K : PySem.W.Frag} {mg : Str → Option Value} {base : Heap}
/-! ### rings: of boxes -/
theorem Rows.back {H H1 H' : Hp} {ps : List Addr} {rs : List (List Nat)} (s : Same H H1) (R : Rows H1 H' ps rs) : Rows H H' ps rs := ⟨R.len, R.row, fun q hq => s.free (R.new q hq), R.nd⟩
def spRings1 (K : PySem.W.Frag) : Sp := fun vs H Q _ => ∃ (a : Addr) (ns : List Nat), vs = [.ref a] ∧ SqL K H a (iv ns) ∧ Good ns ∧ 1 ≤ ns.length ∧ ns.length ≤ 40 ∧ NewLL H Q (ringsOf ns)
abbrev n_rings : List Str := ["boxes"]
theorem sc_rings : FnScope n_rings ["boxes"] (defScope s_rings) := ⟨rfl, rfl, rfl, by decide +kernel, rfl, by decide +kernel, by decide +kernel⟩
theorem ok_rings (T : Tx K mg) : FnOk P w K mg base CX0 3 T.rings.f T.rings.fd ["boxes"] (spRings1 K) := by
  refine T.rings.F.ok sc_rings (fun vs H Q E h => ?_) (fun cdv A outer s H vs Q E hr h => ?_)
  · obtain ⟨a, ns, rfl, _⟩ := h
    rfl
  · obtain ⟨a, ns, rfl, hS, g, h1, hlen, q⟩ := h
    refine ⟨_, (pss_cons (ps_expr (pe_df T.check_boxes (ok_check_boxes T) (hr.mono (by decide)) (pa_cons (pv 0) (pa_cons (pe_glob (v := .int 40) rfl T.c_MOST ⟨_, rfl⟩) pa_nil))))
    (pss_one (ps_ret (pe_df T.rings_of (ok_rings_of T) (hr.mono (by decide)) (pa_cons (pv 0) pa_nil))))), ?_⟩
    refine ⟨_, rfl, a, ns, 40, rfl, hS, g, by omega, by omega, by omega, fun H1 s1 => ?_⟩
    exact ⟨_, rfl, a, ns, rfl, s1.seq hS, g, by omega, fun H2 p ps s2 np ep R hp => q H2 p ps (s1.trans s2) (s1.free np) ep (R.back s1) hp⟩
end
end Sb
namespace Sb
open PySem PySem.Spec PyProof.Rows L2
abbrev bts (c : Int) : Nat := Builtin.Int.intBits c
theorem bts_small {c : Int} (h1 : -(2 ^ 64) < c) (h2 : c < 2 ^ 64) : bts c ≤ 64 := PySem.intBits_le_64 h1 h2
/-- the script's numbers -/
def Cells (cs : List Int) : Prop := ∀ z ∈ cs, bts z ≤ 1048576
section
variable {P : Program} {w : World} {K : PySem.W.Frag} {mg : Str → Option Value} {base : Heap}
/-! ### _law_cell_at -/
def spCellAt (K : PySem.W.Frag) : Sp := fun vs H Q _ => ∃ (a : Addr) (cs : List Int) (k : Nat), vs = [.ref a, .int (k : Int)] ∧ SqL K H a (cs.map V.int) ∧ Cells cs ∧ ∀ c, bts c ≤ 1048576 → Q (.int c) H
abbrev n_law_cell_at : List Str := ["_law_script", "_law_k"]
theorem sc_law_cell_at : FnScope n_law_cell_at ["_law_script", "_law_k"] (defScope s_law_cell_at) := ⟨rfl, rfl, rfl, by decide +kernel, rfl, by decide +kernel, by decide +kernel⟩
theorem ok_law_cell_at (T : Tx K mg) : FnOk P w K mg base CX0 1 T.law_cell_at.f T.law_cell_at.fd ["_law_script", "_law_k"] (spCellAt K) := by
  refine T.law_cell_at.F.ok sc_law_cell_at (fun vs H Q E h => ?_) (fun cdv A outer s H vs Q E hr h => ?_)
  · obtain ⟨a, cs, k, rfl, _⟩ := h
    rfl
  · obtain ⟨a, cs, k, rfl, hS, hc, q⟩ := h
    refine ⟨_, (pss_cons (ps_if (pt_cmpR op_lt (pv 1) (pe_callB call_len_seq (by rfl) T.m_len (by decide +kernel) (pa_cons (pv 0) pa_nil)) (nomark _))
      (pss_one (ps_ret (pe_ix ix_list (pv 0) (pv 1) (fun _ _ => rfl))))
      pss_nil)
    (pss_one (ps_ret pe_int))), ?_⟩
    refine ⟨_, rfl, .ref a, rfl, a, _, rfl, .inl hS, _, _, rfl, rfl, _, rfl, ite2 (fun e => ?_) (fun e => ?_)⟩
    · have hk : k < cs.length := by
        have := of_decide_eq_true e
        rw [List.length_map] at this
        omega
      refine ⟨.ref a, rfl, _, rfl, a, _, _, .int cs[k], rfl, rfl, hS, atI_nat ?_, q _ (hc _ (List.getElem_mem hk))⟩
      rw [List.getElem?_map, List.getElem?_eq_getElem hk]; rfl
    · exact q 0 (by decide)
/-! ### _law_draw -/
def prs : List Int := [1000003, 1000033, 1000037, 1000039, 1000081, 1000099, 1000117, 1000121, 1000133, 1000151, 1000159, 1000171, 1000183, 1000187, 1000193, 1000199]
def spDraw : Sp := fun vs H Q _ => ∃ (c m : Int) (k : Nat), vs = [.int c, .int (k : Int), .int m] ∧ k ≤ 1000000 ∧ 0 < m ∧ ∀ H' d, Same H H' → 0 ≤ d → d < m → Q (.int d) H'
abbrev n_law_draw : List Str := ["_law_cell", "_law_k", "_law_many", "_law_primes"]
theorem sc_law_draw : FnScope n_law_draw ["_law_cell", "_law_k", "_law_many"] (defScope s_law_draw) := ⟨rfl, rfl, rfl, by decide +kernel, rfl, by decide +kernel, by decide +kernel⟩
theorem ok_law_draw (T : Tx K mg) : FnOk P w K mg base CX0 1 T.law_draw.f T.law_draw.fd ["_law_cell", "_law_k", "_law_many"] spDraw := by
  refine T.law_draw.F.ok sc_law_draw (fun vs H Q E h => ?_) (fun cdv A outer s H vs Q E hr h => ?_)
  · obtain ⟨c, m, k, rfl, _⟩ := h
    rfl
  · obtain ⟨c, m, k, rfl, hk, hm, q⟩ := h
    refine ⟨_, (pss_cons (ps_set (i := 3) sc_law_draw.nd rfl (.inl rfl) (pe_tup (pa_cons pe_int (pa_cons pe_int (pa_cons pe_int (pa_cons pe_int (pa_cons pe_int (pa_cons pe_int (pa_cons pe_int (pa_cons pe_int (pa_cons pe_int (pa_cons pe_int (pa_cons pe_int (pa_cons pe_int (pa_cons pe_int (pa_cons pe_int (pa_cons pe_int (pa_cons pe_int pa_nil))))))))))))))))))
    (pss_one (ps_ret (pe_op op_mod (pe_op op_mod (pe_op op_add (pe_op op_mulX (pv 0) pe_int) (pe_op op_mulX (pv 1) pe_int)) (pe_ix ix_tup (pv 3) (pe_op op_mod (pv 1) pe_int) (fun _ _ => rfl))) (pv 2))))), ?_⟩
    refine ⟨sz (by decide), fun t nt => ?_⟩
    have hj : ((k : Int) % 16).toNat < prs.length := by
      show _ < 16
      omega
    have ej : ((((k : Int) % 16).toNat : Nat) : Int) = (k : Int) % 16 := by omega
    have ha : atI (prs.map V.int) ((k : Int) % 16) = some (.int prs[((k : Int) % 16).toNat]) := at_of ej.symm (by
      rw [List.getElem?_map, List.getElem?_eq_getElem hj]; rfl)
    have hp : 0 < prs[((k : Int) % 16).toNat] := by
      have all : ∀ p ∈ prs, (0 : Int) < p := by decide
      exact all _ (List.getElem_mem hj)
    refine ⟨_, rfl, c, 48271, rfl, rfl, .of_right (bts_small (by decide) (by decide)), _, rfl, k, 69621, rfl, rfl, .of_right (bts_small (by decide) (by decide)), _, _, rfl, rfl, ?_⟩
    refine ⟨.ref t, rfl, _, rfl, k, 16, rfl, rfl, (by show (0 : Int) < 16; decide), t, prs.map V.int, _, _, rfl, rfl, .of upd_same, ha, ?_⟩
    refine ⟨_, _, rfl, rfl, hp, _, rfl, _, m, rfl, rfl, hm, ?_⟩
    exact q _ _ (same_upd nt) (Int.emod_nonneg _ (by omega)) (Int.emod_lt_of_pos _ hm)
/-! ### _law_value: some number from 0 on -/
def spValue : Sp := fun vs H Q _ => ∃ (c : Int) (t : Nat), vs = [.int c, .int (t : Int)] ∧ bts c ≤ 1048576 ∧ t ≤ 100000 ∧ ∀ H' v, Same H H' → 0 ≤ v → Q (.int v) H'
abbrev n_law_value : List Str := ["_law_cell", "_law_turn", "_law_mixed"]
theorem sc_law_value : FnScope n_law_value ["_law_cell", "_law_turn"] (defScope s_law_value) := ⟨rfl, rfl, rfl, by decide +kernel, rfl, by decide +kernel, by decide +kernel⟩
theorem ok_law_value (T : Tx K mg) : FnOk P w K mg base CX0 2 T.law_value.f T.law_value.fd ["_law_cell", "_law_turn"] spValue := by
  refine T.law_value.F.ok sc_law_value (fun vs H Q E h => ?_) (fun cdv A outer s H vs Q E hr h => ?_)
  · obtain ⟨c, t, rfl, _⟩ := h
    rfl
  · obtain ⟨c, t, rfl, hc, ht, q⟩ := h
    refine ⟨_, (pss_cons (ps_if (pt_cmpR op_ge (pv 0) (pe_op op_pow pe_int pe_int) (nomark _))
      (pss_one (ps_ret (pe_op op_shr (pe_op op_sub (pv 0) (pe_op op_pow pe_int pe_int)) (pe_op op_mulX pe_int (pv 1)))))
      pss_nil)
    (pss_cons (ps_set (i := 2) sc_law_value.nd rfl (.inl rfl) (pe_df T.law_draw (ok_law_draw T) (hr.mono (by decide)) (pa_cons (pe_op op_mulX (pe_op op_add (pv 0) (pe_op op_mulX pe_int (pv 1))) (pe_op op_add (pe_op op_add (pv 0) (pe_op op_mulX pe_int (pv 1))) pe_int)) (pa_cons (pe_op op_add (pe_op op_mod (pv 1) pe_int) pe_int) (pa_cons pe_int pa_nil)))))
    (pss_one (ps_ret (pe_op op_add (pe_op op_mulX (pv 2) pe_int) (pe_df T.law_draw (ok_law_draw T) (hr.mono (by decide)) (pa_cons (pe_op op_add (pe_op op_mulX (pe_op op_add (pv 0) (pe_op op_mulX pe_int (pv 1))) (pe_op op_add (pv 0) pe_int)) (pe_op op_mulX pe_int (pv 1))) (pa_cons (pe_op op_add (pe_op op_mod (pv 1) pe_int) pe_int) (pa_cons pe_int pa_nil))))))))), ?_⟩
    refine ⟨_, rfl, 10, 18, rfl, rfl, ⟨by decide, by decide, by decide⟩, c, _, rfl, rfl, _, rfl, ite2 (fun e => ?_) (fun e => ?_)⟩
    · have hc1 : (10 : Int) ^ (18 : Int).toNat ≤ c := of_decide_eq_true e
      refine ⟨_, rfl, 10, 18, rfl, rfl, ⟨by decide, by decide, by decide⟩, c, _, rfl, rfl, _, rfl, 3, t, rfl, rfl, .of_left (bts_small (by decide) (by decide)), _, _, rfl, rfl, by omega, ?_⟩
      refine q _ _ (Same.refl H) (Int.ediv_nonneg (by omega) ?_)
      exact Int.le_of_lt (Int.pow_pos (by decide))
    · have bt : ∀ x : Int, 0 ≤ x → x ≤ 100000000 → bts (c + x) ≤ 1048577 := fun x h1 h2 =>
        PySem.intBits_add_le (m := 1048576) (n := 64) hc (bts_small (by omega) (by omega))
      have t64 : IntMulOk (977 : Int) (t : Int) := .of_left (bts_small (by decide) (by decide))
      have t31 : IntMulOk (31 : Int) (t : Int) := .of_left (bts_small (by decide) (by decide))
      refine ⟨_, rfl, _, rfl, 977, t, rfl, rfl, t64, c, _, rfl, rfl, _, rfl, _, rfl, 31, t, rfl, rfl, t31, c, _, rfl, rfl, _, 5, rfl, rfl, _, _, rfl, rfl, ?_, ?_⟩
      · refine PySem.IntMulOk.of_le (m := 1048577) (n := 1048577) (bt _ (by omega) (by omega)) ?_ (by decide)
        rw [Int.add_assoc]
        exact bt _ (by omega) (by omega)
      refine ⟨_, rfl, t, 9, rfl, rfl, (by show (0 : Int) < 9; decide), _, 1, rfl, rfl, ?_⟩
      refine ⟨_, 999983, ((t : Int) % 9 + 1).toNat, by rw [Int.toNat_of_nonneg (by omega)]; rfl, by omega, by decide, fun H1 d s1 h0 h1 => ?_⟩
      refine ⟨_, rfl, d, 1000003, rfl, rfl, .of_right (bts_small (by decide) (by decide)), _, rfl, _, rfl, 31, t, rfl, rfl, t31, c, _, rfl, rfl, _, rfl, c, 7, rfl, rfl, _, _, rfl, rfl, ?_, ?_⟩
      · exact PySem.IntMulOk.of_le (m := 1048577) (n := 1048577) (bt _ (by omega) (by omega)) (bt _ (by omega) (by omega)) (by decide)
      refine ⟨_, rfl, 977, t, rfl, rfl, t64, _, _, rfl, rfl, _, rfl, t, 7, rfl, rfl, (by show (0 : Int) < 7; decide), _, 2, rfl, rfl, ?_⟩
      refine ⟨_, 1000003, ((t : Int) % 7 + 2).toNat, by rw [Int.toNat_of_nonneg (by omega)]; rfl, by omega, by decide, fun H2 d2 s2 h2 h3 => ?_⟩
      exact ⟨_, _, rfl, rfl, q _ _ (s1.trans s2) (by omega)⟩
end
end Sb
namespace Sb
open PySem PySem.Spec PyProof.Rows L2
/-- range(0, m, s), s from 1 on -/
theorem rgC_pos {m s : Nat} (h1 : 1 ≤ m) (hm : m ≤ 100000) (h2 : 1 ≤ s) (hs : s ≤ 100000) : RgC 0 (m : Int) (s : Int) ((m - 1) / s + 1) := by
  have e : Builtin.Range.rangeSize 0 (m : Int) (s : Int) = (((m - 1) / s + 1 : Nat) : Int) := by
    unfold Builtin.Range.rangeSize
    rw [if_pos (by omega), if_pos (by omega), show (m : Int) - 0 - 1 = ((m - 1 : Nat) : Int) by omega]
    push_cast
    rfl
  have hd : (m - 1) / s ≤ m - 1 := Nat.div_le_self _ _
  have hmul : (m - 1) / s * s ≤ m - 1 := Nat.div_mul_le_self _ _
  refine ⟨by omega, by omega, ?_, e⟩
  unfold Builtin.Range.small
  rw [e]
  rw [if_pos (show (s : Int) > 0 by omega)]
  have f : ∀ x : Int, -1000000 ≤ x → x ≤ 1000000 → Builtin.Range.rangeFitsLong x = true := fun x h1 h2 => by
    simp only [Builtin.Range.rangeFitsLong, Bool.and_eq_true, decide_eq_true_eq]
    omega
  have hc : (((m - 1) / s + 1 : Nat) : Int) ≤ 1000000 := by omega
  have hc0 : -1000000 ≤ (((m - 1) / s + 1 : Nat) : Int) := Int.le_trans (by decide) (Int.natCast_nonneg _)
  rw [f 0 (by omega) (by omega), f m (by omega) (by omega), f s (by omega) (by omega), f _ hc0 hc, f _ (by omega) (by omega), Bool.or_true]
  rfl
/-- a slice of numbers -/
theorem cut_iv (ns : List Nat) (b s : Nat) : cutV (iv ns) (some (b : Int)) (some ((b : Int) + (s : Int))) = iv ((ns.drop b).take s) := by
  unfold cutV
  rw [show (b : Int) + (s : Int) = ((b + s : Nat) : Int) by omega, HT.sIx_nat, HT.sIx_nat, iv_len]
  show List.take _ (List.drop _ (List.map _ ns)) = List.map _ _
  rw [← List.map_drop, ← List.map_take]
  congr 1
  by_cases hb : b ≤ ns.length
  · rw [Nat.min_eq_left hb]
    by_cases hs : b + s ≤ ns.length
    · rw [Nat.min_eq_left hs, show b + s - b = s by omega]
    · rw [Nat.min_eq_right (by omega), List.take_of_length_le (by rw [List.length_drop]; omega), List.take_of_length_le (by rw [List.length_drop]; omega)]
  · rw [Nat.min_eq_right (show ns.length ≤ b by omega), List.drop_of_length_le (Nat.le_refl _), List.drop_of_length_le (by omega)]
    simp
theorem cut_iv1 (ns : List Nat) : cutV (iv ns) (some 1) none = iv (ns.drop 1) := by
  unfold cutV
  rw [show HT.sIx (iv ns).length 0 (some 1) = min 1 (iv ns).length from HT.sIx_nat _ 0 1, HT.sIx_none, iv_len]
  show List.take _ (List.drop _ (List.map _ ns)) = List.map _ _
  rw [← List.map_drop, ← List.map_take]
  congr 1
  cases ns with
  | nil => rfl
  | cons x r =>
    rw [show min 1 (x :: r).length = 1 by rw [List.length_cons]; omega]
    rw [List.take_of_length_le]
    rw [List.length_drop]
    exact Nat.le_refl _
theorem cut_iv0 (ns : List Nat) (k : Nat) : cutV (iv ns) none (some (k : Int)) = iv (ns.take k) := by
  unfold cutV
  rw [HT.sIx_nat, HT.sIx_none, iv_len, List.drop_zero, Nat.sub_zero]
  show List.take _ (List.map _ ns) = List.map _ _
  rw [← List.map_take]
  congr 1
  by_cases h : k ≤ ns.length
  · rw [Nat.min_eq_left h]
  · rw [Nat.min_eq_right (by omega), List.take_of_length_le (Nat.le_refl _), List.take_of_length_le (by omega)]
theorem iv_append (a b : List Nat) : iv a ++ iv b = iv (a ++ b) := (List.map_append ..).symm
theorem iv_set (ns : List Nat) (i x : Nat) : (iv ns).set i (.int (x : Int)) = iv (ns.set i x) := (List.map_set ..).symm
theorem rep_iv (m : Nat) : (List.replicate (m : Int).toNat [V.int 0]).flatten = iv (List.replicate m 0) := by
  rw [Int.toNat_natCast]
  show _ = List.map _ _
  rw [List.map_replicate]
  induction m with
  | zero => rfl
  | succ m ih => rw [List.replicate_succ, List.replicate_succ, List.flatten_cons, ih]; rfl
theorem zip_get? {r q : List Nat} (i : Nat) {x y : Nat} (hx : r[i]? = some x) (hy : q[i]? = some y) : (r.zip q)[i]? = some (x, y) := by
  rw [List.getElem?_zip_eq_some]; exact ⟨hx, hy⟩
section
variable {P : Program} {w : World} {K : PySem.W.Frag} {mg : Str → Option Value} {base : Heap}
/-! ### _law_boxes: some boxes -/
def spBoxes (K : PySem.W.Frag) : Sp := fun vs H Q _ => ∃ (a : Addr) (cs : List Int) (b m : Nat), vs = [.ref a, .int (b : Int), .int (m : Int)] ∧ SqL K H a (cs.map V.int) ∧ Cells cs ∧ 1 ≤ m ∧ m ≤ 100 ∧
  ∀ (H' : Hp) (p : Addr) (ns : List Nat), Same H H' → H p = none → H' p = some (.lst (iv ns)) → Good ns → 1 ≤ ns.length → ns.length ≤ m → Q (.ref p) H'
abbrev n_law_boxes : List Str := ["_law_script", "_law_by", "_law_most", "_law_cell", "_law_many", "_law_kind", "_law_order", "_law_one", "_law_size", "_law_found", "_law_begin", "_law_ring_here", "_law_other"]
theorem sc_law_boxes : FnScope n_law_boxes ["_law_script", "_law_by", "_law_most"] (defScope s_law_boxes) := ⟨rfl, rfl, rfl, by decide +kernel, rfl, by decide +kernel, by decide +kernel⟩
theorem ok_law_boxes (T : Tx K mg) : FnOk P w K mg base CX0 3 T.law_boxes.f T.law_boxes.fd ["_law_script", "_law_by", "_law_most"] (spBoxes K) := by
  refine T.law_boxes.F.ok sc_law_boxes (fun vs H Q E h => ?_) (fun cdv A outer s H vs Q E hr h => ?_)
  · obtain ⟨a, cs, b, m, rfl, _⟩ := h
    rfl
  · obtain ⟨a, cs, b, mo, rfl, hS, hC, hm1, hm2, q⟩ := h
    refine ⟨_, (pss_cons (ps_set (i := 3) sc_law_boxes.nd rfl (.inl rfl) (pe_df T.law_cell_at (ok_law_cell_at T) (hr.mono (by decide)) (pa_cons (pv 0) (pa_cons (pv 1) pa_nil))))
    (pss_cons (ps_par (i := 4) (j := 5) (by rfl) sc_law_boxes.nd rfl rfl (by decide) rfl rfl (pa_cons (pe_op op_add pe_int (pe_op op_mod (pe_df T.law_value (ok_law_value T) (hr.mono (by decide)) (pa_cons (pv 3) (pa_cons pe_int pa_nil))) (pv 2))) (pa_cons (pe_op op_mod (pe_df T.law_value (ok_law_value T) (hr.mono (by decide)) (pa_cons (pv 3) (pa_cons pe_int pa_nil))) pe_int) pa_nil)) (by rfl))
    (pss_cons (ps_set (i := 6) sc_law_boxes.nd rfl (.inl rfl) (pe_lst pa_nil))
    (pss_cons (ps_for PassesOwn.never rfl (pi_range1 (by rfl) T.m_range (pa_cons (pv 4) pa_nil)) (pg_name (i := 7) sc_law_boxes.nd rfl (.inl rfl))
      (pss_one (ps_expr (pe_bm PySem.F.plainAttrs_list PySem.F.slot_list_insert PySem.F.type_list_insert mt_insert (pv 6) (pa_cons (pe_op op_mod (pe_op op_fdiv (pe_df T.law_value (ok_law_value T) (hr.mono (by decide)) (pa_cons (pe_df T.law_cell_at (ok_law_cell_at T) (hr.mono (by decide)) (pa_cons (pv 0) (pa_cons (pe_op op_add (pv 1) (pe_op op_mod (pv 7) pe_int)) pa_nil))) (pa_cons (pe_op op_add (pv 7) pe_int) pa_nil))) pe_int) (pe_op op_add (pv 7) pe_int)) (pa_cons (pv 7) pa_nil))))))
    (pss_cons (ps_if (pt_cmpR op_eq (pv 5) pe_int (nomark _))
      (pss_one (ps_ret (pv 6)))
      pss_nil)
    (pss_cons (ps_set (i := 8) sc_law_boxes.nd rfl (.inl rfl) (pe_ix ix_tup (pe_tup (pa_cons (pv 4) (pa_cons (pe_op op_add pe_int (pe_op op_fdiv (pv 4) pe_int)) (pa_cons (pe_op op_add pe_int (pe_op op_mod (pe_df T.law_value (ok_law_value T) (hr.mono (by decide)) (pa_cons (pv 3) (pa_cons pe_int pa_nil))) (pv 4))) pa_nil)))) (pe_op op_sub (pv 5) pe_int) (fun _ _ => rfl)))
    (pss_cons (ps_set (i := 9) sc_law_boxes.nd rfl (.inl rfl) (pe_op op_rep (pe_lst (pa_cons pe_int pa_nil)) (pv 4)))
    (pss_cons (ps_for PassesOwn.never rfl (pi_range3 (by rfl) T.m_range (pa_cons pe_int (pa_cons (pv 4) (pa_cons (pv 8) pa_nil)))) (pg_name (i := 10) sc_law_boxes.nd rfl (.inl rfl))
      (pss_cons (ps_set (i := 11) sc_law_boxes.nd rfl (.inl rfl) (pe_slice sl_list (pv 6) (po_some (pv 10)) (po_some (pe_op op_add (pv 10) (pv 8)))))
      (pss_one (ps_for PassesOwn.never rfl (pi_zip (by rfl) T.m_zip (pa_cons (pv 11) (pa_cons (pe_op op_cat (pe_slice sl_list (pv 11) (po_some pe_int) po_none) (pe_slice sl_list (pv 11) po_none (po_some pe_int))) pa_nil))) (pg_tup rfl (pgs_cons (pg_name (i := 7) sc_law_boxes.nd rfl (.inl rfl)) (pgs_cons (pg_name (i := 12) sc_law_boxes.nd rfl (.inl rfl)) pgs_nil)))
        (pss_one (ps_asg (pv 12) (pg_sub (pv 9) (pv 7) set_list)))))))
    (pss_one (ps_ret (pv 9))))))))))), ?_⟩
    refine ⟨_, rfl, _, rfl, a, cs, b, rfl, hS, hC, fun c hc => ?_⟩
    refine ⟨_, rfl, c, 1, rfl, hc, by decide, fun H1 v1 s1 h1 => ⟨_, rfl, v1, mo, rfl, rfl, (by show (0 : Int) < mo; omega), 1, _, rfl, rfl, ?_⟩⟩
    refine ⟨_, rfl, c, 2, rfl, hc, by decide, fun H2 v2 s2 h2 => ⟨v2, 4, rfl, rfl, (by show (0 : Int) < 4; decide), _, _, rfl, ?_⟩⟩
    obtain ⟨m, em, hml, hmu⟩ : ∃ m : Nat, 1 + v1 % (mo : Int) = (m : Int) ∧ 1 ≤ m ∧ m ≤ mo := by
      have e1 := Int.emod_nonneg v1 (show (mo : Int) ≠ 0 by omega)
      have e2 := Int.emod_lt_of_pos v1 (show (0 : Int) < mo by omega)
      exact ⟨(1 + v1 % (mo : Int)).toNat, by omega, by omega, by omega⟩
    obtain ⟨kd, ek, hk⟩ : ∃ k : Nat, v2 % 4 = (k : Int) ∧ k < 4 := ⟨(v2 % 4).toNat, by omega, by omega⟩
    dsimp only
    rw [em, ek]
    refine ⟨Nat.zero_le _, fun o no => ?_⟩
    have s12 := s1.trans s2
    have noH : H o = none := s12.free no
    refine ⟨_, rfl, m, rfl, by omega, by omega, ?_⟩
    rw [Int.toNat_natCast]
    refine for_range (lo := 0) (n := m) (fun i σ H3 => ∃ (ord : List Nat) (v7 : Option V), σ = [some (.ref a), some (.int (b : Int)), some (.int (mo : Int)), some (.int c), some (.int (m : Int)), some (.int (kd : Int)), some (.ref o), v7, none, none, none, none, none] ∧ Same H H3 ∧ H3 o = some (.lst (iv ord)) ∧ ord.Perm (List.range i)) ⟨[], none, rfl, s12.trans (same_upd no), upd_same, .refl _⟩ (fun i σ H3 hi hP => ?_) (fun σ H3 hP => ?_)
    · obtain ⟨ord, v7, rfl, sm, eo, pm⟩ := hP
      refine ⟨_, rfl, .inl ⟨rfl, _, .of eo⟩, _, rfl, _, rfl, _, rfl, _, 5, rfl, rfl, (by show (0 : Int) < 5; decide), b, _, rfl, rfl, ?_⟩
      refine ⟨a, cs, (b + i % 5 : Nat), ?_, sm.seq hS, hC, fun c2 hc2 => ?_⟩
      · rw [Int.zero_add]
        push_cast
        rfl
      refine ⟨_, rfl, _, 3, rfl, rfl, c2, (i + 3 : Nat), ?_, hc2, by omega, fun H4 v4 s4 h4 => ?_⟩
      · rw [Int.zero_add]
        push_cast
        rfl
      refine ⟨v4, 3, rfl, rfl, ⟨by decide, by decide⟩, _, rfl, _, 1, rfl, rfl, _, _, rfl, rfl, (by show (0 : Int) < 0 + (i : Int) + 1; omega), _, rfl, o, _, _, _, rfl, rfl, s4 _ _ eo, ?_, ?_, ?_, ?_⟩
      · rw [iv_len, pm.length_eq, List.length_range]
        exact szl (by omega)
      · exact Int.emod_nonneg _ (by omega)
      · have := Int.emod_lt_of_pos (v4 / 3) (show (0 : Int) < 0 + (i : Int) + 1 by omega)
        omega
      · refine ⟨ord.take (v4 / 3 % (0 + (i : Int) + 1)).toNat ++ [i] ++ ord.drop (v4 / 3 % (0 + (i : Int) + 1)).toNat, _, rfl, same_mut (sm.trans s4) noH, ?_, insert_perm pm⟩
        rw [upd_same, ← List.map_take, ← List.map_drop, Int.zero_add]
        show _ = some (HO.lst (List.map _ _))
        rw [List.map_append, List.map_append]
        rfl
    · obtain ⟨ord, v7, rfl, sm, eo, pm⟩ := hP
      have hol : ord.length = m := by rw [pm.length_eq, List.length_range]
      refine ⟨_, rfl, rfl, _, rfl, ite2 (fun e => ?_) (fun e => ?_)⟩
      · exact ⟨_, rfl, q H3 o ord sm noH eo (good_of_perm pm) (by omega) (by omega)⟩
      · have hk1 : 1 ≤ kd := by
          by_cases h0 : kd = 0
          · subst h0
            exact absurd (decide_eq_true rfl) e
          · omega
        refine ⟨_, rfl, _, rfl, m, 2, rfl, rfl, ⟨by decide, by decide⟩, 1, _, rfl, rfl, _, rfl, c, 3, rfl, hc, by decide, fun H4 v4 s4 h4 => ?_⟩
        refine ⟨_, rfl, v4, m, rfl, rfl, (by show (0 : Int) < m; omega), 1, _, rfl, rfl, sz (by simp), fun t nt => ?_⟩
        have e1 := Int.emod_nonneg v4 (show (m : Int) ≠ 0 by omega)
        have e2 := Int.emod_lt_of_pos v4 (show (0 : Int) < m by omega)
        obtain ⟨sz1, hs1, hs2, hat⟩ : ∃ z : Nat, 1 ≤ z ∧ z ≤ m ∧ atI [V.int (m : Int), V.int (1 + (m : Int) / 2), V.int (1 + v4 % (m : Int))] ((kd : Int) - 1) = some (.int (z : Int)) := by
          have hcase : kd = 1 ∨ kd = 2 ∨ kd = 3 := by omega
          rcases hcase with rfl | rfl | rfl
          · exact ⟨m, by omega, by omega, rfl⟩
          · refine ⟨1 + m / 2, by omega, by omega, ?_⟩
            have e3 : (1 : Int) + (m : Int) / 2 = ((1 + m / 2 : Nat) : Int) := by omega
            rw [e3]; rfl
          · refine ⟨(1 + v4 % (m : Int)).toNat, by omega, by omega, ?_⟩
            have e3 : (1 : Int) + v4 % (m : Int) = (((1 + v4 % (m : Int)).toNat : Nat) : Int) := by omega
            rw [← e3]; rfl
        refine ⟨_, rfl, kd, 1, rfl, rfl, t, _, _, _, rfl, rfl, .of upd_same, hat, ?_⟩
        have s5 := (sm.trans s4).trans (same_upd (o := .tup [V.int (m : Int), V.int (1 + (m : Int) / 2), V.int (1 + v4 % (m : Int))]) nt)
        have eo5 : (upd H4 t (.tup [V.int (m : Int), V.int (1 + (m : Int) / 2), V.int (1 + v4 % (m : Int))])) o = some (.lst (iv ord)) := by
          rw [upd_ne (ne_of_none (s4 _ _ eo) nt)]; exact s4 _ _ eo
        -- [0] * many
        refine ⟨sz (by decide), fun z nz => ⟨_, rfl, z, m, _, rfl, rfl, upd_same, by omega, by omega, sz (by rw [Int.toNat_natCast]; show 1 * m ≤ _; omega), fun f nf => ?_⟩⟩
        have s6 := (s5.trans (same_upd nz)).trans (same_upd (o := .lst (List.replicate (m : Int).toNat [V.int 0]).flatten) nf)
        have nfH : H f = none := (s5.trans (same_upd nz)).free nf
        have erep := rep_iv m
        have eo6 := (same_upd (o := .lst (List.replicate (m : Int).toNat [V.int 0]).flatten) nf) _ _ ((same_upd (o := .lst [V.int 0]) nz) _ _ eo5)
        have nof : o ≠ f := fun e => by
          have z1 := (same_upd (o := .lst [V.int 0]) nz) _ _ eo5
          rw [e, nf] at z1
          cases z1
        -- for begin in range(0, many, size)
        refine ⟨_, rfl, _, rfl, 0, m, sz1, _, rfl, rgC_pos hml (by omega) hs1 (by omega), ?_⟩
        have ho : ord.Perm (List.range ord.length) := by rw [hol]; exact pm
        refine for_rangeC (lo := 0) (c := (sz1 : Int)) (n := (m - 1) / sz1 + 1) (fun i σ H7 => ∃ (fs : List Nat) (w7 w10 w11 w12 : Option V), σ = [some (.ref a), some (.int (b : Int)), some (.int (mo : Int)), some (.int c), some (.int (m : Int)), some (.int (kd : Int)), some (.ref o), w7, some (.int (sz1 : Int)), some (.ref f), w10, w11, w12] ∧ Same H H7 ∧ H7 o = some (.lst (iv ord)) ∧ H7 f = some (.lst (iv fs)) ∧ Laid ord fs (i * sz1)) ?_ (fun i σ H7 hi hP => ?_) (fun σ H7 hP => ?_)
        · refine ⟨List.replicate m 0, _, _, _, _, rfl, s6, eo6, by rw [upd_same, erep], ?_⟩
          rw [Nat.zero_mul]
          exact Laid.start _ _ (by rw [List.length_replicate, hol])
        · obtain ⟨fs, w7, w10, w11, w12, rfl, sm7, eo7, ef7, L⟩ := hP
          have eb : (0 : Int) + ((i : Nat) : Int) * (sz1 : Int) = ((i * sz1 : Nat) : Int) := by push_cast; omega
          refine ⟨_, rfl, _, rfl, _, rfl, _, rfl, _, rfl, _, _, rfl, rfl, _, rfl, o, _, rfl, .of eo7, fun r nr => ?_⟩
          rw [eb, cut_iv]
          have er : (upd H7 r (.lst (iv ((ord.drop (i * sz1)).take sz1)))) r = some (.lst (iv ((ord.drop (i * sz1)).take sz1))) := upd_same
          have s8 := same_upd (o := .lst (iv ((ord.drop (i * sz1)).take sz1))) nr
          have hrl : ((ord.drop (i * sz1)).take sz1).length ≤ 100 := by
            rw [List.length_take, List.length_drop]
            omega
          have key := L.step (s := sz1) ho
          rw [show i * sz1 + sz1 = (i + 1) * sz1 by rw [Nat.add_mul, Nat.one_mul]] at key
          have hrm : ∀ x ∈ (ord.drop (i * sz1)).take sz1, x < fs.length := fun x hx => by
            rw [L.len]
            exact List.mem_range.mp (ho.mem_iff.mp (List.mem_of_mem_drop (List.mem_of_mem_take hx)))
          generalize (ord.drop (i * sz1)).take sz1 = ring at *
          refine ⟨_, rfl, _, rfl, 1, rfl, r, _, rfl, .of upd_same, fun p1 n1 => ?_⟩
          rw [cut_iv1]
          have s9 := same_upd (o := .lst (iv (ring.drop 1))) n1
          refine ⟨_, rfl, 1, rfl, r, _, rfl, s9.seq (.of upd_same), fun p2 n2 => ?_⟩
          rw [show (1 : Int) = ((1 : Nat) : Int) from rfl, cut_iv0]
          have s10 := same_upd (o := .lst (iv (ring.take 1))) n2
          refine ⟨p1, p2, _, _, rfl, rfl, s10 _ _ upd_same, upd_same, ?_, fun p3 n3 => ?_⟩
          · rw [iv_len, iv_len, List.length_drop, List.length_take]
            exact sz (by omega)
          rw [iv_append]
          have s11 := same_upd (o := .lst (iv (ring.drop 1 ++ ring.take 1))) n3
          have er11 := s11 _ _ (s10 _ _ (s9 _ _ er))
          have sAll := ((s8.trans s9).trans s10).trans s11
          have nrH : H r = none := sm7.free nr
          have np3 : H p3 = none := ((sm7.trans s8).trans (s9.trans s10)).free n3
          have nrf : r ≠ f := fun e => by rw [e, ef7] at nr; cases nr
          have np3f : p3 ≠ f := fun e => by
            have z := (s8.trans (s9.trans s10)) _ _ ef7
            rw [← e, n3] at z
            cases z
          refine ⟨r, p3, _, _, rfl, .of er11, .of upd_same, ?_⟩
          have hrot : ring.length = (rot ring).length := (rot_len ring).symm
          refine RZ.for_zipL (K := K) (a := r) (b := p3) (xs := iv ring) (ys := iv (rot ring)) (by rw [iv_len, iv_len]; exact hrot) (fun j σ H8 => ∃ (w7 w12 : Option V), σ = [some (.ref a), some (.int (b : Int)), some (.int (mo : Int)), some (.int c), some (.int (m : Int)), some (.int (kd : Int)), some (.ref o), w7, some (.int (sz1 : Int)), some (.ref f), some (.int ((i * sz1 : Nat) : Int)), some (.ref r), w12] ∧ Same H H8 ∧ H8 o = some (.lst (iv ord)) ∧ H8 r = some (.lst (iv ring)) ∧ H8 p3 = some (.lst (iv (rot ring))) ∧ H8 f = some (.lst (iv (layAll fs ((ring.zip (rot ring)).take j))))) ?_ (fun j σ H8 hP => ?_) (fun j x y t2 σ H8 hx hy hP nt2 => ?_) (fun σ H8 hP => ?_)
          · exact ⟨_, _, rfl, sm7.trans sAll, sAll _ _ eo7, er11, upd_same, sAll _ _ ef7⟩
          · obtain ⟨w7, w12, _, _, _, e1, e2, _⟩ := hP
            exact ⟨.of e1, .of e2⟩
          · obtain ⟨w7, w12, rfl, sm8, eo8, er8, ep8, ef8⟩ := hP
            rw [iv_get?] at hx hy
            obtain ⟨xn, hxn, rfl⟩ := Option.map_eq_some_iff.mp hx
            obtain ⟨yn, hyn, rfl⟩ := Option.map_eq_some_iff.mp hy
            have s12 := same_upd (o := .tup [V.int (xn : Int), V.int (yn : Int)]) nt2
            have hxl : xn < (layAll fs ((ring.zip (rot ring)).take j)).length := by
              rw [layAll_len]
              exact hrm xn (List.mem_of_getElem? hxn)
            refine ⟨t2, _, rfl, .of upd_same, rfl, _, _, rfl, _, _, rfl, rfl, ?_⟩
            refine ⟨_, rfl, _, rfl, _, rfl, f, _, _, xn, rfl, rfl, s12 _ _ ef8, ?_, ?_⟩
            · unfold ixN
              rw [iv_len, if_pos (by omega), if_pos (by omega), Int.toNat_natCast]
            · refine ⟨_, _, rfl, same_mut (sm8.trans s12) nfH, ?_, ?_, ?_, ?_⟩
              · rw [upd_ne nof]; exact s12 _ _ eo8
              · rw [upd_ne nrf]; exact s12 _ _ er8
              · rw [upd_ne np3f]; exact s12 _ _ ep8
              · rw [upd_same, iv_set, List.take_add_one, zip_get? j hxn hyn]
                show _ = some (HO.lst (iv (layAll fs (List.take j (ring.zip (rot ring)) ++ [(xn, yn)]))))
                rw [layAll_snoc]
          · obtain ⟨w7, w12, rfl, sm8, eo8, er8, ep8, ef8⟩ := hP
            refine ⟨_, _, _, _, _, rfl, sm8, eo8, ef8, ?_⟩
            rw [List.take_of_length_le (by rw [List.length_zip, iv_len]; omega)]
            exact key
        · obtain ⟨fs, w7, w10, w11, w12, rfl, sm7, eo7, ef7, L⟩ := hP
          have G : Good fs := L.done ho (by
            rw [hol, Nat.add_mul, Nat.one_mul]
            have := Nat.div_add_mod (m - 1) sz1
            have h3 := Nat.mod_lt (m - 1) (show 0 < sz1 by omega)
            rw [Nat.mul_comm] at this
            omega)
          have hfl := L.len
          exact ⟨_, rfl, q H7 f fs sm7 nfH ef7 G (by omega) (by omega)⟩
end
end Sb
namespace Sb
open PySem PySem.Spec PyProof.Rows L2
section
variable {P : Program} {w : World} {K : PySem.W.Frag} {mg : Str → Option Value} {base : Heap}
/-! ### _law_ring: the same list by other steps -/
abbrev n_law_ring : List Str := ["_law_boxes_here", "_law_hand", "_law_found", "_law_here"]
theorem sc_law_ring : FnScope n_law_ring ["_law_boxes_here", "_law_hand"] (defScope s_law_ring) := ⟨rfl, rfl, rfl, by decide +kernel, rfl, by decide +kernel, by decide +kernel⟩
theorem ok_law_ring (T : Tx K mg) : FnOk P w K mg base CX0 1 T.law_ring.f T.law_ring.fd ["_law_boxes_here", "_law_hand"] (spRing K) := by
  refine T.law_ring.F.ok sc_law_ring (fun vs H Q E h => ?_) (fun cdv A outer s H vs Q E hr h => ?_)
  · obtain ⟨a, ns, h, rfl, _⟩ := h
    rfl
  · obtain ⟨a, ns, h, rfl, hS, g, hh, hlen, q⟩ := h
    refine ⟨_, (pss_cons (ps_par (i := 2) (j := 3) (by rfl) sc_law_ring.nd rfl rfl (by decide) rfl rfl (pa_cons (pe_lst pa_nil) (pa_cons (pv 1) pa_nil)) (by rfl))
    (pss_cons (ps_while PassesOwn.never (pt_cmpR op_notIn_seq (pv 3) (pv 2) (by rfl))
      (pss_cons (ps_expr (pe_bm PySem.F.plainAttrs_list PySem.F.slot_list_append PySem.F.type_list_append mt_append (pv 2) (pa_cons (pv 3) pa_nil)))
      (pss_one (ps_set (i := 3) sc_law_ring.nd rfl (.inl rfl) (pe_ix ix_list (pv 0) (pv 3) (fun _ _ => rfl))))))
    (pss_one (ps_ret (pv 2))))), ?_⟩
    refine ⟨Nat.zero_le _, fun o no => ⟨.int h, rfl, _, _, rfl, ?_⟩⟩
    refine ⟨fun m σ H3 => ∃ (r : List Nat) (y : Nat), σ = [some (.ref a), some (.int (h : Int)), some (.ref o), some (.int (y : Int))] ∧ Same H H3 ∧ H3 o = some (.lst (iv r)) ∧ ((r = [] ∧ y = h) ∨ (Chain ns h r ∧ ∃ x, r[r.length - 1]? = some x ∧ y = nxt ns x)) ∧ m = ns.length - r.length,
      ⟨_, [], h, rfl, same_upd no, upd_same, .inl ⟨rfl, rfl⟩, rfl⟩, fun m σ H3 hW => ?_⟩
    obtain ⟨r, y, rfl, sm, eo, c, rfl⟩ := hW
    have hA : SqL K H3 a (iv ns) := sm.seq hS
    have hO : SqL K H3 o (iv r) := .of eo
    refine ⟨_, rfl, _, rfl, o, _, rfl, .inl hO, rfl, flat_iv _, _, rfl, ?_⟩
    rw [if_pos rfl, inV_iv]
    have hy : y < ns.length := by
      rcases c with ⟨_, rfl⟩ | ⟨c, x, hx, rfl⟩
      · exact hh
      · exact g.nxt_lt (c.lt x (List.mem_of_getElem? hx))
    have hrl : r.length ≤ ns.length := by
      rcases c with ⟨rfl, _⟩ | ⟨c, _⟩
      · exact Nat.zero_le _
      · exact c.len_le
    by_cases hm : y ∈ r
    · rw [decide_eq_true hm]
      refine iteF ?_
      rcases c with ⟨rfl, _⟩ | ⟨c, x, hx, rfl⟩
      · cases hm
      · have R : IsRing ns h r := ⟨c, fun z hz => by rw [hx] at hz; cases hz; exact c.slip g hx hm⟩
        rw [R.eq g] at eo
        exact ⟨.ref o, rfl, q H3 o sm no eo⟩
    · rw [decide_eq_false hm]
      refine iteT ?_
      have c' : Chain ns h (r ++ [y]) := by
        rcases c with ⟨rfl, rfl⟩ | ⟨c, x, hx, rfl⟩
        · exact Chain.one hh
        · exact c.more hx hm hy
      refine ⟨fun σ' H' => ∃ y', σ' = [some (.ref a), some (.int (h : Int)), some (.ref o), some (.int ((y' : Nat) : Int))] ∧ Same H H' ∧ H' o = some (.lst (iv (r ++ [y]))) ∧ y' = nxt ns y, fun σ' H' hN => ?_, ?_⟩
      · obtain ⟨y', e1, e2, e3, e4⟩ := hN
        have hl := c'.len_le
        rw [List.length_append] at hl
        have hl2 : r.length + 1 ≤ ns.length := hl
        exact ⟨ns.length - (r ++ [y]).length, by rw [List.length_append]; show _ - (r.length + 1) < _; omega, r ++ [y], y', e1, e2, e3, .inr ⟨c', y, by simp, e4⟩, rfl⟩
      · refine ⟨.ref o, rfl, .inl ⟨rfl, _, hO⟩, _, rfl, o, _, _, rfl, rfl, eo, ?_, ?_⟩
        · rw [iv_len]
          exact szl (by omega)
        · rw [iv_snoc]
          have sm2 : Same H (upd H3 o (.lst (iv (r ++ [y])))) := same_mut sm no
          exact ⟨_, rfl, _, rfl, a, _, _, _, rfl, rfl, sm2.seq hS, iv_at (nxt_get? hy), _, rfl, sm2, upd_same, rfl⟩
end
end Sb
namespace Sb
open PySem PySem.Spec PyProof.Rows L2
section
variable {P : Program} {w : World} {K : PySem.W.Frag} {mg : Str → Option Value} {base : Heap}
/-! ### the law -/
def spLaw (K : PySem.W.Frag) : Sp := fun vs H Q _ => ∃ (a : Addr) (cs : List Int), vs = [.ref a] ∧ SqL K H a (cs.map V.int) ∧ cs.length ≤ 63 ∧ Cells cs ∧ ∀ H', Q (.bl true) H'
abbrev n_law : List Str := ["_law_script", "_law_by", "_law_boxes_here", "_law_handed", "_law_due", "_law_hand", "_law_ring_here", "_law_found", "_law_again"]
theorem sc_law : FnScope n_law ["_law_script"] (defScope s_law) := ⟨rfl, rfl, rfl, by decide +kernel, rfl, by decide +kernel, by decide +kernel⟩
theorem ok_law (T : Tx K mg) {f : Addr} {fd : FuncData} (F : Fun K "law" "law" s_law f fd) : FnOk P w K mg base CX0 8 f fd ["_law_script"] (spLaw K) := by
  refine F.ok sc_law (fun vs H Q E h => ?_) (fun cdv A outer s H vs Q E hr h => ?_)
  · obtain ⟨a, cs, rfl, _⟩ := h
    rfl
  · obtain ⟨a, cs, rfl, hS, hlen, hC, q⟩ := h
    refine ⟨_, (pss_cons (ps_set (i := 0) sc_law.nd rfl (.inl rfl) (pe_slice sl_list (pv 0) po_none (po_some pe_int)))
    (pss_cons (ps_for PassesOwn.never rfl (pi_range3 (by rfl) T.m_range (pa_cons pe_int (pa_cons (pe_callB (call_max2 rfl) (by rfl) T.m_max (by decide +kernel) (pa_cons pe_int (pa_cons (pe_callB call_len_seq (by rfl) T.m_len (by decide +kernel) (pa_cons (pv 0) pa_nil)) pa_nil))) (pa_cons (pe_op op_add pe_int (pe_op op_fdiv (pe_callB call_len_seq (by rfl) T.m_len (by decide +kernel) (pa_cons (pv 0) pa_nil)) pe_int)) pa_nil)))) (pg_name (i := 1) sc_law.nd rfl (.inl rfl))
      (pss_cons (ps_set (i := 2) sc_law.nd rfl (.inl rfl) (pe_df T.law_boxes (ok_law_boxes T) (hr.mono (by decide)) (pa_cons (pv 0) (pa_cons (pv 1) (pa_cons pe_int pa_nil)))))
      (pss_cons (ps_par (i := 3) (j := 4) (by rfl) sc_law.nd rfl rfl (by decide) rfl rfl (pa_cons (pe_callTy call_list_of (by rfl) T.m_list (by decide +kernel) (pa_cons (pv 2) pa_nil)) (pa_cons (pe_lst pa_nil) pa_nil)) (by rfl))
      (pss_cons (ps_for PassesOwn.never rfl (pi_range1 (by rfl) T.m_range (pa_cons (pe_callB call_len_seq (by rfl) T.m_len (by decide +kernel) (pa_cons (pv 2) pa_nil)) pa_nil)) (pg_name (i := 5) sc_law.nd rfl (.inl rfl))
        (pss_cons (ps_set (i := 6) sc_law.nd rfl (.inl rfl) (pe_df T.law_ring (ok_law_ring T) (hr.mono (by decide)) (pa_cons (pv 2) (pa_cons (pv 5) pa_nil))))
        (pss_one (ps_if (pt_cmpR op_eq (pe_callB (cr_min rfl) (by rfl) T.m_min (by decide +kernel) (pa_cons (pv 6) pa_nil)) (pv 5) (nomark _))
          (pss_one (ps_expr (pe_bm PySem.F.plainAttrs_list PySem.F.slot_list_append PySem.F.type_list_append mt_append (pv 4) (pa_cons (pv 6) pa_nil))))
          pss_nil))))
      (pss_cons (ps_for PassesOwn.never rfl (pi_range3 (by rfl) T.m_range (pa_cons pe_int (pa_cons (pe_callB call_len_seq (by rfl) T.m_len (by decide +kernel) (pa_cons (pv 2) pa_nil)) (pa_cons (pe_op op_add pe_int (pe_op op_fdiv (pe_callB call_len_seq (by rfl) T.m_len (by decide +kernel) (pa_cons (pv 2) pa_nil)) pe_int)) pa_nil)))) (pg_name (i := 5) sc_law.nd rfl (.inl rfl))
        (pss_cons (ps_set (i := 7) sc_law.nd rfl (.inl rfl) (pe_df T.opened (ok_opened T) (hr.mono (by decide)) (pa_cons (pv 3) (pa_cons (pv 5) pa_nil))))
        (pss_cons (ps_if (PW.pt (pw_or (pt_not (pt_val (pe_callB call_isi (by rfl) T.m_isinstance (by decide +kernel) (pa_cons (pv 7) (pa_cons (pe_bltn (v := .ty "list") (by rfl) T.m_list (by decide +kernel) rfl) pa_nil))))) (pw_or (pt_cmpR (op_neD hr.units) (pv 7) (pe_df T.law_ring (ok_law_ring T) (hr.mono (by decide)) (pa_cons (pv 2) (pa_cons (pv 5) pa_nil))) (nomark _)) (pw_or1 (pt_cmpR (op_neD hr.units) (pv 3) (pv 2) (nomark _))))))
          (pss_one (ps_ret pe_bl))
          pss_nil)
        (pss_cons (ps_expr (pe_bm PySem.F.plainAttrs_list PySem.F.slot_list_append PySem.F.type_list_append mt_append (pv 7) (pa_cons pe_int pa_nil)))
        (pss_one (ps_if (pt_cmpR (op_neD hr.units) (pe_df T.opened (ok_opened T) (hr.mono (by decide)) (pa_cons (pv 3) (pa_cons (pv 5) pa_nil))) (pe_slice sl_list (pv 7) po_none (po_some (pe_un un_neg pe_int))) (nomark _))
          (pss_one (ps_ret pe_bl))
          pss_nil))))))
      (pss_cons (ps_for PassesOwn.never rfl (pi_range1 (by rfl) T.m_range (pa_cons pe_int pa_nil)) (pg_name (i := 8) sc_law.nd rfl (.inl rfl))
        (pss_cons (ps_set (i := 7) sc_law.nd rfl (.inl rfl) (pe_df T.rings (ok_rings T) (hr.mono (by decide)) (pa_cons (pv 3) pa_nil)))
        (pss_cons (ps_if (PW.pt (pw_or (pt_not (pt_val (pe_callB call_isi (by rfl) T.m_isinstance (by decide +kernel) (pa_cons (pv 7) (pa_cons (pe_bltn (v := .ty "list") (by rfl) T.m_list (by decide +kernel) rfl) pa_nil))))) (pw_or (pt_cmpR (op_neD hr.units) (pv 7) (pv 4) (nomark _)) (pw_or1 (pt_cmpR (op_neD hr.units) (pv 3) (pv 2) (nomark _))))))
          (pss_one (ps_ret pe_bl))
          pss_nil)
        (pss_cons (ps_for PassesOwn.never rfl (pi_list (pv 7)) (pg_name (i := 6) sc_law.nd rfl (.inl rfl))
          (pss_one (ps_expr (pe_bm PySem.F.plainAttrs_list PySem.F.slot_list_append PySem.F.type_list_append mt_append (pv 6) (pa_cons pe_int pa_nil)))))
        (pss_one (ps_expr (pe_bm PySem.F.plainAttrs_list PySem.F.slot_list_append PySem.F.type_list_append mt_append (pv 7) (pa_cons (pe_lst pa_nil) pa_nil))))))))
      (pss_cons (ps_expr (pe_bm0 PySem.F.plainAttrs_list PySem.F.slot_list_reverse PySem.F.type_list_reverse mt_reverse (pv 3)))
      (pss_one (ps_if (PW.pt (pw_or (pt_cmpR (op_neD hr.units) (pe_df T.rings (ok_rings T) (hr.mono (by decide)) (pa_cons (pv 3) pa_nil)) (pe_df T.rings (ok_rings T) (hr.mono (by decide)) (pa_cons (pe_callTy call_list_of (by rfl) T.m_list (by decide +kernel) (pa_cons (pv 3) pa_nil)) pa_nil)) (nomark _)) (pw_or1 (pt_cmpR (op_neD hr.units) (pe_df T.opened (ok_opened T) (hr.mono (by decide)) (pa_cons (pv 3) (pa_cons pe_int pa_nil))) (pe_df T.law_ring (ok_law_ring T) (hr.mono (by decide)) (pa_cons (pv 3) (pa_cons pe_int pa_nil))) (nomark _)))))
        (pss_one (ps_ret pe_bl))
        pss_nil)))))))))
    (pss_one (ps_ret (pe_and (pe_cmpR (op_eqD hr.units) (pe_df T.opened (ok_opened T) (hr.mono (by decide)) (pa_cons (pe_lst (pa_cons pe_int (pa_cons pe_int (pa_cons pe_int pa_nil)))) (pa_cons pe_int pa_nil))) (pe_lst (pa_cons pe_int (pa_cons pe_int (pa_cons pe_int pa_nil)))) (nomark _)) (pe_one (pe_cmpR (op_eqD hr.units) (pe_df T.rings (ok_rings T) (hr.mono (by decide)) (pa_cons (pe_lst (pa_cons pe_int (pa_cons pe_int (pa_cons pe_int pa_nil)))) pa_nil)) (pe_lst (pa_cons (pe_lst (pa_cons pe_int (pa_cons pe_int pa_nil))) (pa_cons (pe_lst (pa_cons pe_int pa_nil)) pa_nil))) (nomark _)))))))), ?_⟩
    -- script[:63]
    refine ⟨_, rfl, 63, rfl, a, _, rfl, hS, fun sc nsc => ?_⟩
    rw [show (63 : Int) = ((63 : Nat) : Int) from rfl, cut_to, List.take_of_length_le (by rw [List.length_map]; omega)]
    have esc : (upd H sc (.lst (cs.map V.int))) sc = some (.lst (cs.map V.int)) := upd_same
    -- for by in range(..)
    refine ⟨_, rfl, sc, _, rfl, .inl (.of esc), _, _, rfl, _, rfl, sc, _, rfl, .inl (.of esc), _, 4, rfl, rfl, ⟨by decide, by decide⟩, 1, _, rfl, rfl, ?_⟩
    obtain ⟨m, em, hm1, hm2⟩ : ∃ m : Nat, (if (((cs.map V.int).length : Nat) : Int) > 1 then (((cs.map V.int).length : Nat) : Int) else 1) = (m : Int) ∧ 1 ≤ m ∧ m ≤ 63 := by
      rw [List.length_map]
      by_cases h1 : ((cs.length : Nat) : Int) > 1
      · rw [if_pos h1]; exact ⟨cs.length, rfl, by omega, hlen⟩
      · rw [if_neg h1]; exact ⟨1, rfl, by omega, by omega⟩
    obtain ⟨d, ed, hd1, hd2⟩ : ∃ d : Nat, 1 + (((cs.map V.int).length : Nat) : Int) / 4 = (d : Int) ∧ 1 ≤ d ∧ d ≤ 63 := by
      rw [List.length_map]
      exact ⟨1 + cs.length / 4, by push_cast; rfl, by omega, by omega⟩
    refine ⟨0, m, d, _, (by rw [← em, ← ed]), rgC_pos hm1 (by omega) hd1 (by omega), ?_⟩
    refine for_rangeC (lo := 0) (c := (d : Int)) (n := (m - 1) / d + 1) (fun i σ H3 => ∃ v1 v2 v3 v4 v5 v6 v7 v8, σ = [some (.ref sc), v1, v2, v3, v4, v5, v6, v7, v8] ∧ H3 sc = some (.lst (cs.map V.int))) ⟨_, _, _, _, _, _, _, _, rfl, esc⟩ (fun i σ H3 hi hP => ?_) (fun σ H3 hP => ?_)
    · obtain ⟨v1, v2, v3, v4, v5, v6, v7, v8, rfl, esc3⟩ := hP
      -- boxes, handed, due
      refine ⟨_, rfl, _, rfl, sc, cs, (i * d : Nat), 40, ?_, .of esc3, hC, by decide, by decide, fun H4 pb ns s34 npb epb g hn1 hn2 => ?_⟩
      · rw [Int.zero_add]; push_cast; rfl
      have esc4 := s34 _ _ esc3
      refine ⟨_, rfl, pb, _, rfl, .inl (.of epb), fun ph nph => ⟨Nat.zero_le _, fun pd npd => ⟨_, _, rfl, ?_⟩⟩⟩
      have s45 := same_upd (o := .lst (iv ns)) nph
      have esc5 := s45 _ _ esc4
      have hscph : sc ≠ ph := ne_of_none esc4 nph
      have epb5 := s45 _ _ epb
      have eph5 : (upd H4 ph (.lst (iv ns))) ph = some (.lst (iv ns)) := upd_same
      generalize upd H4 ph (.lst (iv ns)) = H5 at *
      have s56 := same_upd (o := .lst []) npd
      have hr40 : ∀ h, h < ns.length → ringOf ns h ≠ [] := fun h hh e => by
        have := ringOf_pos g hh
        rw [e] at this
        simp at this
      -- the rings that are due
      refine ⟨_, rfl, pb, _, rfl, .inl (.of (s56 _ _ epb5)), _, rfl, by rw [iv_len]; omega, by rw [iv_len]; omega, ?_⟩
      rw [iv_len, Int.toNat_natCast]
      refine for_range (lo := 0) (n := ns.length) (fun j σ H6 => ∃ ps w1 w5 w6 w7 w8, σ = [some (.ref sc), w1, some (.ref pb), some (.ref ph), some (.ref pd), w5, w6, w7, w8] ∧ Same H5 H6 ∧ H6 pd = some (.lst (ps.map V.ref)) ∧ Rows H5 H6 ps (ringsTo ns j) ∧ pd ∉ ps) ⟨[], _, _, _, _, _, rfl, s56, upd_same, Rows.nil, by simp⟩ (fun j σ H6 hj hP => ?_) (fun σ H6 hP => ?_)
      · obtain ⟨ps, w1, w5, w6, w7, w8, rfl, sm, epd, R, hpd⟩ := hP
        refine ⟨_, rfl, _, rfl, pb, ns, j, by rw [Int.zero_add]; rfl, .of (sm _ _ epb5), g, hj, by omega, fun H7 pr s67 npr epr => ?_⟩
        have hsq : SqL K H7 pr (((ringOf ns j).map fun (n : Nat) => (n : Int)).map V.int) := by rw [← iv_eq]; exact .of epr
        refine ⟨_, rfl, pr, _, rfl, hsq, by rw [List.length_map]; exact ringOf_pos g hj, fun mi hmi hle => ⟨_, rfl, rfl, _, rfl, ?_⟩⟩
        have hmin : mi = (j : Int) ↔ isMin ns j = true := by
          rw [isMin_iff]
          constructor
          · intro e x hx
            have := hle (x : Int) (List.mem_map.mpr ⟨x, hx, rfl⟩)
            omega
          · intro h
            obtain ⟨x, hx, rfl⟩ := List.mem_map.mp hmi
            have h1 := h x hx
            have h2 := hle (j : Int) (List.mem_map.mpr ⟨j, ringOf_mem g hj, rfl⟩)
            omega
        have npp : pr ∉ ps := fun hp => by
          obtain ⟨r, _, e⟩ := R.at hp
          rw [npr] at e
          cases e
        have npd2 : pd ≠ pr := ne_of_none epd npr
        refine ite2 (fun e => ?_) (fun e => ?_)
        · have e1 : isMin ns j = true := hmin.mp (by
            have := of_decide_eq_true e
            injection this with this
            omega)
          have epd7 := s67 _ _ epd
          refine ⟨_, rfl, .inl ⟨rfl, _, .of epd7⟩, _, rfl, pd, _, _, rfl, rfl, epd7, ?_, ?_⟩
          · rw [List.length_map, R.len]
            have := ringsTo_len ns j
            exact szl (by omega)
          · refine ⟨ps ++ [pr], _, _, _, _, _, rfl, same_mut (sm.trans s67) npd, ?_, ?_, ?_⟩
            · rw [upd_same, List.map_append]; rfl
            · rw [ringsTo_succ, if_pos e1]
              exact ((R.same s67).snoc epr (sm.free npr) npp).upd (by
                intro h
                rcases List.mem_append.mp h with y | y
                · exact hpd y
                · simp at y; exact npd2 y)
            · intro h
              rcases List.mem_append.mp h with y | y
              · exact hpd y
              · simp at y; exact npd2 y
        · have e1 : ¬ isMin ns j = true := fun z => e (decide_eq_true (by rw [hmin.mpr z, Int.zero_add]))
          refine ⟨ps, _, _, _, _, _, rfl, sm.trans s67, s67 _ _ epd, ?_, hpd⟩
          rw [ringsTo_succ, if_neg e1]
          exact R.same s67
      · obtain ⟨ps, w1, w5, w6, w7, w8, rfl, sm, epd, R, hpd⟩ := hP
        have Sd : Sees K H6 pd (ringsOf ns) := R.sees epd
        have epb6 := sm _ _ epb5
        have eph6 := sm _ _ eph5
        have esc6 := sm _ _ esc5
        clear sm R hpd epd s56 npd s45 s34 nph npb
        -- the hands
        refine ⟨_, rfl, pb, _, rfl, .inl (.of epb6), _, rfl, pb, _, rfl, .inl (.of epb6), _, 7, rfl, rfl, ⟨by decide, by decide⟩, 1, _, rfl, rfl, ?_⟩
        obtain ⟨d2, ed2, hd21, hd22⟩ : ∃ d : Nat, 1 + (((iv ns).length : Nat) : Int) / 7 = (d : Int) ∧ 1 ≤ d ∧ d ≤ 63 := by
          rw [iv_len]
          exact ⟨1 + ns.length / 7, by push_cast; rfl, by omega, by omega⟩
        refine ⟨0, ns.length, d2, _, (by rw [← ed2, iv_len]), rgC_pos hn1 (by omega) hd21 (by omega), ?_⟩
        refine for_rangeC (lo := 0) (c := (d2 : Int)) (n := (ns.length - 1) / d2 + 1) (fun j σ H7 => ∃ w1 w5 w6 w7 w8, σ = [some (.ref sc), w1, some (.ref pb), some (.ref ph), some (.ref pd), w5, w6, w7, w8] ∧ Same H6 H7) ⟨_, _, _, _, _, rfl, .refl _⟩ (fun j σ H7 hj hP => ?_) (fun σ H7 hP => ?_)
        · obtain ⟨w1, w5, w6, w7, w8, rfl, sm⟩ := hP
          have hjl : j * d2 < ns.length := by
            have h1 := Nat.div_mul_le_self (ns.length - 1) d2
            have h2 : j * d2 ≤ (ns.length - 1) / d2 * d2 := Nat.mul_le_mul_right _ (by omega)
            omega
          have ej : (0 : Int) + ((j : Nat) : Int) * (d2 : Int) = ((j * d2 : Nat) : Int) := by push_cast; omega
          rw [ej]
          refine ⟨_, rfl, _, rfl, ph, ns, j * d2, rfl, .of (sm _ _ eph6), g, hjl, hn2, fun H8 pf s78 npf epf => ?_⟩
          refine ⟨_, rfl, _, _, _, .type "list", true, rfl, .ty "list", .base (.lst epf), kit_ty (by decide +kernel), true, rfl, iteF ?_⟩
          refine ⟨_, rfl, _, rfl, _, rfl, pb, ns, j * d2, rfl, .of (s78 _ _ (sm _ _ epb6)), g, hjl, by omega, fun H9 pg s89 npg epg => ?_⟩
          refine ne_iv (.of (s89 _ _ epf)) (.of epg) ⟨_, rfl, iteNS rfl ?_⟩
          refine ⟨_, rfl, _, rfl, ?_⟩
          refine ne_iv (.of (s89 _ _ (s78 _ _ (sm _ _ eph6)))) (.of (s89 _ _ (s78 _ _ (sm _ _ epb6)))) ⟨_, rfl, iteNS rfl ?_⟩
          -- found.append(0)
          have epf9 := s89 _ _ epf
          refine ⟨_, rfl, .inl ⟨rfl, _, .of epf9⟩, pf, _, _, rfl, rfl, epf9, ?_, ?_⟩
          · rw [iv_len]
            have := ringOf_len g hjl
            exact szl (by omega)
          have s9a : Same H7 (upd H9 pf (.lst (iv (ringOf ns (j * d2)) ++ [.int 0]))) := same_mut (s78.trans s89) npf
          have efa : (upd H9 pf (.lst (iv (ringOf ns (j * d2)) ++ [.int 0]))) pf = some (.lst (iv (ringOf ns (j * d2)) ++ [.int 0])) := upd_same
          generalize upd H9 pf (.lst (iv (ringOf ns (j * d2)) ++ [.int 0])) = Ha at *
          refine ⟨_, rfl, _, rfl, ph, ns, j * d2, rfl, .of (s9a _ _ (sm _ _ eph6)), g, hjl, hn2, fun Hb pk sab npk epk => ?_⟩
          refine ⟨_, rfl, 1, rfl, -1, rfl, pf, _, rfl, .of (sab _ _ efa), fun pl npl => ?_⟩
          rw [cut_m1]
          have sbl := same_upd (o := .lst (iv (ringOf ns (j * d2)))) npl
          refine ne_iv (.of (sbl _ _ epk)) (.of upd_same) ⟨_, rfl, iteNS rfl ?_⟩
          exact ⟨_, _, _, _, _, rfl, ((sm.trans s9a).trans sab).trans sbl⟩
        · obtain ⟨w1, w5, w6, w7, w8, rfl, sm⟩ := hP
          -- the rings, twice
          refine ⟨2, rfl, by decide, by decide, ?_⟩
          refine for_range (lo := 0) (n := 2) (fun j σ H8 => ∃ w1 w5 w6 w7 w8, σ = [some (.ref sc), w1, some (.ref pb), some (.ref ph), some (.ref pd), w5, w6, w7, w8] ∧ Same H6 H8) ⟨_, _, _, _, _, rfl, sm⟩ (fun j σ H8 hj hP => ?_) (fun σ H8 hP => ?_)
          · obtain ⟨w1, w5, w6, w7, w8, rfl, sm⟩ := hP
            refine ⟨_, rfl, ph, ns, rfl, .of (sm _ _ eph6), g, hn1, hn2, fun H9 pf qs s89 npf epf R9 hpf => ?_⟩
            refine ⟨_, rfl, _, _, _, .type "list", true, rfl, .ty "list", .base (.lst epf), kit_ty (by decide +kernel), true, rfl, iteF ?_⟩
            refine ⟨_, rfl, _, rfl, ?_⟩
            refine ne_rows (R9.sees epf) ((Sd.same sm).same s89) ⟨_, rfl, iteNS rfl ?_⟩
            refine ⟨_, rfl, _, rfl, ?_⟩
            refine ne_iv (.of (s89 _ _ (sm _ _ eph6))) (.of (s89 _ _ (sm _ _ epb6))) ⟨_, rfl, iteNS rfl ?_⟩
            -- for ring in found: ring.append(0)
            refine ⟨_, rfl, pf, rfl, ⟨_, .of epf⟩, ?_⟩
            have sm9 := sm.trans s89
            refine for_list (K := K) (a := pf) (xs := qs.map V.ref) (fun k σ Ha => ∃ w1 w5 w6 w8, σ = [some (.ref sc), w1, some (.ref pb), some (.ref ph), some (.ref pd), w5, w6, some (.ref pf), w8] ∧ Same H6 Ha ∧ Ha pf = some (.lst (qs.map V.ref)) ∧ ∀ i q r, k ≤ i → qs[i]? = some q → (ringsOf ns)[i]? = some r → Ha q = some (.lst (iv r))) ⟨_, _, _, _, rfl, sm9, epf, fun i q r _ h1 h2 => R9.row i q r h1 h2⟩ (fun k σ Ha _ h => ?_) (fun k x σ Ha hx hP => ?_) (fun σ Ha hP => ?_)
            · obtain ⟨_, _, _, _, _, _, e, _⟩ := h
              exact .of e
            · obtain ⟨w1, w5, w6, w8, rfl, sma, epa, rows⟩ := hP
              rw [List.getElem?_map] at hx
              obtain ⟨q1, hq1, rfl⟩ := Option.map_eq_some_iff.mp hx
              have hk : k < qs.length := (List.getElem?_eq_some_iff.mp hq1).1
              have hk2 : k < (ringsOf ns).length := by rw [← R9.len]; exact hk
              have er := rows k q1 _ (Nat.le_refl _) hq1 (List.getElem?_eq_getElem hk2)
              obtain ⟨h0, hh0, _, e0⟩ := ringsOf_mem (List.getElem_mem hk2)
              refine ⟨_, rfl, .inl ⟨rfl, _, .of er⟩, q1, _, _, rfl, rfl, er, ?_, ?_⟩
              · rw [iv_len, e0]
                have := ringOf_len g hh0
                exact szl (by omega)
              · have nq1 : H6 q1 = none := sm.free (R9.new q1 (List.mem_of_getElem? hq1))
                refine ⟨_, _, _, _, rfl, same_mut sma nq1, ?_, fun i q r hi h1 h2 => ?_⟩
                · rw [upd_ne (fun e => hpf (by rw [e]; exact List.mem_of_getElem? hq1))]; exact epa
                · rw [upd_ne]
                  · exact rows i q r (by omega) h1 h2
                  · intro e
                    subst e
                    have := nd_ix R9.nd h1 hq1
                    omega
            · obtain ⟨w1, w5, w6, w8, rfl, sma, epa, _⟩ := hP
              refine ⟨_, rfl, .inl ⟨rfl, _, .of epa⟩, Nat.zero_le _, fun pn npn => ?_⟩
              have sn := same_upd (o := .lst []) npn
              refine ⟨pf, _, _, rfl, rfl, sn _ _ epa, ?_, ?_⟩
              · rw [List.length_map, R9.len]
                have := ringsTo_len ns ns.length
                exact szl (Nat.lt_of_le_of_lt this (by omega))
              · exact ⟨_, _, _, _, _, rfl, same_mut (sma.trans sn) (sm.free npf)⟩
          · obtain ⟨w1, w5, w6, w7, w8, rfl, sm⟩ := hP
            -- handed.reverse()
            have eph8 := sm _ _ eph6
            refine ⟨_, rfl, .inl ⟨rfl, _, .of eph8⟩, ph, _, rfl, rfl, eph8, ?_⟩
            rw [rev_iv]
            have gr := g.rev
            have hl1 : 1 ≤ ns.reverse.length := by rw [List.length_reverse]; exact hn1
            have hl2 : ns.reverse.length ≤ 40 := by rw [List.length_reverse]; exact hn2
            have esc9 : (upd H8 ph (.lst (iv ns.reverse))) sc = some (.lst (cs.map V.int)) := by
              rw [upd_ne hscph]; exact sm _ _ esc6
            have eph9 : (upd H8 ph (.lst (iv ns.reverse))) ph = some (.lst (iv ns.reverse)) := upd_same
            generalize upd H8 ph (.lst (iv ns.reverse)) = H9 at *
            generalize ns.reverse = nr at *
            refine ⟨_, rfl, ph, nr, rfl, .of eph9, gr, hl1, hl2, fun Ha pf qs s9a npf epf Ra hpf => ?_⟩
            refine ⟨_, rfl, ph, _, rfl, .inl (.of (s9a _ _ eph9)), fun pl npl => ?_⟩
            have sab := same_upd (o := .lst (iv nr)) npl
            refine ⟨pl, nr, rfl, .of upd_same, gr, hl1, hl2, fun Hc pg ts sbc npg epg Rc hpg => ?_⟩
            refine ne_rows ((Ra.sees epf).same (sab.trans sbc)) (Rc.sees epg) ⟨_, rfl, iteNS rfl ?_⟩
            have sac := (s9a.trans sab).trans sbc
            refine ⟨_, rfl, ph, nr, 0, rfl, .of (sac _ _ eph9), gr, hl1, hl2, fun Hd pk scd npk epk => ?_⟩
            refine ⟨_, rfl, ph, nr, 0, rfl, .of (scd _ _ (sac _ _ eph9)), gr, hl1, by omega, fun He pm sde npm epm => ?_⟩
            refine ne_iv (.of (sde _ _ epk)) (.of epm) ⟨_, rfl, iteNS rfl ?_⟩
            exact ⟨_, _, _, _, _, _, _, _, rfl, sde _ _ (scd _ _ (sac _ _ esc9))⟩
    · obtain ⟨v1, v2, v3, v4, v5, v6, v7, v8, rfl, esc3⟩ := hP
      refine ⟨sz (by decide), fun pa na => ⟨pa, [1, 2, 0], 2, rfl, .of upd_same, ⟨by decide⟩, by decide, by decide, fun H4 pb s4 nb eb => ?_⟩⟩
      refine ⟨sz (by decide), fun pc nc => ?_⟩
      have s5 := same_upd (o := .lst [.int 2, .int 0, .int 1]) nc
      refine eq_iv (x := ringOf [1, 2, 0] 2) (y := [2, 0, 1]) (.of (s5 _ _ eb)) (.of upd_same) ⟨_, rfl, ?_⟩
      rw [show decide (ringOf [1, 2, 0] 2 = [2, 0, 1]) = true by decide]
      refine iteT ?_
      refine ⟨sz (by decide), fun pd nd => ⟨pd, [1, 0, 2], rfl, .of upd_same, ⟨by decide⟩, by decide, by decide, fun H6 pe ps s6 ne ee R hp => ?_⟩⟩
      refine ⟨sz (by decide), fun pf nf => ⟨sz (by decide), fun pg ng => ⟨sz (by simp), fun ph nh => ?_⟩⟩⟩
      have s7 := same_upd (o := .lst [.int 0, .int 1]) nf
      have s8 := same_upd (o := .lst [.int 2]) ng
      have s9 := same_upd (o := .lst [.ref pf, .ref pg]) nh
      refine eq_rows (x := ringsOf [1, 0, 2]) (y := [[0, 1], [2]]) ((R.sees ee).same ((s7.trans s8).trans s9)) ⟨[pf, pg], .of upd_same, rfl, fun i q r h1 h2 => ?_⟩ ?_
      · match i, h1, h2 with
        | 0, h1, h2 =>
          cases h1
          cases h2
          exact .of (s9 _ _ (s8 _ _ upd_same))
        | 1, h1, h2 =>
          cases h1
          cases h2
          exact .of (s9 _ _ upd_same)
        | i + 2, h1, h2 => simp at h1
      · rw [show decide (ringsOf [1, 0, 2] = [[0, 1], [2]]) = true by decide]
        exact q _
end
end Sb
/-! ### what the top has written; the law's own head -/
namespace Sb
open PySem PySem.Spec PyProof.Rows L2
theorem all_mk {l : PySem.W.OpenLaw} {w : World} {K : PySem.W.Frag} {h : Heap} {mg : Str → Option Value} {fa : Addr} (X : K.In h) (G : h.Ns mainGlobals mg) (hfa : mg "law" = some (.ref fa))
    {f0 : Addr} {od0 an0 : Option Addr} {sl0 : Array (Option Value)} {oc0 kV0 dc0 pm0 cd0 ct0 : Value}
    (a0 : PySem.W.nsIn K mainGlobals "is_whole" = some (some (.ref f0))) (l0 : K.lookup f0 = some ⟨oc0, od0, .func (PySem.W.fnOf "is_whole" "is_whole" (defArgs s_is_whole) (defBody s_is_whole) (defScope s_is_whole) .none kV0 dc0 pm0 an0 cd0 ct0), sl0⟩) (e0 : PySem.W.codeIn K cd0 "is_whole" = true) (k0 : PySem.W.keepIn K (.ref f0) = true)
    {f1 : Addr} {od1 an1 : Option Addr} {sl1 : Array (Option Value)} {oc1 kV1 dc1 pm1 cd1 ct1 : Value}
    (a1 : PySem.W.nsIn K mainGlobals "check_boxes" = some (some (.ref f1))) (l1 : K.lookup f1 = some ⟨oc1, od1, .func (PySem.W.fnOf "check_boxes" "check_boxes" (defArgs s_check_boxes) (defBody s_check_boxes) (defScope s_check_boxes) .none kV1 dc1 pm1 an1 cd1 ct1), sl1⟩) (e1 : PySem.W.codeIn K cd1 "check_boxes" = true) (k1 : PySem.W.keepIn K (.ref f1) = true)
    {f2 : Addr} {od2 an2 : Option Addr} {sl2 : Array (Option Value)} {oc2 kV2 dc2 pm2 cd2 ct2 : Value}
    (a2 : PySem.W.nsIn K mainGlobals "ring_from" = some (some (.ref f2))) (l2 : K.lookup f2 = some ⟨oc2, od2, .func (PySem.W.fnOf "ring_from" "ring_from" (defArgs s_ring_from) (defBody s_ring_from) (defScope s_ring_from) .none kV2 dc2 pm2 an2 cd2 ct2), sl2⟩) (e2 : PySem.W.codeIn K cd2 "ring_from" = true) (k2 : PySem.W.keepIn K (.ref f2) = true)
    {f3 : Addr} {od3 an3 : Option Addr} {sl3 : Array (Option Value)} {oc3 kV3 dc3 pm3 cd3 ct3 : Value}
    (a3 : PySem.W.nsIn K mainGlobals "opened" = some (some (.ref f3))) (l3 : K.lookup f3 = some ⟨oc3, od3, .func (PySem.W.fnOf "opened" "opened" (defArgs s_opened) (defBody s_opened) (defScope s_opened) .none kV3 dc3 pm3 an3 cd3 ct3), sl3⟩) (e3 : PySem.W.codeIn K cd3 "opened" = true) (k3 : PySem.W.keepIn K (.ref f3) = true)
    {f4 : Addr} {od4 an4 : Option Addr} {sl4 : Array (Option Value)} {oc4 kV4 dc4 pm4 cd4 ct4 : Value}
    (a4 : PySem.W.nsIn K mainGlobals "rings_of" = some (some (.ref f4))) (l4 : K.lookup f4 = some ⟨oc4, od4, .func (PySem.W.fnOf "rings_of" "rings_of" (defArgs s_rings_of) (defBody s_rings_of) (defScope s_rings_of) .none kV4 dc4 pm4 an4 cd4 ct4), sl4⟩) (e4 : PySem.W.codeIn K cd4 "rings_of" = true) (k4 : PySem.W.keepIn K (.ref f4) = true)
    {f5 : Addr} {od5 an5 : Option Addr} {sl5 : Array (Option Value)} {oc5 kV5 dc5 pm5 cd5 ct5 : Value}
    (a5 : PySem.W.nsIn K mainGlobals "rings" = some (some (.ref f5))) (l5 : K.lookup f5 = some ⟨oc5, od5, .func (PySem.W.fnOf "rings" "rings" (defArgs s_rings) (defBody s_rings) (defScope s_rings) .none kV5 dc5 pm5 an5 cd5 ct5), sl5⟩) (e5 : PySem.W.codeIn K cd5 "rings" = true) (k5 : PySem.W.keepIn K (.ref f5) = true)
    {f6 : Addr} {od6 an6 : Option Addr} {sl6 : Array (Option Value)} {oc6 kV6 dc6 pm6 cd6 ct6 : Value}
    (a6 : PySem.W.nsIn K mainGlobals "_law_cell_at" = some (some (.ref f6))) (l6 : K.lookup f6 = some ⟨oc6, od6, .func (PySem.W.fnOf "_law_cell_at" "_law_cell_at" (defArgs s_law_cell_at) (defBody s_law_cell_at) (defScope s_law_cell_at) .none kV6 dc6 pm6 an6 cd6 ct6), sl6⟩) (e6 : PySem.W.codeIn K cd6 "_law_cell_at" = true) (k6 : PySem.W.keepIn K (.ref f6) = true)
    {f7 : Addr} {od7 an7 : Option Addr} {sl7 : Array (Option Value)} {oc7 kV7 dc7 pm7 cd7 ct7 : Value}
    (a7 : PySem.W.nsIn K mainGlobals "_law_draw" = some (some (.ref f7))) (l7 : K.lookup f7 = some ⟨oc7, od7, .func (PySem.W.fnOf "_law_draw" "_law_draw" (defArgs s_law_draw) (defBody s_law_draw) (defScope s_law_draw) .none kV7 dc7 pm7 an7 cd7 ct7), sl7⟩) (e7 : PySem.W.codeIn K cd7 "_law_draw" = true) (k7 : PySem.W.keepIn K (.ref f7) = true)
    {f8 : Addr} {od8 an8 : Option Addr} {sl8 : Array (Option Value)} {oc8 kV8 dc8 pm8 cd8 ct8 : Value}
    (a8 : PySem.W.nsIn K mainGlobals "_law_value" = some (some (.ref f8))) (l8 : K.lookup f8 = some ⟨oc8, od8, .func (PySem.W.fnOf "_law_value" "_law_value" (defArgs s_law_value) (defBody s_law_value) (defScope s_law_value) .none kV8 dc8 pm8 an8 cd8 ct8), sl8⟩) (e8 : PySem.W.codeIn K cd8 "_law_value" = true) (k8 : PySem.W.keepIn K (.ref f8) = true)
    {f9 : Addr} {od9 an9 : Option Addr} {sl9 : Array (Option Value)} {oc9 kV9 dc9 pm9 cd9 ct9 : Value}
    (a9 : PySem.W.nsIn K mainGlobals "_law_boxes" = some (some (.ref f9))) (l9 : K.lookup f9 = some ⟨oc9, od9, .func (PySem.W.fnOf "_law_boxes" "_law_boxes" (defArgs s_law_boxes) (defBody s_law_boxes) (defScope s_law_boxes) .none kV9 dc9 pm9 an9 cd9 ct9), sl9⟩) (e9 : PySem.W.codeIn K cd9 "_law_boxes" = true) (k9 : PySem.W.keepIn K (.ref f9) = true)
    {f10 : Addr} {od10 an10 : Option Addr} {sl10 : Array (Option Value)} {oc10 kV10 dc10 pm10 cd10 ct10 : Value}
    (a10 : PySem.W.nsIn K mainGlobals "_law_ring" = some (some (.ref f10))) (l10 : K.lookup f10 = some ⟨oc10, od10, .func (PySem.W.fnOf "_law_ring" "_law_ring" (defArgs s_law_ring) (defBody s_law_ring) (defScope s_law_ring) .none kV10 dc10 pm10 an10 cd10 ct10), sl10⟩) (e10 : PySem.W.codeIn K cd10 "_law_ring" = true) (k10 : PySem.W.keepIn K (.ref f10) = true)
    {f11 : Addr} {od11 an11 : Option Addr} {sl11 : Array (Option Value)} {oc11 kV11 dc11 pm11 cd11 ct11 : Value}
    (a11 : PySem.W.nsIn K mainGlobals "law" = some (some (.ref f11))) (l11 : K.lookup f11 = some ⟨oc11, od11, .func (PySem.W.fnOf "law" "law" (defArgs s_law) (defBody s_law) (defScope s_law) .none kV11 dc11 pm11 an11 cd11 ct11), sl11⟩) (e11 : PySem.W.codeIn K cd11 "law" = true) (k11 : PySem.W.keepIn K (.ref f11) = true)
    {tc0 : Tok} (x0 : PySem.W.nsIn K mainGlobals "MOST" = some (some (.int 40 tc0)))
    (z0 : PySem.W.nsIn K mainGlobals "len" = some none)
    (z1 : PySem.W.nsIn K mainGlobals "range" = some none)
    (z2 : PySem.W.nsIn K mainGlobals "list" = some none)
    (z3 : PySem.W.nsIn K mainGlobals "isinstance" = some none)
    (z4 : PySem.W.nsIn K mainGlobals "all" = some none)
    (z5 : PySem.W.nsIn K mainGlobals "sorted" = some none)
    (z6 : PySem.W.nsIn K mainGlobals "int" = some none)
    (z7 : PySem.W.nsIn K mainGlobals "bool" = some none)
    (z8 : PySem.W.nsIn K mainGlobals "max" = some none)
    (z9 : PySem.W.nsIn K mainGlobals "min" = some none)
    (z10 : PySem.W.nsIn K mainGlobals "zip" = some none)
    : ∃ fd : FuncData, (∀ (s : Shared) (v : Value), BindsTo s fd ⟨[v], []⟩ [("_law_script", v)]) ∧ ∀ base : Heap, K.In base → base.Ns mainGlobals mg → FnOk l.prog w K mg base CX0 8 fa fd ["_law_script"] (spLaw K) := by
  have e := hfa.symm.trans (PySem.W.mg_of X G a11)
  cases e
  have F0 := fun_mk (st := s_is_whole) l0 e0 k0
  have F1 := fun_mk (st := s_check_boxes) l1 e1 k1
  have F2 := fun_mk (st := s_ring_from) l2 e2 k2
  have F3 := fun_mk (st := s_opened) l3 e3 k3
  have F4 := fun_mk (st := s_rings_of) l4 e4 k4
  have F5 := fun_mk (st := s_rings) l5 e5 k5
  have F6 := fun_mk (st := s_law_cell_at) l6 e6 k6
  have F7 := fun_mk (st := s_law_draw) l7 e7 k7
  have F8 := fun_mk (st := s_law_value) l8 e8 k8
  have F9 := fun_mk (st := s_law_boxes) l9 e9 k9
  have F10 := fun_mk (st := s_law_ring) l10 e10 k10
  have F11 := fun_mk (st := s_law) l11 e11 k11
  refine ⟨_, fun s v => ?b, fun base _ _ => ok_law ⟨⟨_, _, F0, PySem.W.mg_of X G a0, F0.binds (ps := ["thing"]) fun _ _ _ _ _ _ us hl => match us, hl with | [_], _ => rfl⟩, ⟨_, _, F1, PySem.W.mg_of X G a1, F1.binds (ps := ["boxes", "most"]) fun _ _ _ _ _ _ us hl => match us, hl with | [_, _], _ => rfl⟩, ⟨_, _, F2, PySem.W.mg_of X G a2, F2.binds (ps := ["boxes", "hand"]) fun _ _ _ _ _ _ us hl => match us, hl with | [_, _], _ => rfl⟩, ⟨_, _, F3, PySem.W.mg_of X G a3, F3.binds (ps := ["boxes", "hand"]) fun _ _ _ _ _ _ us hl => match us, hl with | [_, _], _ => rfl⟩, ⟨_, _, F4, PySem.W.mg_of X G a4, F4.binds (ps := ["boxes"]) fun _ _ _ _ _ _ us hl => match us, hl with | [_], _ => rfl⟩, ⟨_, _, F5, PySem.W.mg_of X G a5, F5.binds (ps := ["boxes"]) fun _ _ _ _ _ _ us hl => match us, hl with | [_], _ => rfl⟩, ⟨_, _, F6, PySem.W.mg_of X G a6, F6.binds (ps := ["_law_script", "_law_k"]) fun _ _ _ _ _ _ us hl => match us, hl with | [_, _], _ => rfl⟩, ⟨_, _, F7, PySem.W.mg_of X G a7, F7.binds (ps := ["_law_cell", "_law_k", "_law_many"]) fun _ _ _ _ _ _ us hl => match us, hl with | [_, _, _], _ => rfl⟩, ⟨_, _, F8, PySem.W.mg_of X G a8, F8.binds (ps := ["_law_cell", "_law_turn"]) fun _ _ _ _ _ _ us hl => match us, hl with | [_, _], _ => rfl⟩, ⟨_, _, F9, PySem.W.mg_of X G a9, F9.binds (ps := ["_law_script", "_law_by", "_law_most"]) fun _ _ _ _ _ _ us hl => match us, hl with | [_, _, _], _ => rfl⟩, ⟨_, _, F10, PySem.W.mg_of X G a10, F10.binds (ps := ["_law_boxes_here", "_law_hand"]) fun _ _ _ _ _ _ us hl => match us, hl with | [_, _], _ => rfl⟩, _, PySem.W.mg_of X G x0, PySem.W.mg_none_of X G z0, PySem.W.mg_none_of X G z1, PySem.W.mg_none_of X G z2, PySem.W.mg_none_of X G z3, PySem.W.mg_none_of X G z4, PySem.W.mg_none_of X G z5, PySem.W.mg_none_of X G z6, PySem.W.mg_none_of X G z7, PySem.W.mg_none_of X G z8, PySem.W.mg_none_of X G z9, PySem.W.mg_none_of X G z10⟩ F11⟩
  exact .of_eq rfl
end Sb
open PySem PySem.W PyProof.Rows
set_option maxHeartbeats 0 in
theorem PySem.Challenge.cw_slipboxes_k01_opened_holds : PySem.Challenge.rw_slipboxes_k01_opened.Holds := by
  w_on; o_law; k_head; (case hw => w_witness2)
  k_fill
  refine L2.walk_ofB (l := PySem.Challenge.rw_slipboxes_k01_opened) (n := 63) (k := 8) (x := "_law_script") (CX := fun _ => L2.CX0) (sp := fun w => Sb.spLaw _) rfl (by decide) rfl ⟨rfl, by decide, by decide⟩ (fun w h Y => PySem.W.kIn_of Y) ?F (fun _ _ a ns hl hb _ hS => ⟨a, ns, rfl, hS, hl, hb, fun _ => rfl⟩) (fun _ _ _ _ _ h => h)
  case F =>
    intro w mg fa h KX G hmg
    refine' Sb.all_mk KX G hmg ?a0 ?l0 ?e0 ?k0 ?a1 ?l1 ?e1 ?k1 ?a2 ?l2 ?e2 ?k2 ?a3 ?l3 ?e3 ?k3 ?a4 ?l4 ?e4 ?k4 ?a5 ?l5 ?e5 ?k5 ?a6 ?l6 ?e6 ?k6 ?a7 ?l7 ?e7 ?k7 ?a8 ?l8 ?e8 ?k8 ?a9 ?l9 ?e9 ?k9 ?a10 ?l10 ?e10 ?k10 ?a11 ?l11 ?e11 ?k11 ?x0 ?z0 ?z1 ?z2 ?z3 ?z4 ?z5 ?z6 ?z7 ?z8 ?z9 ?z10
    (case a0 => k_is)
    (case l0 => k_is)
    (case e0 => k_is)
    (case k0 => k_is)
    (case a1 => k_is)
    (case l1 => k_is)
    (case e1 => k_is)
    (case k1 => k_is)
    (case a2 => k_is)
    (case l2 => k_is)
    (case e2 => k_is)
    (case k2 => k_is)
    (case a3 => k_is)
    (case l3 => k_is)
    (case e3 => k_is)
    (case k3 => k_is)
    (case a4 => k_is)
    (case l4 => k_is)
    (case e4 => k_is)
    (case k4 => k_is)
    (case a5 => k_is)
    (case l5 => k_is)
    (case e5 => k_is)
    (case k5 => k_is)
    (case a6 => k_is)
    (case l6 => k_is)
    (case e6 => k_is)
    (case k6 => k_is)
    (case a7 => k_is)
    (case l7 => k_is)
    (case e7 => k_is)
    (case k7 => k_is)
    (case a8 => k_is)
    (case l8 => k_is)
    (case e8 => k_is)
    (case k8 => k_is)
    (case a9 => k_is)
    (case l9 => k_is)
    (case e9 => k_is)
    (case k9 => k_is)
    (case a10 => k_is)
    (case l10 => k_is)
    (case e10 => k_is)
    (case k10 => k_is)
    (case a11 => k_is)
    (case l11 => k_is)
    (case e11 => k_is)
    (case k11 => k_is)
    (case x0 => k_is)
    (case z0 => k_is)
    (case z1 => k_is)
    (case z2 => k_is)
    (case z3 => k_is)
    (case z4 => k_is)
    (case z5 => k_is)
    (case z6 => k_is)
    (case z7 => k_is)
    (case z8 => k_is)
    (case z9 => k_is)
    (case z10 => k_is)

