import PyProof.Rows.All
import Wide.All
import OpenK.AllK
import Wide.FinOn
import PySem.Challenge.RW_no0070_01
open PySem PySem.Calls PySem.W PyProof.Rows
set_option Elab.async false
set_option maxRecDepth 100000
set_option maxHeartbeats 8000000
set_option linter.unusedVariables false
set_option compiler.extract_closed false
section
open PySem PySem.W PyProof.Rows
set_option maxHeartbeats 8000000
namespace Mine
/-- the text's statements without the five that name a part -/
def keepOf : List Stmt → List Stmt
  | a :: _ :: b :: c :: d :: _ :: e :: f :: g :: _ :: h :: _ :: i :: j :: k :: l :: m :: n :: o :: p :: _ :: r => a :: b :: c :: d :: e :: f :: g :: h :: i :: j :: k :: l :: m :: n :: o :: p :: r
  | l => l
noncomputable def view : Program := by
  refine (fun (_ : ?b = keepOf PySem.Challenge.rw_no0070_01.row.prog.main.body) => ({ PySem.Challenge.rw_no0070_01.row.prog with main := { PySem.Challenge.rw_no0070_01.row.prog.main with body := ?b } } : Program)) ?h
  case h =>
    conv => rhs; whnf
local macro_rules
  | `(tactic| o_head $H) => do
    let (hw, hc) := (Lean.mkIdent `hw, Lean.mkIdent `hc)
    `(tactic| refine holds_open (q := Mine.view) (loose := []) (Xt := fun s => xlAt Mine.view [] s && recOk (RowW.records (OpenRow.toRowW PySem.Challenge.rw_no0070_01.row)) s) (XP := XL Mine.view []) (Yf := Hook.obs $H) (Ya := Hook.val $H) (YP := Hook.says $H) (N := 2796) (by intro w; kernel_rfl) (Hook.of $H) (Hook.keeps $H) (fun s e => xl_of s (Bool.and_eq_true_iff.mp e).1) XL.keeps (by rfl) (by rfl) (by rfl) (fun s e => recFacts_of (Bool.and_eq_true_iff.mp e).2) (by rfl) (by first | assumption | decide +kernel) (by decide +kernel) ⟨rfl, rfl, rfl, rfl, rfl, by decide +kernel⟩ ?$hw ?$hc)
theorem said : OpenLaw.wellSaid PySem.Challenge.rw_no0070_01 = true := by kernel_rfl
local macro_rules
  | `(tactic| o_law) => `(tactic| refine holds_law Mine.said fun said => ?_)
open_top hd for PySem.Challenge.rw_no0070_01
end Mine
end
open Mine
section
open PySem PySem.Calls PySem.W PyProof.Rows
namespace Mine
theorem rstOrd : True := by
  w_top off
  k_with_none
  trivial
/-! the order of addresses: a fact within a row of facts -/
theorem ne0 {a x : Nat} (h : a < x) : a ≠ x := Nat.ne_of_lt h
theorem en0 {a x : Nat} (h : a < x) : x ≠ a := Nat.ne_of_gt h
theorem nem1 {a x : Nat} {r : Prop} (h : a < x ∧ r) : a ≠ x := Nat.ne_of_lt h.1
theorem enm1 {a x : Nat} {r : Prop} (h : a < x ∧ r) : x ≠ a := Nat.ne_of_gt h.1
theorem nem2 {a x : Nat} {p1 r : Prop} (h : p1 ∧ a < x ∧ r) : a ≠ x := Nat.ne_of_lt h.2.1
theorem enm2 {a x : Nat} {p1 r : Prop} (h : p1 ∧ a < x ∧ r) : x ≠ a := Nat.ne_of_gt h.2.1
theorem nel2 {a x : Nat} {p1 : Prop} (h : p1 ∧ a < x) : a ≠ x := Nat.ne_of_lt h.2
theorem enl2 {a x : Nat} {p1 : Prop} (h : p1 ∧ a < x) : x ≠ a := Nat.ne_of_gt h.2
theorem nem3 {a x : Nat} {p1 p2 r : Prop} (h : p1 ∧ p2 ∧ a < x ∧ r) : a ≠ x := Nat.ne_of_lt h.2.2.1
theorem enm3 {a x : Nat} {p1 p2 r : Prop} (h : p1 ∧ p2 ∧ a < x ∧ r) : x ≠ a := Nat.ne_of_gt h.2.2.1
theorem nel3 {a x : Nat} {p1 p2 : Prop} (h : p1 ∧ p2 ∧ a < x) : a ≠ x := Nat.ne_of_lt h.2.2
theorem enl3 {a x : Nat} {p1 p2 : Prop} (h : p1 ∧ p2 ∧ a < x) : x ≠ a := Nat.ne_of_gt h.2.2
theorem nem4 {a x : Nat} {p1 p2 p3 r : Prop} (h : p1 ∧ p2 ∧ p3 ∧ a < x ∧ r) : a ≠ x := Nat.ne_of_lt h.2.2.2.1
theorem enm4 {a x : Nat} {p1 p2 p3 r : Prop} (h : p1 ∧ p2 ∧ p3 ∧ a < x ∧ r) : x ≠ a := Nat.ne_of_gt h.2.2.2.1
theorem nel4 {a x : Nat} {p1 p2 p3 : Prop} (h : p1 ∧ p2 ∧ p3 ∧ a < x) : a ≠ x := Nat.ne_of_lt h.2.2.2
theorem enl4 {a x : Nat} {p1 p2 p3 : Prop} (h : p1 ∧ p2 ∧ p3 ∧ a < x) : x ≠ a := Nat.ne_of_gt h.2.2.2
theorem nem5 {a x : Nat} {p1 p2 p3 p4 r : Prop} (h : p1 ∧ p2 ∧ p3 ∧ p4 ∧ a < x ∧ r) : a ≠ x := Nat.ne_of_lt h.2.2.2.2.1
theorem enm5 {a x : Nat} {p1 p2 p3 p4 r : Prop} (h : p1 ∧ p2 ∧ p3 ∧ p4 ∧ a < x ∧ r) : x ≠ a := Nat.ne_of_gt h.2.2.2.2.1
theorem nel5 {a x : Nat} {p1 p2 p3 p4 : Prop} (h : p1 ∧ p2 ∧ p3 ∧ p4 ∧ a < x) : a ≠ x := Nat.ne_of_lt h.2.2.2.2
theorem enl5 {a x : Nat} {p1 p2 p3 p4 : Prop} (h : p1 ∧ p2 ∧ p3 ∧ p4 ∧ a < x) : x ≠ a := Nat.ne_of_gt h.2.2.2.2
theorem nem6 {a x : Nat} {p1 p2 p3 p4 p5 r : Prop} (h : p1 ∧ p2 ∧ p3 ∧ p4 ∧ p5 ∧ a < x ∧ r) : a ≠ x := Nat.ne_of_lt h.2.2.2.2.2.1
theorem enm6 {a x : Nat} {p1 p2 p3 p4 p5 r : Prop} (h : p1 ∧ p2 ∧ p3 ∧ p4 ∧ p5 ∧ a < x ∧ r) : x ≠ a := Nat.ne_of_gt h.2.2.2.2.2.1
theorem nel6 {a x : Nat} {p1 p2 p3 p4 p5 : Prop} (h : p1 ∧ p2 ∧ p3 ∧ p4 ∧ p5 ∧ a < x) : a ≠ x := Nat.ne_of_lt h.2.2.2.2.2
theorem enl6 {a x : Nat} {p1 p2 p3 p4 p5 : Prop} (h : p1 ∧ p2 ∧ p3 ∧ p4 ∧ p5 ∧ a < x) : x ≠ a := Nat.ne_of_gt h.2.2.2.2.2
theorem nem7 {a x : Nat} {p1 p2 p3 p4 p5 p6 r : Prop} (h : p1 ∧ p2 ∧ p3 ∧ p4 ∧ p5 ∧ p6 ∧ a < x ∧ r) : a ≠ x := Nat.ne_of_lt h.2.2.2.2.2.2.1
theorem enm7 {a x : Nat} {p1 p2 p3 p4 p5 p6 r : Prop} (h : p1 ∧ p2 ∧ p3 ∧ p4 ∧ p5 ∧ p6 ∧ a < x ∧ r) : x ≠ a := Nat.ne_of_gt h.2.2.2.2.2.2.1
theorem nel7 {a x : Nat} {p1 p2 p3 p4 p5 p6 : Prop} (h : p1 ∧ p2 ∧ p3 ∧ p4 ∧ p5 ∧ p6 ∧ a < x) : a ≠ x := Nat.ne_of_lt h.2.2.2.2.2.2
theorem enl7 {a x : Nat} {p1 p2 p3 p4 p5 p6 : Prop} (h : p1 ∧ p2 ∧ p3 ∧ p4 ∧ p5 ∧ p6 ∧ a < x) : x ≠ a := Nat.ne_of_gt h.2.2.2.2.2.2
theorem nem8 {a x : Nat} {p1 p2 p3 p4 p5 p6 p7 r : Prop} (h : p1 ∧ p2 ∧ p3 ∧ p4 ∧ p5 ∧ p6 ∧ p7 ∧ a < x ∧ r) : a ≠ x := Nat.ne_of_lt h.2.2.2.2.2.2.2.1
theorem enm8 {a x : Nat} {p1 p2 p3 p4 p5 p6 p7 r : Prop} (h : p1 ∧ p2 ∧ p3 ∧ p4 ∧ p5 ∧ p6 ∧ p7 ∧ a < x ∧ r) : x ≠ a := Nat.ne_of_gt h.2.2.2.2.2.2.2.1
theorem nel8 {a x : Nat} {p1 p2 p3 p4 p5 p6 p7 : Prop} (h : p1 ∧ p2 ∧ p3 ∧ p4 ∧ p5 ∧ p6 ∧ p7 ∧ a < x) : a ≠ x := Nat.ne_of_lt h.2.2.2.2.2.2.2
theorem enl8 {a x : Nat} {p1 p2 p3 p4 p5 p6 p7 : Prop} (h : p1 ∧ p2 ∧ p3 ∧ p4 ∧ p5 ∧ p6 ∧ p7 ∧ a < x) : x ≠ a := Nat.ne_of_gt h.2.2.2.2.2.2.2
/-! a row of a ledger, its items by their places -/
def nthL {α : Type} : List α → Nat → List α
  | [], _ => []
  | x :: _, 0 => [x]
  | _ :: t, n + 1 => nthL t n
def pickL {α : Type} (l : List α) (k : Nat) : List Nat → List α
  | [] => l.drop k
  | i :: is => nthL l i ++ pickL l k is
theorem nthL_mem {α : Type} {x : α} : ∀ {l : List α} {i : Nat}, x ∈ nthL l i → x ∈ l
  | [], _, h => nomatch h
  | y :: t, 0, h => by
    rw [List.mem_singleton.mp h]; exact .head _
  | y :: t, n + 1, h => .tail _ (nthL_mem (l := t) (i := n) h)
theorem pickMem {α : Type} (l : List α) (k : Nat) : ∀ (is : List Nat), ∀ p ∈ pickL l k is, p ∈ l
  | [], p, h => List.mem_of_mem_drop h
  | i :: is, p, h => (List.mem_append.mp h).elim nthL_mem (pickMem l k is p)
theorem pickM {α : Type} {l : List α} {p : α} (k : Nat) (is : List Nat) (h : p ∈ pickL l k is) : p ∈ l := pickMem l k is p h
theorem News.pick {h₀ h : Heap} {L : Addr} {l : List (Addr × Obj)} (N : News h₀ L h l) (k : Nat) (is : List Nat) : News h₀ L h (pickL l k is) := fun p hp => N p (pickMem l k is p hp)
end Mine
end
section
open PySem PySem.Calls PySem.W PyProof.Rows
namespace Mine
theorem rstNum : True := by
  w_top off
  k_with_none
  trivial
/-! numbers as the walk writes them: each fact proved once -/
theorem pos_toNat (x : Int) : (if x > 0 then x else 0).toNat = x.toNat := by
  split
  · rfl
  · rename_i h; exact (Int.toNat_of_nonpos (Int.not_lt.mp h)).symm
theorem pos_nonneg {x : Int} : 0 ≤ if x > 0 then x else 0 := by
  split
  · rename_i h; exact Int.le_of_lt h
  · exact Int.le_refl 0
theorem posAdd {x : Int} {b m : Nat} (e : x = (m : Int) - (b : Int)) : b + (if x > 0 then x else 0).toNat = max m b := by
  rw [pos_toNat, e, Int.toNat_sub, Nat.add_comm, Nat.sub_add_eq_max]
theorem subAdd {a b : Int} : a + (b - a) = b := by rw [Int.add_comm, Int.sub_add_cancel]
theorem max_pos {o r : Nat} (h : (r : Int) - (o : Int) > 0) : max o r = o + ((r : Int) - (o : Int)).toNat := by
  rw [Int.toNat_sub, Nat.add_comm, Nat.sub_add_eq_max, Nat.max_comm]
theorem max_neg {o r : Nat} (h : ¬ (r : Int) - (o : Int) > 0) : r ≤ o := Int.ofNat_le.mp (Int.le_of_sub_nonpos (Int.not_lt.mp h))
theorem max_neg' {o r : Nat} (h : ¬ (r : Int) > (o : Int)) : r ≤ o := Int.ofNat_le.mp (Int.not_lt.mp h)
theorem maxIf {o r : Nat} : (if (r : Int) > (o : Int) then (r : Int) else (o : Int)) = ((max o r : Nat) : Int) := by
  split
  · rename_i h; rw [Nat.max_eq_right (Nat.le_of_lt (Int.ofNat_lt.mp h))]
  · rename_i h; rw [Nat.max_eq_left (max_neg' h)]
theorem minIf {a b : Nat} : (if (b : Int) < (a : Int) then (b : Int) else (a : Int)) = ((min a b : Nat) : Int) := by
  split
  · rename_i h; rw [Nat.min_eq_right (Nat.le_of_lt (Int.ofNat_lt.mp h))]
  · rename_i h; rw [Nat.min_eq_left (max_neg' h)]
theorem maxIfZ {x y : Int} : (if x > y then x else y) = max y x := by
  split
  · rename_i h; exact (Int.max_eq_right (Int.le_of_lt h)).symm
  · rename_i h; exact (Int.max_eq_left (Int.not_lt.mp h)).symm
theorem toNatAdd {a b : Nat} : ((a : Int) + (b : Int)).toNat = a + b := rfl
theorem subCast {e H : Nat} (h : (e : Int) - (H : Int) > 0) : ((e - H : Nat) : Int) = (e : Int) - (H : Int) := Int.ofNat_sub (Int.ofNat_le.mp (Int.le_of_lt (Int.lt_of_sub_pos h)))
theorem subCast0 {e H : Nat} (h : ¬ (e : Int) - (H : Int) > 0) : ((e - H : Nat) : Int) = 0 := by rw [Nat.sub_eq_zero_of_le (max_neg h)]; rfl
theorem ifSub {e H : Nat} : (if (e : Int) - (H : Int) > 0 then (e : Int) - (H : Int) else 0) = ((e - H : Nat) : Int) := by
  split
  · rename_i h; exact (subCast h).symm
  · rename_i h; exact (subCast0 h).symm
theorem len_of {n m lo k : Nat} (h : 2 * n ≤ m + 1 - lo) (hm : m ≤ 13) (hk : 7 < k) : n < k := by omega
theorem maxPos {o r : Nat} : max o r = o + (if (r : Int) - (o : Int) > 0 then (r : Int) - (o : Int) else 0).toNat := by rw [posAdd rfl, Nat.max_comm]
theorem ifAdd {e H : Nat} : (H : Int) + (if (e : Int) - (H : Int) > 0 then (e : Int) - (H : Int) else 0) = ((max H e : Nat) : Int) := by
  rw [ifSub, ← Int.natCast_add, Nat.add_comm, Nat.sub_add_eq_max, Nat.max_comm]
theorem endEq {r k1 k2 r' n : Nat} (h : r' = r + min k1 k2) (hn : r' ≤ n) : r' = min (0 + ((r : Int) + (if (k2 : Int) < (k1 : Int) then (k2 : Int) else (k1 : Int))).toNat) n := by
  rw [minIf, toNatAdd, Nat.zero_add, ← h, Nat.min_eq_left hn]
theorem sumEq {r k1 k2 r' : Nat} (h : r' = r + min k1 k2) : (r : Int) + (if (k2 : Int) < (k1 : Int) then (k2 : Int) else (k1 : Int)) = (r' : Int) := by
  rw [minIf, h]; rfl
theorem cutMin {r m f : Nat} (h : r + m ≤ f) : (r : Int) + (((min (r + ((m : Nat) : Int).toNat) f : Nat) : Int) - (r : Int)) = ((r + m : Nat) : Int) := by
  rw [subAdd]; exact congrArg Nat.cast (Nat.min_eq_left h)
theorem eqMax {H e n : Nat} (he : e = n) (hH : H ≤ n) : max H e = n := by rw [he, Nat.max_eq_right hH]
theorem eqMax' {H e n : Nat} (he : H = n) (hH : e ≤ n) : max H e = n := by rw [he, Nat.max_eq_left hH]
theorem ltSub {o e r : Int} (h : ¬ r < o + (e - o)) : e ≤ r := by rw [subAdd] at h; exact Int.not_lt.mp h
theorem notIn {o e r k : Nat} (h : ¬ (r : Int) < (o : Int) + ((e : Int) - (o : Int))) (hr : r ≤ k) : ¬ (o ≤ k ∧ k < e) := fun q => Nat.lt_irrefl k (Nat.lt_of_lt_of_le q.2 (Nat.le_trans (Int.ofNat_le.mp (ltSub h)) hr))
theorem cutLt {m f r : Nat} (h : (m : Int) < (f : Int) - (r : Int)) : r + m < f := by omega
theorem cutLe {m f r : Nat} (h : ¬ (m : Int) < (f : Int) - (r : Int)) : f ≤ r + m := by omega
/-! a loop over a range of places, its word -/
theorem inv0 {m k : Int} : ¬ (m ≤ k ∧ k < m + ((0 : Nat) : Int)) := fun q => Int.not_lt.mpr q.1 (by simpa using q.2)
theorem invS {X : Prop} {m k : Int} {i : Nat} : ((X ∨ (m ≤ k ∧ k < m + (i : Int))) ∨ k = m + (i : Int)) ↔ (X ∨ (m ≤ k ∧ k < m + ((i + 1 : Nat) : Int))) := by
  have e : m + ((i + 1 : Nat) : Int) = m + (i : Int) + 1 := (Int.add_assoc m i 1).symm
  rw [e]
  constructor
  · rintro ((x | ⟨a, b⟩) | rfl)
    · exact .inl x
    · exact .inr ⟨a, Int.lt_add_one_of_le (Int.le_of_lt b)⟩
    · exact .inr ⟨Int.le_add_of_nonneg_right (Int.natCast_nonneg _), Int.lt_add_one_of_le (Int.le_refl _)⟩
  · rintro (x | ⟨a, b⟩)
    · exact .inl (.inl x)
    · rcases Int.lt_or_eq_of_le (Int.le_of_lt_add_one b) with q | q
      · exact .inl (.inr ⟨a, q⟩)
      · exact .inr q
theorem invD {k1 r e k : Nat} (hk : r ≤ k) : (((max k1 r : Nat) : Int) ≤ (k : Int) ∧ (k : Int) < ((max k1 r : Nat) : Int) + ((((e : Nat) : Int) - ((max k1 r : Nat) : Int)).toNat : Int)) ↔ (k1 ≤ k ∧ k < e) := by
  rw [Int.toNat_sub, ← Int.natCast_add, Int.ofNat_le, Int.ofNat_lt, Nat.max_le]
  rcases Nat.le_total (max k1 r) e with q | q
  · rw [Nat.add_sub_of_le q]
    exact ⟨fun z => ⟨z.1.1, z.2⟩, fun z => ⟨⟨z.1, hk⟩, z.2⟩⟩
  · rw [Nat.sub_eq_zero_of_le q, Nat.add_zero]
    exact ⟨fun z => absurd z.2 (Nat.not_lt_of_le (Nat.max_le.mpr z.1)), fun z => absurd (Nat.lt_of_lt_of_le z.2 q) (Nat.not_lt_of_le (Nat.max_le.mpr ⟨z.1, hk⟩))⟩
theorem invT {k : Int} {m e n : Nat} (he : e ≤ n) (h : (m : Int) ≤ k ∧ k < (m : Int) + (((e : Int) - (m : Int)).toNat : Int)) : k < (n : Int) := by
  obtain ⟨k, rfl⟩ := Int.eq_ofNat_of_zero_le (Int.le_trans (Int.natCast_nonneg m) h.1)
  have := (invD (k1 := m) (r := m) (e := e) (k := k) (Int.ofNat_le.mp h.1)).mp (by rw [Nat.max_self]; exact h)
  exact Int.ofNat_lt.mpr (Nat.lt_of_lt_of_le this.2 he)
theorem cntLe {e m n : Nat} (he : e ≤ n) : ((e : Int) - (m : Int)).toNat ≤ n := by
  rw [Int.toNat_sub]; exact Nat.le_trans (Nat.sub_le _ _) he
theorem szOk {len bnd i e m : Nat} (h : len ≤ bnd + i) (hb : bnd ≤ 1000) (hi : i < ((e : Int) - (m : Int)).toNat) (he : e ≤ 13) : len ≤ 16777216 :=
  Nat.le_trans h (Nat.le_trans (Nat.add_le_add hb (Nat.le_of_lt (Nat.lt_of_lt_of_le hi (cntLe he)))) (by decide))
theorem smallNN {a b : Nat} (ha : a ≤ 1000) (hb : b ≤ 1000) : Builtin.Range.small (a : Int) (b : Int) 1 = true :=
  small_one (Int.le_trans (by decide) (Int.natCast_nonneg a)) (Int.lt_of_le_of_lt (Int.ofNat_le.mpr ha) (by decide)) (Int.le_trans (by decide) (Int.natCast_nonneg b)) (Int.lt_of_le_of_lt (Int.ofNat_le.mpr hb) (by decide))
end Mine
end
section
open PySem PySem.Calls PySem.W PyProof.Rows
namespace Mine
theorem rstBase : True := by
  w_top off
  k_with_none
  trivial
noncomputable abbrev PG : Program := PySem.Challenge.rw_no0070_01.row.prog
noncomputable abbrev VW : Program := Mine.view

/-- g is the rest of the heap; foot lies apart from it -/
structure Own (g h : Heap) (foot : List (Addr × Obj)) : Prop where
  sub : ∀ b o, g.get? b = some o → h.get? b = some o
  size : g.objs.size ≤ h.objs.size
  foot : ∀ p ∈ foot, h.get? p.1 = some p.2 ∧ g.get? p.1 = none

structure Gnd (w : World) (mean : ExcName → Option Value) (mg mb : Str → Option Value) (g : Heap) : Prop where
  kin : (Mine.hd.heap_1 w.params).In g
  top : Top VW (looseW VW []) mean mg mb g

abbrev arnd (dp un : Nat) (gd : Option (List Code)) (outer : List Env) : Around := { handled := none, depth := dp, frames := some outer, guards := gd, units := un }

theorem enterC {prog : Program} {w : World} {A₀ A : Around} {s : Shared} {base g : Heap} {outer : List Env} {foot : List (Addr × Obj)} {K : Frag}
    {R : Result → Shared → Prop} {name qual : Str} {params : Arguments} {body : List Stmt} {scope : Scope} {dV kV doc pm cdv ct oc : Value} {an od : Option Addr} {osl : Array (Option Value)} {f : Addr} {args : Args} {binds : List (Str × Value)}
    (B : Below A₀ base outer g) (hA : A.frames = some outer) (O : Own g s.heap foot) (X : K.In g) (hlim : g.NoLimit)
    (ho : K.lookup f = some ⟨oc, od, .func (fnOf name qual params body scope dV kV doc pm an cdv ct), osl⟩) (hcd : codeIn K cdv qual = true) (hroom : A.depth < recursionLimit)
    (hbind : BindsTo s (fnOf name qual params body scope dV kV doc pm an cdv ct) args binds) (hloc : ∀ y ∈ binds, scope.names.lookup y.1 = some .local)
    (h : ∀ L' h₁, Fr g L' h₁ (fun y => binds.reverse.lookup y) → News g L' h₁ foot → Below A base outer g → (∀ p ∈ foot, p.1 < L') →
      wpAny (model prog w) (A.deeper (envOf qual scope L' f cdv)) (execs body (envOf qual scope L' f cdv))
        (fun fl s' => R (.ok (.ret (match fl with | .ret v => v | _ => .none))) s')
        (fun e s' => wpAny (model prog w) (A.deeper (envOf qual scope L' f cdv)) (leaving (envOf qual scope L' f cdv) e) (fun _ s'' => R (.error e) s'') (fun e' s'' => R (.error e') s'') s')
        { s with heap := h₁, toks := s.toks + binds.length })
    (hco : scope.isCoroutine = false) (hgen : scope.isGenerator = false) (hk : scope.kind = .function)
    (hcell : ∀ x ∈ scope.names, x.2 ≠ .cell) : codeAny (model prog w) A (.call (.ref f) args) R s := by
  refine codeAny_call_def (fd := fnOf name qual params body scope dV kV doc pm an cdv ct) (body := body) (binds := binds) hroom (O.sub _ _ (X _ _ ho)) rfl (hlim.keeps O.sub) (codeRec_of (X.keeps O.sub) hcd) rfl hbind hcell hloc (fun h₁ hns hk₁ => ?_) hco hgen hk
  exact h s.heap.objs.size h₁ ⟨hns, fun b o e => hk₁ b o (O.sub b o e), O.size⟩
    (fun p hp => ⟨hk₁ _ _ (O.foot p hp).1, Nat.ne_of_lt (Heap.lt_size (O.foot p hp).1), (O.foot p hp).2⟩) ⟨hA, B.stays, B.frames⟩ (fun p hp => Heap.lt_size (O.foot p hp).1)

/-- leaving a frame -/
theorem Own.of {g h : Heap} {L : Addr} {m : Str → Option Value} {news foot : List (Addr × Obj)} (F : Fr g L h m) (N : News g L h news) (hs : ∀ p ∈ foot, p ∈ news) : Own g h foot :=
  ⟨F.keep, Nat.le_of_lt (Nat.lt_of_le_of_lt F.above F.ns.lt), fun p hp => ⟨(N p (hs p hp)).1, (N p (hs p hp)).2.2⟩⟩

/-- a function's promise: for all frames below, ground heaps and states -/
def Spec (w : World) (mean : ExcName → Option Value) (mg mb : Str → Option Value) (f : Addr) (args : List Value) (dpt : Nat) (Pre : Heap → Prop) (foot : List (Addr × Obj)) (Post : Nat → Value → List (Addr × Obj) → Prop) : Prop :=
  ∀ (dp un : Nat) (gd : Option (List Code)) (base : Heap) (outer : List Env) (A₀ : Around) (g : Heap) (s : Shared) (R : Result → Shared → Prop),
    Below A₀ base outer g → (Mine.hd.heap_1 w.params).In g → Top VW (looseW VW []) mean mg mb g → Pre g → Own g s.heap foot → dp + dpt < recursionLimit → un + 8 * dpt < cLine →
    (∀ r foot' h' tk', Own g h' foot' → Post s.heap.objs.size r foot' → R (.ok (.ret r)) { s with heap := h', toks := tk' }) →
    codeAny (model PG w) (arnd dp un gd outer) (.call (.ref f) ⟨args, []⟩) R s

inductive Rem (p : Addr × Obj) : List (Addr × Obj) → List (Addr × Obj) → Prop
  | head {r} : Rem p (p :: r) r
  | tail {q r r'} : Rem p r r' → Rem p (q :: r) (q :: r')
inductive Sel : List (Addr × Obj) → List (Addr × Obj) → List (Addr × Obj) → Prop
  | nil {l} : Sel [] l l
  | cons {p ps l l' l''} : Rem p l l' → Sel ps l' l'' → Sel (p :: ps) l l''
  | whole {l} : Sel l l []
  | skip {ps q l r} : Sel ps l r → Sel ps (q :: l) (q :: r)
theorem Rem.mem {p : Addr × Obj} {l l' : List (Addr × Obj)} (h : Rem p l l') : p ∈ l ∧ (∀ q ∈ l', q ∈ l) := by
  induction h with
  | head => exact ⟨.head _, fun q hq => .tail _ hq⟩
  | tail _ ih => exact ⟨.tail _ ih.1, fun q hq => by
      rcases List.mem_cons.mp hq with rfl | hq
      · exact .head _
      · exact .tail _ (ih.2 q hq)⟩
theorem Sel.mem {ps l l' : List (Addr × Obj)} (h : Sel ps l l') : (∀ q ∈ ps, q ∈ l) ∧ (∀ q ∈ l', q ∈ l) := by
  induction h with
  | nil => exact ⟨fun _ hq => (nomatch hq), fun _ hq => hq⟩
  | cons hr _ ih => exact ⟨fun q hq => by
      rcases List.mem_cons.mp hq with rfl | hq
      · exact hr.mem.1
      · exact hr.mem.2 _ (ih.1 q hq), fun q hq => hr.mem.2 _ (ih.2 q hq)⟩
  | whole => exact ⟨fun _ hq => hq, fun _ hq => (nomatch hq)⟩
  | skip _ ih => exact ⟨fun q hq => .tail _ (ih.1 q hq), fun q hq => by
      rcases List.mem_cons.mp hq with rfl | hq
      · exact .head _
      · exact .tail _ (ih.2 q hq)⟩

theorem Own.start {h₀ h : Heap} {L : Addr} {news foot rest : List (Addr × Obj)} (N : News h₀ L h news) (hs : Sel foot news rest) : Own (hideAll h (foot.map (·.1))) h foot :=
  ⟨fun _ _ e => of_hideAll _ e, Nat.le_of_eq (hideAll_size _ _), fun p hp => ⟨(N p (hs.mem.1 p hp)).1, hideAll_none _ (List.mem_map_of_mem hp)⟩⟩

theorem Own.back {h₀ h h' : Heap} {L : Addr} {m : Str → Option Value} {news foot rest foot' : List (Addr × Obj)} (F : Fr h₀ L h m) (N : News h₀ L h news) (hs : Sel foot news rest)
    (hd : ∀ p ∈ rest, ∀ q ∈ foot, p.1 ≠ q.1) (O : Own (hideAll h (foot.map (·.1))) h' foot') : Fr h₀ L h' m ∧ News h₀ L h' (foot' ++ rest) ∧ (∀ p ∈ foot', ∀ q ∈ rest, p.1 ≠ q.1) := by
  have nm : ∀ b o, h₀.get? b = some o → b ∉ foot.map (·.1) := fun b o e q => by
    obtain ⟨p, hp, rfl⟩ := List.mem_map.mp q
    rw [(N p (hs.mem.1 p hp)).2.2] at e; cases e
  have nL : L ∉ foot.map (·.1) := fun q => by
    obtain ⟨p, hp, e⟩ := List.mem_map.mp q
    exact (N p (hs.mem.1 p hp)).2.1 e
  obtain ⟨oL, es, ep, hL, hLd, hLk, hLf⟩ := F.ns
  have hLg := hideAll_get (foot.map (·.1)) hL nL
  have hr : ∀ p ∈ rest, (hideAll h (foot.map (·.1))).get? p.1 = some p.2 := fun p hp => hideAll_get _ (N p (hs.mem.2 p hp)).1 fun q => by
    obtain ⟨x, hx, e⟩ := List.mem_map.mp q
    exact hd p hp x hx e.symm
  have st : ∀ b o, h₀.get? b = some o → (hideAll h (foot.map (·.1))).get? b = some o := fun b o e => hideAll_get _ (F.keep b o e) (nm b o e)
  refine ⟨⟨⟨oL, es, ep, O.sub L oL hLg, hLd, hLk, hLf⟩, fun b o e => O.sub b o (st b o e), F.above⟩, fun p hp => ?_, fun p hp q hq e => ?_⟩
  · rcases List.mem_append.mp hp with hp | hp
    · refine ⟨(O.foot p hp).1, fun e => ?_, ?_⟩
      · have := (O.foot p hp).2; rw [e, hLg] at this; cases this
      · cases q : h₀.get? p.1 with
        | none => rfl
        | some o => have := (O.foot p hp).2; rw [st _ _ q] at this; cases this
    · exact ⟨O.sub _ _ (hr p hp), (N p (hs.mem.2 p hp)).2⟩
  · have := (O.foot p hp).2; rw [e, hr q hq] at this; cases this

theorem Below.ground {A₀ A : Around} {base h₀ h : Heap} {outer : List Env} {env : Env} {L : Addr} {m : Str → Option Value} {news foot rest : List (Addr × Obj)} (B : Below A₀ base outer h₀) (F : Fr h₀ L h m) (N : News h₀ L h news) (hs : Sel foot news rest)
    (hA : A.frames = some (env :: outer)) (hf : env.frame = some L) (hke : env.scope.kind = .function) : Below A base (env :: outer) (hideAll h (foot.map (·.1))) ∧ ∀ b o, h₀.get? b = some o → (hideAll h (foot.map (·.1))).get? b = some o := by
  have N' : News h₀ L h foot := fun p hp => N p (hs.mem.1 p hp)
  obtain ⟨_, BG, st, _⟩ := groundX (A := A) (s := { heap := h }) (R := fun _ _ => True) B F N' hA hf hke
  exact ⟨BG, st⟩

theorem Spec.use {w : World} {mean : ExcName → Option Value} {mg mb : Str → Option Value} {f : Addr} {args : List Value} {dpt : Nat} {Pre : Heap → Prop} {foot : List (Addr × Obj)} {Post : Nat → Value → List (Addr × Obj) → Prop}
    {dp un : Nat} {gd : Option (List Code)} {cn : Str} {cs : Scope} {a : Addr} {ccd : Value} {cl : List (Str × Addr)} {outer : List Env} {A₀ : Around} {base h₀ : Heap} {L : Addr} {m : Str → Option Value} {news rest : List (Addr × Obj)} {s : Shared}
    {Q E : Value → Shared → Prop} (S : Spec w mean mg mb f args dpt Pre foot Post)
    (B : Below A₀ base outer h₀) (F : Fr h₀ L s.heap m) (X : (Mine.hd.heap_1 w.params).In h₀) (T : Top VW (looseW VW []) mean mg mb h₀) (N : News h₀ L s.heap news) (hk : cs.kind = .function)
    (hs : Sel foot news rest) (hd : ∀ p ∈ rest, ∀ q ∈ foot, p.1 ≠ q.1) (hP : ∀ g, (∀ b o, h₀.get? b = some o → g.get? b = some o) → (∀ p ∈ rest, g.get? p.1 = some p.2) → Pre g)
    (hdp : dp + dpt < recursionLimit) (hun : un + 8 * dpt < cLine)
    (ret : ∀ r foot' h' tk', Fr h₀ L h' m → News h₀ L h' (foot' ++ rest) → (∀ p ∈ foot', ∀ q ∈ rest, p.1 ≠ q.1) → Post s.heap.objs.size r foot' → Q r { s with heap := h', toks := tk' }) :
    wpAny (model PG w) (ktrTop dp un gd cn cs L a ccd cl outer) (call (.ref f) args) Q E s := by
  have G := Below.ground (A := ktrTop dp un gd cn cs L a ccd cl outer) (env := envX cn cs L a ccd cl) B F N hs rfl rfl hk
  refine wpAny_call ?_
  refine S dp un gd base (envX cn cs L a ccd cl :: outer) _ (hideAll s.heap (foot.map (·.1))) s _ G.1 (fun a o e => G.2 a o (X a o e)) (T.keeps G.2) (hP _ G.2 fun p hp => ?_) (Own.start N hs) hdp hun (fun r foot' h' tk' O' P' => ?_)
  · exact hideAll_get _ (N p (hs.mem.2 p hp)).1 fun q => by
      obtain ⟨x, hx, e⟩ := List.mem_map.mp q
      exact hd p hp x hx e.symm
  · obtain ⟨F', N', hx⟩ := Own.back F N hs hd O'
    exact ret r foot' h' tk' F' N' hx P'

/-- the same, the footprint behind the rest -/
theorem Spec.useR {w : World} {mean : ExcName → Option Value} {mg mb : Str → Option Value} {f : Addr} {args : List Value} {dpt : Nat} {Pre : Heap → Prop} {foot : List (Addr × Obj)} {Post : Nat → Value → List (Addr × Obj) → Prop}
    {dp un : Nat} {gd : Option (List Code)} {cn : Str} {cs : Scope} {a : Addr} {ccd : Value} {cl : List (Str × Addr)} {outer : List Env} {A₀ : Around} {base h₀ : Heap} {L : Addr} {m : Str → Option Value} {news rest : List (Addr × Obj)} {s : Shared}
    {Q E : Value → Shared → Prop} (S : Spec w mean mg mb f args dpt Pre foot Post)
    (B : Below A₀ base outer h₀) (F : Fr h₀ L s.heap m) (X : (Mine.hd.heap_1 w.params).In h₀) (T : Top VW (looseW VW []) mean mg mb h₀) (N : News h₀ L s.heap news) (hk : cs.kind = .function)
    (hs : Sel foot news rest) (hd : ∀ p ∈ rest, ∀ q ∈ foot, p.1 ≠ q.1) (hP : ∀ g, (∀ b o, h₀.get? b = some o → g.get? b = some o) → (∀ p ∈ rest, g.get? p.1 = some p.2) → Pre g)
    (hdp : dp + dpt < recursionLimit) (hun : un + 8 * dpt < cLine)
    (ret : ∀ r foot' h' tk', Fr h₀ L h' m → News h₀ L h' (rest ++ foot') → (∀ p ∈ foot', ∀ q ∈ rest, p.1 ≠ q.1) → Post s.heap.objs.size r foot' → Q r { s with heap := h', toks := tk' }) :
    wpAny (model PG w) (ktrTop dp un gd cn cs L a ccd cl outer) (call (.ref f) args) Q E s :=
  S.use B F X T N hk hs hd hP hdp hun fun r foot' h' tk' F' N' hx P => ret r foot' h' tk' F' (fun p hp => N' p ((List.mem_append.mp hp).elim (fun q => List.mem_append_right _ q) fun q => List.mem_append_left _ q)) hx P

/-- room for the frames below: two facts that every call asks -/
theorem room0 {dp k : Nat} (h : dp + k < recursionLimit) : dp < recursionLimit := Nat.lt_of_le_of_lt (Nat.le_add_right _ _) h
theorem roomUp {dp k a b x : Nat} (h : dp + k < recursionLimit) (e : x = dp + a) (l : a + b ≤ k) : x + b < recursionLimit := by subst e; exact Nat.lt_of_le_of_lt (by rw [Nat.add_assoc]; exact Nat.add_le_add_left l _) h
theorem unitUp {un k a b x : Nat} (h : un + 8 * k < cLine) (e : x = un + a) (l : a + 8 * b ≤ 8 * k) : x + 8 * b < cLine := by subst e; exact Nat.lt_of_le_of_lt (by rw [Nat.add_assoc]; exact Nat.add_le_add_left l _) h
end Mine
end
section
open PySem PySem.Calls PySem.W PyProof.Rows
namespace Mine
theorem rstLoops : True := by
  w_top off
  k_with_none
  trivial
/-- the end of a turn of a loop over pairs -/
inductive PairEnd (g : Heap) (L I : Addr) (oI : Obj) (J : (Str → Option Value) → List (Addr × Obj) → Prop) (s s₂ : Shared) : Prop
  | mk : ∀ h' tk m' news₂, s₂ = { s with heap := h', toks := tk } → Fr g L h' m' → News g L h' ((I, oI) :: news₂) → (∀ p ∈ news₂, @Ne Nat p.1 I) → J m' news₂ → PairEnd g L I oI J s s₂
def PairPost (g : Heap) (L I : Addr) (oI : Obj) (J : (Str → Option Value) → List (Addr × Obj) → Prop) (s : Shared) (Q : Flow → Shared → Prop) (f : Flow) (s₂ : Shared) : Prop :=
  match f with
  | .ret v => Q (.ret v) s₂
  | .brk => Q .next s₂
  | _ => PairEnd g L I oI J s s₂

theorem go_listiter {M : Model} {A : Around} {E : Value → Shared → Prop} {s : Shared} {elts : List Expr} {k : Nat} {pos : Pos} {I T l : Addr} {i : Nat} {Q : Unit → Shared → Prop} (h : s.heap.IsListIter I l i) (hq : Q () s) :
    wpAny M A (letOwnedTupleGo (.Tuple elts k pos) (.ref I) (.ref T)) Q E s := by
  obtain ⟨o, ho, hc, hd⟩ := h
  unfold letOwnedTupleGo
  dsimp only
  refine wpAny_bind (wpAny_load ho ?_)
  rw [hc, hd]
  dsimp only
  rw [if_neg (by simp)]
  exact wpAny_pure hq

section
variable {prog : Program} {w : World} {A : Around} {E : Value → Shared → Prop} {s : Shared} {env : Env} {g : Heap}

theorem forPairLoop {R : Result → Shared → Prop} {xi xc : Str} {pk pv pt : Pos} {x1 : Nat} {body : List Stmt} {l I : Addr} {refs : List Value} {c : Nat} {m : Str → Option Value} {news : List (Addr × Obj)} {P : Nat → Value → Value → Prop}
    (J : Nat → (Str → Option Value) → List (Addr × Obj) → Prop) (hh : A.handled = none) (hxi : env.kindOf xi = some .local) (hxc : env.kindOf xc = some .local)
    (hp : (env.scope.kind == .class || (env.scope.kind == .module && env.locals != env.globals)) = false)
    (hl : g.get? l = some (listOf refs.toArray c)) (hit : ∀ i v, refs[i]? = some v → ∃ T v0 v1 n, v = .ref T ∧ g.get? T = some { cls := .type "tuple", data := .seq #[v0, v1] n } ∧ P i v0 v1)
    (hI : s.heap.IsListIter I l 0) (hIg : g.get? I = none) (hIL : I ≠ env.locals) (F : Fr g env.locals s.heap m) (N : News g env.locals s.heap news) (hIn : ∀ p ∈ news, @Ne Nat p.1 I) (h0 : J 0 m news)
    (turn : ∀ i v0 v1 m₁ news₁ h tk oI, i < refs.length → P i v0 v1 → J i m₁ news₁ → (∀ p ∈ news₁, @Ne Nat p.1 I) → Fr g env.locals h (fun y => if y = xc then some v1 else if y = xi then some v0 else m₁ y) → News g env.locals h ((I, oI) :: news₁) →
      wpAny (model prog w) A (execs body env) (PairPost g env.locals I oI (J (i + 1)) { s with heap := h, toks := tk } (fun f s' => R (.ok f) s')) (notedBy (model prog w) A env fun e s' => R (.error e) s') { s with heap := h, toks := tk })
    (done : ∀ m₁ news₁ h tk, J refs.length m₁ news₁ → Fr g env.locals h m₁ → News g env.locals h news₁ → R (.ok .next) { s with heap := h, toks := tk }) :
    codeAny (model prog w) A (.forLoop (.Tuple [.Name xi pk, .Name xc pv] x1 pt) (.ref I) body [] env) R s := by
  have lst : ∀ {h : Heap} {m' : Str → Option Value}, Fr g env.locals h m' → h.IsList l refs.toArray := fun F' => ⟨_, F'.keep _ _ hl, rfl, _, rfl⟩
  refine codeAny_forLoop_any
    (fun k s' => ∃ h' tk m' news' i, s' = { s with heap := h', toks := tk } ∧ h'.IsListIter I l i ∧ Fr g env.locals h' m' ∧ News g env.locals h' news' ∧ (∀ p ∈ news', @Ne Nat p.1 I) ∧ J i m' news' ∧ i ≤ refs.length ∧ k = refs.length - i) ?_ refs.length
    ⟨s.heap, s.toks, m, news, 0, rfl, hI, F, N, hIn, h0, Nat.zero_le _, rfl⟩
  rintro k s' ⟨h', tk, m', news', i, rfl, hI', F', N', hIn', hJ, hi, rfl⟩
  by_cases hlt : i < refs.length
  · obtain ⟨v, hv⟩ : ∃ v, refs[i]? = some v := ⟨_, List.getElem?_eq_getElem hlt⟩
    obtain ⟨T, v0, v1, n, rfl, hT, hP⟩ := hit i v hv
    refine wpAny_pyNext_list_item (s := { s with heap := h', toks := tk }) (x := .ref T) hI' (lst F') (by simpa using hv) (fun h₁ hI₁ hs₁ => ?_)
    have F₁ : Fr g env.locals h₁ m' := ⟨F'.ns.sameBut hs₁ (Ne.symm hIL), fun b o e => (hs₁.2 b fun q => by rw [q, hIg] at e; cases e).trans (F'.keep b o e), F'.above⟩
    have N₁ : News g env.locals h₁ news' := fun p hp => ⟨(hs₁.2 _ (hIn' p hp)).trans (N' p hp).1, (N' p hp).2⟩
    refine go_listiter (s := { s with heap := h₁, toks := tk }) hI₁ ?_
    have ht : h₁.IsTuple T #[v0, v1] := ⟨_, F₁.keep _ _ hT, rfl, _, rfl⟩
    refine wpAny_assign_Tuple (s := { s with heap := h₁, toks := tk }) hh ht rfl rfl fun h₃ hx₃ => ?_
    replace hx₃ : Heap.ExtBut h₁.objs.size h₁ h₃ := hx₃
    have up₃ : ∀ b o, h₁.get? b = some o → h₃.get? b = some o := fun b o x => hx₃ b o (Nat.ne_of_lt (Heap.lt_size x)) x
    have F₃ : Fr g env.locals h₃ m' := ⟨F₁.ns.keeps up₃, fun b o e => up₃ b o (F₁.keep b o e), F₁.above⟩
    have N₃ : News g env.locals h₃ news' := fun p hp => ⟨up₃ _ _ (N₁ p hp).1, (N₁ p hp).2⟩
    have hI₃ : h₃.IsListIter I l (i + 1) := hI₁.at fun o e => up₃ _ _ e
    show wpAny _ A (do holding [v1] (assign (.Name xi pk) env v0); do holding [] (assign (.Name xc pv) env v1); pure ()) _ _ _
    refine wpAny_bind (wpAny_holding (wpAny_assign_Name (wpAny_storeName_local hxi F₃.ns (fun h₄ hn₄ hs₄ => ?_) hp)))
    replace hs₄ : Heap.SameBut env.locals h₃ h₄ := hs₄
    have F₄ := F₃.set hn₄ hs₄
    refine wpAny_bind (wpAny_holding (wpAny_assign_Name (wpAny_storeName_local hxc F₄.ns (fun h₅ hn₅ hs₅ => wpAny_pure ?_) hp)))
    replace hs₅ : Heap.SameBut env.locals h₄ h₅ := hs₅
    have F₅ := F₄.set hn₅ hs₅
    have N₅ : News g env.locals h₅ news' := (N₃.set hs₄).set hs₅
    have hI₅ : h₅.IsListIter I l (i + 1) := hI₃.at fun o e => (hs₅.2 _ hIL).trans ((hs₄.2 _ hIL).trans e)
    obtain ⟨oI, hoI, hoc, hod⟩ := id hI₅
    refine wpAny_mono (turn i v0 v1 m' news' h₅ _ oI hlt hP hJ hIn' F₅ (fun p hp => by
      rcases List.mem_cons.mp hp with rfl | hp
      · exact ⟨hoI, hIL, hIg⟩
      · exact N₅ p hp)) (fun f s₃ h₆ => ?_) fun _ _ e => e
    have fin : ∀ tkx, PairEnd g env.locals I oI (J (i + 1)) { s with heap := h₅, toks := tkx } s₃ →
        ∃ m, m < refs.length - i ∧ ∃ h' tk m' news' i', s₃ = { s with heap := h', toks := tk } ∧ h'.IsListIter I l i' ∧ Fr g env.locals h' m' ∧ News g env.locals h' news' ∧ (∀ p ∈ news', @Ne Nat p.1 I) ∧ J i' m' news' ∧ i' ≤ refs.length ∧ m = refs.length - i' := by
      rintro tkx ⟨h'', tk'', m'', news₂, rfl, F'', N'', hIn'', hJ''⟩
      exact ⟨refs.length - (i + 1), by omega, h'', tk'', m'', news₂, i + 1, rfl, ⟨oI, (N'' _ (.head _)).1, hoc, hod⟩, F'', fun p hp => N'' p (.tail _ hp), hIn'', hJ'', hlt, rfl⟩
    cases f with
    | ret v => exact h₆
    | brk => exact h₆
    | cont => exact fin _ h₆
    | next => exact fin _ h₆
  · have hin : i = refs.length := by omega
    subst hin
    refine wpAny_pyNext_list_end (s := { s with heap := h', toks := tk }) hh hI' (lst F') (by simp) (fun h₁ hs₁ => ?_)
    replace hs₁ : Heap.ExtBut I h' h₁ := hs₁
    have F₁ : Fr g env.locals h₁ m' := ⟨F'.ns.at' fun o e => hs₁ _ o (Ne.symm hIL) e, fun b o e => hs₁ b o (fun q => by rw [q, hIg] at e; cases e) (F'.keep b o e), F'.above⟩
    have N₁ : News g env.locals h₁ news' := fun p hp => ⟨hs₁ _ _ (hIn' p hp) (N' p hp).1, (N' p hp).2⟩
    exact wpAny_execs_nil (done m' news' h₁ tk hJ F₁ N₁)

theorem ForPair {Q : Flow → Shared → Prop} {xi xc sn : Str} {pk pv pt sp pos : Pos} {x1 : Nat} {body : List Stmt} {l : Addr} {refs : List Value} {c : Nat} {m : Str → Option Value} {news : List (Addr × Obj)} {P : Nat → Value → Value → Prop}
    (J : Nat → (Str → Option Value) → List (Addr × Obj) → Prop) (hh : A.handled = none) (hkf : env.scope.kind = .function) (hxi : env.kindOf xi = some .local) (hxc : env.kindOf xc = some .local) (hsn : env.kindOf sn = some .local) (hd : (sn == ("__debug__" : Str)) = false)
    (hp : (env.scope.kind == .class || (env.scope.kind == .module && env.locals != env.globals)) = false)
    (hm : m sn = some (.ref l)) (hl : g.get? l = some (listOf refs.toArray c)) (hit : ∀ i v, refs[i]? = some v → ∃ T v0 v1 n, v = .ref T ∧ g.get? T = some { cls := .type "tuple", data := .seq #[v0, v1] n } ∧ P i v0 v1)
    (F : Fr g env.locals s.heap m) (N : News g env.locals s.heap news) (h0 : J 0 m news)
    (turn : ∀ I, (∀ p ∈ news, @Ne Nat p.1 I) → ∀ i v0 v1 m₁ news₁ h tk oI, i < refs.length → P i v0 v1 → J i m₁ news₁ → (∀ p ∈ news₁, @Ne Nat p.1 I) → Fr g env.locals h (fun y => if y = xc then some v1 else if y = xi then some v0 else m₁ y) → News g env.locals h ((I, oI) :: news₁) →
      wpAny (model prog w) A (execs body env) (PairPost g env.locals I oI (J (i + 1)) { s with heap := h, toks := tk } Q) E { s with heap := h, toks := tk })
    (done : ∀ m₁ news₁ h tk, J refs.length m₁ news₁ → Fr g env.locals h m₁ → News g env.locals h news₁ → Q .next { s with heap := h, toks := tk })
    (hs : ∀ x, foldedSetIterable (.Name sn sp) env x = pure x := by intro _; rfl)
    (hE : PassesOwn (model prog w) A env E := by passes_own) :
    wpAny (model prog w) A (exec (.For (.Tuple [.Name xi pk, .Name xc pv] x1 pt) (.Name sn sp) body [] pos) env) Q E s := by
  refine wpAny_For (wpAny_Name (wpAny_loadName_local hkf hsn F.ns hm ?_) hd) hs
  refine wpAny_pyIter_list (⟨_, F.keep _ _ hl, rfl, _, rfl⟩ : s.heap.IsList l refs.toArray) ?_
  have hne : s.heap.objs.size ≠ env.locals := Nat.ne_of_gt F.ns.lt
  refine forPairLoop (P := P) (R := fun r s' => match r with | .ok f => Q f s' | .error e => cameBackBy (model prog w) A env E e s') J hh hxi hxc hp hl hit ⟨_, Heap.get?_push_size _ rfl, rfl, rfl⟩ (next_is_new F) hne (F.push _)
    (fun p hp => ⟨Heap.get?_push_of_some _ (N p hp).1, (N p hp).2⟩) (fun p hp => Nat.ne_of_lt (Heap.lt_size (N p hp).1)) h0 (fun i v0 v1 m₁ news₁ h tk oI a1 a2 a3 a4 a5 a6 => ?_) done
  exact wpAny_passesOwn hE (turn _ (fun p hp => Nat.ne_of_lt (Heap.lt_size (N p hp).1)) i v0 v1 m₁ news₁ h tk oI a1 a2 a3 a4 a5 a6)

/-- the state of a loop: a ledger, names with their values; the other names of the frame as ahead, but the stored ones -/
inductive PS {σ : Type} (Led : σ → List (Addr × Obj)) (ps : σ → List (Str × Value)) (stored : List Str) (x : Str) (m₀ : Str → Option Value) (Inv : σ → Prop) (m : Str → Option Value) (nx : List (Addr × Obj)) : Prop
  | mk : ∀ c : σ, nx = Led c → (∀ p ∈ ps c, m p.1 = some p.2) → (∀ z, z ≠ x → (∀ p ∈ ps c, z ≠ p.1) → stored.contains z = false → m z = m₀ z) → Inv c → PS Led ps stored x m₀ Inv m nx

theorem frPair {g h : Heap} {L : Addr} {xi xc : Str} {v0 v1 : Value} {ps : List (Str × Value)} {stored : List Str} {m₀ m₁ : Str → Option Value} (h1 : ∀ p ∈ ps, m₁ p.1 = some p.2) (h2 : ∀ z, z ≠ xi → (∀ p ∈ ps, z ≠ p.1) → stored.contains z = false → m₁ z = m₀ z)
    (F : Fr g L h (fun y => if y = xc then some v1 else if y = xi then some v0 else m₁ y)) : Fr g L h (fun y => if y = xc then some v1 else if y = xi then some v0 else kstB (fun z => if stored.contains z then m₁ z else m₀ z) ps y) := by
  have e : (fun y => if y = xc then some v1 else if y = xi then some v0 else kstB (fun z => if stored.contains z then m₁ z else m₀ z) ps y) = (fun y => if y = xc then some v1 else if y = xi then some v0 else m₁ y) := by
    funext y
    by_cases q1 : y = xc
    · rw [if_pos q1, if_pos q1]
    · rw [if_neg q1, if_neg q1]
      by_cases q2 : y = xi
      · rw [if_pos q2, if_pos q2]
      · rw [if_neg q2, if_neg q2]
        exact kst_off h1 h2 q2
  rw [e]
  exact F

theorem pairEnd {σ : Type} {Led : σ → List (Addr × Obj)} {ps : σ → List (Str × Value)} {stored : List Str} {x : Str} {m₀ m' : Str → Option Value} {Inv : σ → Prop} {g h' : Heap} {L I : Addr} {oI : Obj} {s : Shared} {tk : Nat} {news' : List (Addr × Obj)} (c : σ)
    (F : Fr g L h' m') (N : News g L h' news') (hs : ∀ p ∈ (I, oI) :: Led c, p ∈ news') (hne : ∀ p ∈ Led c, @Ne Nat p.1 I) (hk : ∀ p ∈ ps c, m' p.1 = some p.2) (hr : ∀ z, z ≠ x → (∀ p ∈ ps c, z ≠ p.1) → stored.contains z = false → m' z = m₀ z) (hi : Inv c) :
    PairEnd g L I oI (PS Led ps stored x m₀ Inv) s { s with heap := h', toks := tk } :=
  ⟨h', tk, m', Led c, rfl, F, fun p hp => N p (hs p hp), hne, c, rfl, hk, hr, hi⟩

theorem ForPairS {σ : Type} {Q : Flow → Shared → Prop} {xi xc sn : Str} {pk pv pt sp pos : Pos} {x1 : Nat} {body : List Stmt} {l : Addr} {refs : List Value} {cc : Nat} {m₀ : Str → Option Value} {P : Nat → Value → Value → Prop}
    (Led : σ → List (Addr × Obj)) (ps : σ → List (Str × Value)) (stored : List Str) (Inv : Nat → σ → Prop) (c₀ : σ)
    (hh : A.handled = none) (hkf : env.scope.kind = .function) (hxi : env.kindOf xi = some .local) (hxc : env.kindOf xc = some .local) (hsn : env.kindOf sn = some .local) (hd : (sn == ("__debug__" : Str)) = false)
    (hp : (env.scope.kind == .class || (env.scope.kind == .module && env.locals != env.globals)) = false)
    (hm : m₀ sn = some (.ref l)) (hl : g.get? l = some (listOf refs.toArray cc)) (hit : ∀ i v, refs[i]? = some v → ∃ T v0 v1 n, v = .ref T ∧ g.get? T = some { cls := .type "tuple", data := .seq #[v0, v1] n } ∧ P i v0 v1)
    (F : Fr g env.locals s.heap m₀) (N : News g env.locals s.heap (Led c₀)) (hk : ∀ p ∈ ps c₀, m₀ p.1 = some p.2) (h0 : Inv 0 c₀)
    (turn : ∀ I, (∀ p ∈ Led c₀, @Ne Nat p.1 I) → ∀ i v0 v1 (c : σ) (u : Str → Option Value) h tk oI, i < refs.length → P i v0 v1 → Inv i c → (∀ p ∈ Led c, @Ne Nat p.1 I) →
      Fr g env.locals h (fun y => if y = xc then some v1 else if y = xi then some v0 else kstB (fun z => if stored.contains z then u z else m₀ z) (ps c) y) → News g env.locals h ((I, oI) :: Led c) →
      wpAny (model prog w) A (execs body env) (PairPost g env.locals I oI (PS Led ps stored xi m₀ (Inv (i + 1))) { s with heap := h, toks := tk } Q) E { s with heap := h, toks := tk })
    (done : ∀ (c : σ) (u : Str → Option Value) h tk, Inv refs.length c → Fr g env.locals h (fun y => if y = xi then u y else kstB (fun z => if stored.contains z then u z else m₀ z) (ps c) y) → News g env.locals h (Led c) → Q .next { s with heap := h, toks := tk })
    (hs : ∀ x, foldedSetIterable (.Name sn sp) env x = pure x := by intro _; rfl)
    (hE : PassesOwn (model prog w) A env E := by passes_own) :
    wpAny (model prog w) A (exec (.For (.Tuple [.Name xi pk, .Name xc pv] x1 pt) (.Name sn sp) body [] pos) env) Q E s := by
  refine ForPair (P := P) (fun i m nx => PS Led ps stored xi m₀ (Inv i) m nx) hh hkf hxi hxc hsn hd hp hm hl hit F N ⟨c₀, rfl, hk, fun _ _ _ _ => rfl, h0⟩ ?_ ?_ hs hE
  · rintro I hI i v0 v1 m₁ nx h tk oI hi hP ⟨c, rfl, h1, h2, hinv⟩ hne F₁ N₁
    exact turn I hI i v0 v1 c m₁ h tk oI hi hP hinv hne (frPair h1 h2 F₁) N₁
  · rintro m₁ nx h tk ⟨c, rfl, h1, h2, hinv⟩ F₁ N₁
    exact done c m₁ h tk hinv (kst_frOut h1 h2 F₁) N₁
end
end Mine
end
section
open PySem PySem.Calls PySem.W PyProof.Rows
namespace Mine
theorem rstRng : True := by
  w_top off
  k_with_none
  trivial
section
variable {prog : Program} {w : World} {A : Around} {E : Value → Shared → Prop} {s : Shared} {env : Env} {h₀ : Heap} {x : Str} {body : List Stmt} {Q : Flow → Shared → Prop}
/-- a loop over a range whose turns change the ledger freely -/
theorem rangeS {σ : Type} {r : Addr} {a₀ b₀ : Int} {t₀ u₀ v₀ : Tok} {m₀ : Str → Option Value} (Led : σ → List (Addr × Obj)) (ps : σ → List (Str × Value)) (stored : List Str) (Inv : Nat → σ → Prop) (c₀ : σ)
    (hh : A.handled = none) (hr : IsRange s.heap r a₀ b₀ 1 t₀ u₀ v₀) (hsmall : Builtin.Range.small a₀ b₀ 1 = true) (F : Fr h₀ env.locals s.heap m₀) (N : News h₀ env.locals s.heap (Led c₀)) (hk : ∀ p ∈ ps c₀, m₀ p.1 = some p.2) (h0 : Inv 0 c₀)
    (turn : ∀ I, (∀ p ∈ Led c₀, @Ne Nat p.1 I) → ∀ (i : Nat) t (c : σ) (u : Str → Option Value) h tk oI, i < (b₀ - a₀).toNat → Inv i c → (∀ p ∈ Led c, @Ne Nat p.1 I) →
      Fr h₀ env.locals h (fun y => if y = x then some (.int (a₀ + (i : Int)) t) else kstB (fun z => if stored.contains z then u z else m₀ z) (ps c) y) → News h₀ env.locals h ((I, oI) :: Led c) →
      wpAny (model prog w) A (execs body env) (PairPost h₀ env.locals I oI (PS Led ps stored x m₀ (Inv (i + 1))) { s with heap := h, toks := tk } Q) E { s with heap := h, toks := tk })
    (done : ∀ (c : σ) (u : Str → Option Value) h tk, Inv (b₀ - a₀).toNat c → Fr h₀ env.locals h (fun y => if y = x then u y else kstB (fun z => if stored.contains z then u z else m₀ z) (ps c) y) → News h₀ env.locals h (Led c) → Q .next { s with heap := h, toks := tk }) :
    wpAny (model prog w) A (pyIter (.ref r)) (fun it s₂ => LoopAtV prog w A h₀ env x body Q E it s₂) E s := by
  refine wpAny_pyIter_range hr hsmall ?_
  have hn : Builtin.Range.rangeSize a₀ b₀ 1 = (((b₀ - a₀).toNat : Nat) : Int) := rangeSize_nat _ _
  generalize (b₀ - a₀).toNat = n at hn turn done
  have W : Walks prog w A s.heap.objs.size [s.heap.objs.size] [s.heap.objs.size] n (fun i v => ∃ t, v = .int (a₀ + i * 1) t)
      (fun i h => IsRangeIter h s.heap.objs.size (a₀ + (i : Nat) * 1) ((n : Int) - (i : Nat)) 1) := Walks.range hh _ a₀ 1 n
  have ltN : ∀ p ∈ Led c₀, @Ne Nat p.1 s.heap.objs.size := fun p hp => Nat.ne_of_lt (Heap.lt_size (N p hp).1)
  refine ⟨s.heap.objs.size, [s.heap.objs.size], [s.heap.objs.size], n, _, _, m₀, Led c₀, (fun i m nx => PS Led ps stored x m₀ (Inv i) m nx), rfl, W, ?_, ?_, ?_, (by show IsRangeIter _ _ _ _ _; rw [hn]; simpa using Heap.get?_push_size _ rfl), F.push _, (fun p hp => ⟨Heap.get?_push_of_some _ (N p hp).1, (N p hp).2⟩), ⟨c₀, rfl, hk, fun _ _ _ _ => rfl, h0⟩, ?_, ?_⟩
  · intro hm
    exact absurd F.ns.lt ((List.mem_singleton.mp hm) ▸ Nat.lt_irrefl _)
  · intro b hb
    rw [List.mem_singleton.mp hb]
    exact next_is_new F
  · intro p hp hI
    exact ltN p hp (List.mem_singleton.mp hI)
  · rintro i v m₁ nx s₁ own ⟨h, tk, rfl⟩ hi ⟨t, rfl⟩ ⟨c, rfl, h1, h2, hinv⟩ hne hown hget hmem hst F₁ N₁
    have hnI : h₀.get? s.heap.objs.size = none := next_is_new F
    obtain ⟨oI, hoI⟩ : ∃ oI, h.get? s.heap.objs.size = some oI := ⟨_, hst⟩
    have hIown := hmem _ (.head _) hnI oI hoI
    have e1 : a₀ + (i : Int) * 1 = a₀ + (i : Int) := by omega
    rw [e1] at F₁
    have N₂ : News h₀ env.locals h ((s.heap.objs.size, oI) :: Led c) := fun p hp => by
      rcases List.mem_cons.mp hp with rfl | hp
      · exact N₁ _ (List.mem_append_left _ hIown)
      · exact N₁ p (List.mem_append_right _ hp)
    refine wpAny_mono (turn s.heap.objs.size ltN i t c m₁ h tk oI hi hinv (fun p hp z => hne p hp (List.mem_singleton.mpr z)) (kst_fr h1 h2 F₁) N₂) (fun f s₂ p => ?_) fun _ _ e => e
    have fin : PairEnd h₀ env.locals s.heap.objs.size oI (PS Led ps stored x m₀ (Inv (i + 1))) { s with heap := h, toks := tk } s₂ →
        LoopStepU h₀ env.locals [s.heap.objs.size] own (fun m nx => PS Led ps stored x m₀ (Inv (i + 1)) m nx) { s with heap := h, toks := tk } .next s₂ := by
      rintro ⟨h', tk', m', nx', rfl, F', N', hIn', hJ'⟩
      refine ⟨rfl, h', tk', m', nx', rfl, F', fun p hp => ?_, fun p hp z => hIn' p hp (List.mem_singleton.mp z), hJ'⟩
      rcases List.mem_append.mp hp with hp | hp
      · have e := List.mem_singleton.mp (hown p hp)
        have g := hget p hp
        obtain ⟨p1, p2⟩ := p
        dsimp only at e g
        subst e
        have g' : h.get? s.heap.objs.size = some p2 := g
        rw [hoI] at g'
        cases g'
        exact N' _ (.head _)
      · exact N' p (.tail _ hp)
    cases f with
    | ret v => exact .ret p
    | brk => exact .brk p
    | next => exact .next (fin p)
    | cont => exact .cont (fin p)
  · rintro h' tk m' nx F' N' _ ⟨c, rfl, h1, h2, hinv⟩
    exact done c m' h' tk hinv (kst_frOut h1 h2 F') N'
end
end Mine
end
section
local macro_rules | `(tactic| walk_at "NeA") => `(tactic| ((show @Ne Nat _ _); first | exact Ne.symm (by with_reducible assumption) | exact ne0 (by with_reducible assumption) | exact en0 (by with_reducible assumption) | exact nem1 (by with_reducible assumption) | exact enm1 (by with_reducible assumption) | exact nem2 (by with_reducible assumption) | exact enm2 (by with_reducible assumption) | exact nel2 (by with_reducible assumption) | exact enl2 (by with_reducible assumption) | exact nem3 (by with_reducible assumption) | exact enm3 (by with_reducible assumption) | exact nel3 (by with_reducible assumption) | exact enl3 (by with_reducible assumption) | exact nem4 (by with_reducible assumption) | exact enm4 (by with_reducible assumption) | exact nel4 (by with_reducible assumption) | exact enl4 (by with_reducible assumption) | exact nem5 (by with_reducible assumption) | exact enm5 (by with_reducible assumption) | exact nel5 (by with_reducible assumption) | exact enl5 (by with_reducible assumption) | exact nem6 (by with_reducible assumption) | exact enm6 (by with_reducible assumption) | exact nel6 (by with_reducible assumption) | exact enl6 (by with_reducible assumption) | exact nem7 (by with_reducible assumption) | exact enm7 (by with_reducible assumption) | exact nel7 (by with_reducible assumption) | exact enl7 (by with_reducible assumption) | exact nem8 (by with_reducible assumption) | exact enm8 (by with_reducible assumption) | exact nel8 (by with_reducible assumption) | exact enl8 (by with_reducible assumption)))
local macro_rules | `(tactic| walk_at "Small") => `(tactic| first | with_reducible exact Nat.le_of_lt (by assumption) | with_reducible exact Int.natCast_nonneg _ | with_reducible exact pos_nonneg | with_reducible exact subAdd | with_reducible exact Int.ofNat_le.mpr (by assumption) | with_reducible exact Int.ofNat_lt.mpr (by assumption) | with_reducible exact Nat.le_succ_of_le (by assumption) | with_reducible exact Nat.succ_le_succ (by assumption) | with_reducible exact Nat.le_trans (by assumption) (by decide) | with_reducible exact Nat.lt_of_lt_of_le (by assumption) (by decide) | with_reducible exact Nat.le_of_not_lt (by assumption) | with_reducible exact Nat.lt_of_not_le (by assumption) | with_reducible exact Int.not_lt.mp (by assumption) | with_reducible exact Int.not_le.mp (by assumption))
local macro_rules | `(tactic| omega) => `(tactic| first | (k_whole; first | (with_reducible assumption) | walk_at "NeA" | walk_at "Small") | ((fail_if_success (fail_if_success (omega (config := {})))); first | (k_whole; law_clear; lia) | omega (config := {})))
local macro_rules | `(tactic| ktr_room) => `(tactic| first | exact room0 (by assumption) | exact roomUp (a := 1) (by assumption) rfl (Nat.le_of_ble_eq_true rfl))
local macro_rules | `(tactic| ktr_units) => `(tactic| first | exact unitUp (a := 3) (by assumption) rfl (Nat.le_of_ble_eq_true rfl) | exact unitUp (a := 1) (by assumption) rfl (Nat.le_of_ble_eq_true rfl))
section
open PySem PySem.Calls PySem.W PyProof.Rows
set_option maxHeartbeats 4000000
namespace Mine
theorem rstTake : True := by
  w_top off
  k_with_none
  trivial

theorem fillIt : PySem.Challenge.rw_no0070_01 = PySem.Challenge.rw_no0070_01 ∧ Mine.hd.heap_1 = Mine.hd.heap_1 := by
  k_fill
  exact ⟨rfl, rfl⟩

def BoxOk (inner : Addr) (ob oi : Obj) : Prop :=
  ∃ (vs : List Value) (ns : List Int) (seed : Int) (t : Tok) (n n' : Nat), ob = listOf #[.ref inner, .int seed t] n ∧ oi = listOf vs.toArray n' ∧ IntsAre vs ns ∧ 0 ≤ seed ∧ seed < 2147483647 ∧ ns.length ≤ 64

theorem pop0 {prog : Program} {w : World} {A : Around} {E : Value → Shared → Prop} {s : Shared} {h₀ : Heap} {L D : Addr} {m : Str → Option Value} {news news' : List (Addr × Obj)} {n : Nat} {u : Tok} {q : List Value} {y : Value} {Q : Value → Shared → Prop} (F : Fr h₀ L s.heap m) (N : News h₀ L s.heap news)
    (U : Upd D (listOf (y :: q).toArray n) (listOf q.toArray (n + 1)) news news') (hz : q.length < 1000)
    (h : ∀ h', Fr h₀ L h' m → News h₀ L h' news' → Q y { s with heap := h' }) : wpAny (model prog w) A (call (.builtin "list.pop") [.ref D, .int 0 u]) Q E s :=
  kl_popAt (k := 0) (p := []) (q := q) (y := y) F N rfl (by simp [seqIndex?]) rfl U (by show q.length + 1 ≤ sizeLine; rw [sizeLine_eq]; omega) h
local macro_rules | `(tactic| walk_at "call builtin:list.pop") => `(tactic| (k_here; k_dflt (refine' pop0 ?F ?N ?U ?z ?_; (case F => k_asm); (case N => k_asm); (case U => k_upd); (case z => omega)); kl_rest))

theorem take_spec {w : World} {mean : ExcName → Option Value} {mg mb : Str → Option Value} {box inner : Addr} {ob oi : Obj} {wide : Int} {t : Tok}
    (hb : BoxOk inner ob oi) (hne : @Ne Nat box inner) (hw : 0 < wide) (hw2 : wide < 1000) :
    Spec w mean mg mb 172 [.ref box, .int wide t] 3 (fun _ => True) [(box, ob), (inner, oi)]
      (fun _ r foot' => ∃ k tk ob' oi', r = .int k tk ∧ 0 ≤ k ∧ k < wide ∧ foot' = [(box, ob'), (inner, oi')] ∧ BoxOk inner ob' oi') := by
  obtain ⟨vs, ns, seed, ts, n, n', rfl, rfl, hI, h0, h1, hlen⟩ := hb
  rintro dp un gd base outer A₀ g ⟨hp0, gn0, dr0, tk0, os0⟩ R B X T _ O hdp hun hret
  refine' enterC (binds := [(Str.ofString "box", .ref box), (Str.ofString "wide", .int wide t)]) B rfl O X (Top.nolimit T) ?k6 ?k7 ?k8 ?k9 ?kB ?_ ?c2 ?c3 ?c4 ?c5
  case k6 => k_is
  case k7 => k_is
  case k8 => ktr_room
  case k9 => exact BindsTo.of_eq rfl
  case kB => exact locs rfl
  case c2 => exact rfl
  case c3 => exact rfl
  case c4 => exact rfl
  case c5 => decide
  intro L' h₁ F' N' B' hlt
  k_lt hlt
  (try dsimp only)
  (try k_fold)
  cases hI with
  | nil =>
    k_steps
    dsimp only
    refine hret _ _ _ _ (Own.of (by assumption) (by assumption) (fun _ h => h)) ⟨_, _, _, _, rfl, Int.fmod_nonneg_of_pos _ hw, Int.fmod_lt_of_pos _ hw, rfl, [], [], _, _, _, _, rfl, rfl, .nil, Int.fmod_nonneg_of_pos _ (by decide), Int.fmod_lt_of_pos _ (by decide), by decide⟩
  | cons i ti hI =>
    have hvl := hI.length
    simp only [List.length_cons] at hlen
    k_steps
    dsimp only
    refine hret _ _ _ _ (Own.of (by assumption) (by assumption) (fun _ h => h)) ⟨_, _, _, _, rfl, Int.fmod_nonneg_of_pos _ hw, Int.fmod_lt_of_pos _ hw, rfl, _, _, _, _, _, _, rfl, rfl, hI, h0, h1, by omega⟩

section
variable {w : World} {mean : ExcName → Option Value} {mg mb : Str → Option Value} {dp un : Nat} {gd : Option (List Code)} {cn : Str} {cs : Scope} {a : Addr} {ccd : Value} {cl : List (Str × Addr)} {outer : List Env} {A₀ : Around} {base h₀ : Heap} {L : Addr} {m : Str → Option Value} {news rest : List (Addr × Obj)}
  {h : Heap} {gens : Array GenState} {drawn : Drawn} {tk : Nat} {os : OsState} {Q E : Value → Shared → Prop}
/-- a promise's use, its parts as arguments -/
theorem takeUse {box inner : Addr} {ob oi : Obj} {wide : Int} {t : Tok} (hb : BoxOk inner ob oi) (hne : @Ne Nat box inner) (hw : 0 < wide) (hw2 : wide < 1000) (B : Below A₀ base outer h₀) (F : Fr h₀ L h m) (X : (Mine.hd.heap_1 w.params).In h₀) (T : Top VW (looseW VW []) mean mg mb h₀) (N : News h₀ L h news) (hk : cs.kind = .function)
    (hs : Sel [(box, ob), (inner, oi)] news rest) (hd : ∀ p ∈ rest, ∀ q ∈ [(box, ob), (inner, oi)], p.1 ≠ q.1) (hdp : dp + 3 < recursionLimit) (hun : un + 8 * 3 < cLine)
    (ret : ∀ (k : Int) t' ob' oi' h' tk', 0 ≤ k → k < wide → BoxOk inner ob' oi' → Fr h₀ L h' m → News h₀ L h' ((box, ob') :: (inner, oi') :: rest) → Q (.int k t') ⟨h', gens, drawn, tk', os⟩) :
    wpAny (model PG w) (ktrTop dp un gd cn cs L a ccd cl outer) (call (.ref 172) [.ref box, .int wide t]) Q E ⟨h, gens, drawn, tk, os⟩ := by
  refine Spec.use (take_spec hb hne hw hw2) B F X T N hk hs hd (fun _ _ _ => trivial) hdp hun fun r f h' tk' F' N' _ P => ?_
  obtain ⟨k, t', ob', oi', rfl, h0, h1, rfl, hB⟩ := P
  exact ret k t' ob' oi' h' tk' h0 h1 hB F' N'
theorem takeUseN {box inner : Addr} {ob oi : Obj} {wide : Int} {t : Tok} (hb : BoxOk inner ob oi) (hne : @Ne Nat box inner) (hw : 0 < wide) (hw2 : wide < 1000) (B : Below A₀ base outer h₀) (F : Fr h₀ L h m) (X : (Mine.hd.heap_1 w.params).In h₀) (T : Top VW (looseW VW []) mean mg mb h₀) (N : News h₀ L h news) (hk : cs.kind = .function)
    (hs : Sel [(box, ob), (inner, oi)] news rest) (hd : ∀ p ∈ rest, ∀ q ∈ [(box, ob), (inner, oi)], p.1 ≠ q.1) (hdp : dp + 3 < recursionLimit) (hun : un + 8 * 3 < cLine)
    (ret : ∀ (k : Nat) t' ob' oi' h' tk', (k : Int) < wide → BoxOk inner ob' oi' → Fr h₀ L h' m → News h₀ L h' ((box, ob') :: (inner, oi') :: rest) → Q (.int (k : Nat) t') ⟨h', gens, drawn, tk', os⟩) :
    wpAny (model PG w) (ktrTop dp un gd cn cs L a ccd cl outer) (call (.ref 172) [.ref box, .int wide t]) Q E ⟨h, gens, drawn, tk, os⟩ := by
  refine takeUse hb hne hw hw2 B F X T N hk hs hd hdp hun fun k t' ob' oi' h' tk' h0 h1 hB F' N' => ?_
  obtain ⟨k, rfl⟩ := Int.eq_ofNat_of_zero_le h0
  exact ret k t' ob' oi' h' tk' h1 hB F' N'
end
end Mine
end
section
open PySem PySem.Calls PySem.W PyProof.Rows
set_option maxHeartbeats 4000000
namespace Mine
local macro_rules | `(tactic| walk_at "Never0") => `(tactic| fail)
local macro_rules | `(tactic| walk_at "Never1") => `(tactic| fail)
theorem rstReady : True := by
  w_top off
  k_with_none
  trivial

theorem fillIt2 : PySem.Challenge.rw_no0070_01 = PySem.Challenge.rw_no0070_01 ∧ Mine.hd.heap_1 = Mine.hd.heap_1 := by
  k_fill
  exact ⟨rfl, rfl⟩

/-- the keys of the dict of what has come -/
def Hv (kvs : List (Int × Value)) (k : Int) : Prop := (valueAt kvs k).isSome = true

local macro_rules | `(tactic| walk_at "compareOp In int ref") => `(tactic| (k_here; k_dflt (refine kda_in (knd := PySem.intKind _ _) (by k_asm) (by k_mem) (by k_asm) (by k_asm) (intKind_is _ _ _ _) _ rfl ?_)))

theorem ready_spec {w : World} {mean : ExcName → Option Value} {mg mb : Str → Option Value} {hv : Addr} {ohv : Obj} {kvs : List (Int × Value)} {a M : Int} {t : Tok}
    (hd : ohv.IsDictOf (PySem.intKind PG w) kvs) (lo : (hv == sysModules) = false) (hM : ∀ k, Hv kvs k → k < M) :
    Spec w mean mg mb 186 [.ref hv, .int a t] 3 (fun _ => True) [(hv, ohv)]
      (fun _ r foot' => ∃ n tk, r = .int n tk ∧ 0 ≤ n ∧ (∀ i, 0 ≤ i → i < n → Hv kvs (a + i)) ∧ ¬ Hv kvs (a + n) ∧ foot' = [(hv, ohv)]) := by
  rintro dp un gd base outer A₀ g ⟨hp0, gn0, dr0, tk0, os0⟩ R B X T _ O hdp hun hret
  refine' enterC (binds := [(Str.ofString "have", .ref hv), (Str.ofString "at", .int a t)]) B rfl O X (Top.nolimit T) ?k6 ?k7 ?k8 ?k9 ?kB ?_ ?c2 ?c3 ?c4 ?c5
  case k6 => k_is
  case k7 => k_is
  case k8 => ktr_room
  case k9 => exact BindsTo.of_eq rfl
  case kB => exact locs rfl
  case c2 => exact rfl
  case c3 => exact rfl
  case c4 => exact rfl
  case c5 => decide
  intro L' h₁ F' N' B' hlt
  k_lt hlt
  (try dsimp only)
  (try k_fold)
  k_steps
  case K => exact max 0 (M - a)
  case stop =>
    refine ⟨Int.le_max_left _ _, ?_⟩
    show (valueAt kvs (a + max 0 (M - a))).isSome = false
    cases e : (valueAt kvs (a + max 0 (M - a))).isSome with
    | false => rfl
    | true => have := hM _ e; omega
  dsimp only
  refine hret _ _ _ _ (Own.of (by assumption) (by assumption) (fun _ h => h)) ⟨_, _, rfl, by assumption, by assumption, ?_, rfl⟩
  unfold Hv
  rw [Bool.not_eq_true]
  assumption

section
variable {w : World} {mean : ExcName → Option Value} {mg mb : Str → Option Value} {dp un : Nat} {gd : Option (List Code)} {cn : Str} {cs : Scope} {a : Addr} {ccd : Value} {cl : List (Str × Addr)} {outer : List Env} {A₀ : Around} {base h₀ : Heap} {L : Addr} {m : Str → Option Value} {news rest : List (Addr × Obj)}
  {h : Heap} {gens : Array GenState} {drawn : Drawn} {tk : Nat} {os : OsState} {Q E : Value → Shared → Prop}
theorem readyUse {hv : Addr} {ohv : Obj} {kvs : List (Int × Value)} {at_ M : Int} {t : Tok} (hdd : ohv.IsDictOf (PySem.intKind PG w) kvs) (lo : (hv == sysModules) = false) (hM : ∀ k, Hv kvs k → k < M) (B : Below A₀ base outer h₀) (F : Fr h₀ L h m) (X : (Mine.hd.heap_1 w.params).In h₀) (T : Top VW (looseW VW []) mean mg mb h₀) (N : News h₀ L h news) (hk : cs.kind = .function)
    (hs : Sel [(hv, ohv)] news rest) (hd : ∀ p ∈ rest, ∀ q ∈ [(hv, ohv)], p.1 ≠ q.1) (hdp : dp + 3 < recursionLimit) (hun : un + 8 * 3 < cLine)
    (ret : ∀ (k : Nat) t' h' tk', (∀ i : Int, 0 ≤ i → i < k → Hv kvs (at_ + i)) → ¬ Hv kvs (at_ + (k : Nat)) → Fr h₀ L h' m → News h₀ L h' ((hv, ohv) :: rest) → Q (.int (k : Nat) t') ⟨h', gens, drawn, tk', os⟩) :
    wpAny (model PG w) (ktrTop dp un gd cn cs L a ccd cl outer) (call (.ref 186) [.ref hv, .int at_ t]) Q E ⟨h, gens, drawn, tk, os⟩ := by
  refine Spec.use (ready_spec hdd lo hM) B F X T N hk hs hd (fun _ _ _ => trivial) hdp hun fun r f h' tk' F' N' _ P => ?_
  obtain ⟨k, t', rfl, h0, h1, h2, rfl⟩ := P
  obtain ⟨k, rfl⟩ := Int.eq_ofNat_of_zero_le h0
  exact ret k t' h' tk' h1 h2 F' N'
end
end Mine
end
section
local macro_rules | `(tactic| walk_at "Rem") => `(tactic| first | exact Rem.head | (refine' Rem.tail ?r0; (case r0 => walk_at "Rem")))
local macro_rules | `(tactic| walk_at "Sel") => `(tactic| first | exact Sel.nil | (refine' Sel.cons ?r1 ?r2; (case r1 => walk_at "Rem"); (case r2 => walk_at "Sel")) | exact Sel.whole | (refine' Sel.skip ?r3; (case r3 => walk_at "Sel")))
local macro_rules | `(tactic| walk_at "Apart") => `(tactic| first | exact List.forall_mem_nil _ | (refine' List.forall_mem_cons.mpr ⟨?p1, ?p2⟩; (case p1 => ((try dsimp only); k_all)); (case p2 => walk_at "Apart")))
local macro_rules | `(tactic| walk_at "Same") => `(tactic| (intro z h1 h2 h3; (try simp only [List.forall_mem_cons, List.not_mem_nil, false_implies, implies_true, and_true, ne_eq] at h2); (try simp only [List.contains_cons, List.contains_nil, Bool.or_false, Bool.or_eq_false_iff, beq_eq_false_iff_ne, ne_eq] at h3); first | (simp only [kstB]; simp [h1, h2, h3]; done) | (simp [kstB, h1, h2, h3]; done)))
local macro_rules | `(tactic| walk_at "Pre") => `(tactic| exact fun _ _ _ => trivial)
section
open PySem PySem.Calls PySem.W PyProof.Rows
set_option maxHeartbeats 4000000
namespace Mine
theorem rstWord : True := by
  w_top off
  k_with_none
  trivial
theorem fillIt3 : PySem.Challenge.rw_no0070_01 = PySem.Challenge.rw_no0070_01 ∧ Mine.hd.heap_1 = Mine.hd.heap_1 := by
  k_fill
  exact ⟨rfl, rfl⟩

/-- the dict of the law -/
inductive HereOk (w : World) (hv : Addr) (lim r H : Int) (fin : Bool) (n : Int) (told : Bool) (oh : Obj) : Prop
  | mk (t1 t2 t3 t4 : Tok) (h : oh.IsDictOf (PySem.strKind PG w) [(Str.ofString "limit", .int lim t1), (Str.ofString "have", .ref hv), (Str.ofString "read", .int r t2), (Str.ofString "highest", .int H t3), (Str.ofString "end", if fin then .int n t4 else .none), (Str.ofString "told", .bool told)]) : HereOk w hv lim r H fin n told oh
def wordS (fin e told b : Bool) : Str := if fin then (if e && told then Str.ofString "data_read" else if b then Str.ofString "data_recvd" else Str.ofString "size_known") else Str.ofString "recv"
def AllHv (kvs : List (Int × Value)) (r n : Int) : Prop := ∀ k, r ≤ k → k < n → Hv kvs k

theorem allHv_iff {kvs : List (Int × Value)} {r n m : Int} (hM : ∀ k, Hv kvs k → k < n) (hr : r ≤ n) (h0 : 0 ≤ m) (h1 : ∀ i, 0 ≤ i → i < m → Hv kvs (r + i)) (h2 : ¬ Hv kvs (r + m)) : AllHv kvs r n ↔ m = n - r := by
  constructor
  · intro h
    have a1 : ¬ (m < n - r) := fun q => h2 (h _ (by omega) (by omega))
    have a2 : ¬ (n - r < m) := fun q => by
      have q1 := hM _ (h1 (n - r) (by omega) q)
      omega
    omega
  · intro h k hk1 hk2
    have q := h1 (k - r) (by omega) (by omega)
    have e : r + (k - r) = k := by omega
    rwa [e] at q

local macro_rules | `(tactic| walk_at "call ref") => `(tactic| (k_here; k_dflt (refine' Spec.use (ready_spec (M := ?uM) ?a1 ?a2 ?a3) ?uB ?uF ?uX ?uT ?uN ?uk ?us ?ud ?uP ?uh ?uu ?_; (case uB => k_asm); (case uF => k_asm); (case uX => k_asm); (case uT => k_asm); (case uN => k_asm); (case uk => first | exact rfl | assumption); (case us => walk_at "Sel"); (case a1 => assumption); (case a2 => assumption); (case a3 => assumption); (case ud => walk_at "Apart"); (case uP => walk_at "Pre"); (case uh => ktr_room); (case uu => ktr_units); k_whole); (rintro r9 f9 h9 tk9 F9 N9 x9 ⟨n9, t9, eq0, p1, p2, p3, eq1⟩); (subst eq0); (subst eq1); (try simp only [List.cons_append, List.nil_append] at N9); (try k_sweep); (try dsimp only); (try k_fold)))

theorem word_spec {w : World} {mean : ExcName → Option Value} {mg mb : Str → Option Value} {hd hv : Addr} {oh ohv : Obj} {kvs : List (Int × Value)} {lim r H n : Int} {fin told : Bool} {t : Tok}
    (hh : HereOk w hv lim r H fin n told oh) (hd' : ohv.IsDictOf (PySem.intKind PG w) kvs) (lo : (hv == sysModules) = false) (hM : ∀ k, Hv kvs k → k < n) (hr : r ≤ n) (hne : @Ne Nat hd hv) :
    Spec w mean mg mb 193 [.ref hd, .int n t] 5 (fun _ => True) [(hd, oh), (hv, ohv)]
      (fun _ v foot' => ∃ b tk, (b = true ↔ AllHv kvs r n) ∧ v = .str (wordS fin (decide (r = n)) told b) tk ∧ foot' = [(hd, oh), (hv, ohv)]) := by
  obtain ⟨t1, t2, t3, t4, hI⟩ := hh

  rintro dp un gd base outer A₀ g ⟨hp0, gn0, dr0, tk0, os0⟩ R B X T hPre O hdp hun hret
  refine' enterC (binds := [(Str.ofString "here", .ref hd), (Str.ofString "size", .int n t)]) B rfl O X (Top.nolimit T) ?k6 ?k7 ?k8 ?k9 ?kB ?_ ?c2 ?c3 ?c4 ?c5
  case k6 => k_is
  case k7 => k_is
  case k8 => ktr_room
  case k9 => exact BindsTo.of_eq rfl
  case kB => exact locs rfl
  case c2 => exact rfl
  case c3 => exact rfl
  case c4 => exact rfl
  case c5 => decide
  intro L' h₁ F' N' B' hlt
  (try k_lt hlt)
  (try dsimp only)
  (try k_fold)
  cases fin
  all_goals cases told
  all_goals (try simp only [Bool.false_eq_true, if_false, if_true] at hI)
  all_goals k_steps
  all_goals (try dsimp only)
  all_goals first
    | exact hret _ _ _ _ (Own.of (by assumption) (by assumption) (by first | exact fun _ h => h | exact fun _ h => pickM 2 [1, 0] h)) ⟨true, _, ⟨fun _ => (allHv_iff hM hr (by assumption) (by assumption) (by assumption)).mpr (by assumption), fun _ => rfl⟩, congrArg (Value.str · _) (by simp [wordS, *]), rfl⟩
    | exact hret _ _ _ _ (Own.of (by assumption) (by assumption) (by first | exact fun _ h => h | exact fun _ h => pickM 2 [1, 0] h)) ⟨false, _, ⟨fun q => (nomatch q), fun q => absurd ((allHv_iff hM hr (by assumption) (by assumption) (by assumption)).mp q) (by assumption)⟩, congrArg (Value.str · _) (by simp [wordS, *]), rfl⟩
    | (classical exact hret _ _ _ _ (Own.of (by assumption) (by assumption) (by first | exact fun _ h => h | exact fun _ h => pickM 2 [1, 0] h)) ⟨decide (AllHv kvs r n), _, decide_eq_true_iff, congrArg (Value.str · _) (by simp [wordS, *]), rfl⟩)

section
variable {w : World} {mean : ExcName → Option Value} {mg mb : Str → Option Value} {dp un : Nat} {gd : Option (List Code)} {cn : Str} {cs : Scope} {a : Addr} {ccd : Value} {cl : List (Str × Addr)} {outer : List Env} {A₀ : Around} {base h₀ : Heap} {L : Addr} {m : Str → Option Value} {news rest : List (Addr × Obj)}
  {h : Heap} {gens : Array GenState} {drawn : Drawn} {tk : Nat} {os : OsState} {Q E : Value → Shared → Prop}
theorem wordUse {hd hv : Addr} {oh ohv : Obj} {kvs : List (Int × Value)} {lim r H n : Int} {fin told : Bool} {t : Tok} (hh : HereOk w hv lim r H fin n told oh) (hdd : ohv.IsDictOf (PySem.intKind PG w) kvs) (lo : (hv == sysModules) = false) (hM : ∀ k, Hv kvs k → k < n) (hr : r ≤ n) (hne : @Ne Nat hd hv) (B : Below A₀ base outer h₀) (F : Fr h₀ L h m) (X : (Mine.hd.heap_1 w.params).In h₀) (T : Top VW (looseW VW []) mean mg mb h₀) (N : News h₀ L h news) (hk : cs.kind = .function)
    (hs : Sel [(hd, oh), (hv, ohv)] news rest) (hd' : ∀ p ∈ rest, ∀ q ∈ [(hd, oh), (hv, ohv)], p.1 ≠ q.1) (hdp : dp + 5 < recursionLimit) (hun : un + 8 * 5 < cLine)
    (ret : ∀ (b : Bool) t' h' tk', (b = true ↔ AllHv kvs r n) → Fr h₀ L h' m → News h₀ L h' ((hd, oh) :: (hv, ohv) :: rest) → Q (.str (wordS fin (decide (r = n)) told b) t') ⟨h', gens, drawn, tk', os⟩) :
    wpAny (model PG w) (ktrTop dp un gd cn cs L a ccd cl outer) (call (.ref 193) [.ref hd, .int n t]) Q E ⟨h, gens, drawn, tk, os⟩ := by
  refine Spec.use (word_spec hh hdd lo hM hr hne) B F X T N hk hs hd' (fun _ _ _ => trivial) hdp hun fun r f h' tk' F' N' _ P => ?_
  obtain ⟨b, t', hb, rfl, rfl⟩ := P
  exact ret b t' h' tk' hb F' N'
end
end Mine
end
section
open PySem PySem.Calls PySem.W PyProof.Rows
set_option maxHeartbeats 4000000
namespace Mine
theorem rstBox : True := by
  w_top off
  k_with_none
  trivial
theorem fillIt17 : PySem.Challenge.rw_no0070_01 = PySem.Challenge.rw_no0070_01 ∧ Mine.hd.heap_1 = Mine.hd.heap_1 := by
  k_fill
  exact ⟨rfl, rfl⟩

theorem sub2 {α : Type} {a b : α} {l : List α} : ∀ p ∈ [a, b], p ∈ a :: b :: l := fun p hp => by
  rcases List.mem_cons.mp hp with rfl | hp
  · exact .head _
  · rw [List.mem_singleton] at hp
    subst hp
    exact .tail _ (.head _)
theorem box_spec {w : World} {mean : ExcName → Option Value} {mg mb : Str → Option Value} {script : Addr} {vs : List Value} {ns : List Int} {t : Tok} (hI : IntsAre vs ns) (hlen : ns.length ≤ 63) :
    Spec w mean mg mb 165 [.ref script, .int 67 t] 5 (fun g => g.IsList script vs.toArray) []
      (fun _ v foot' => ∃ box inner ob oi, v = .ref box ∧ foot' = [(box, ob), (inner, oi)] ∧ BoxOk inner ob oi ∧ @LT.lt Nat _ inner box) := by

  rintro dp un gd base outer A₀ g ⟨hp0, gn0, dr0, tk0, os0⟩ R B X T hPre O hdp hun hret
  refine' enterC (binds := [(Str.ofString "script", .ref script), (Str.ofString "seed_here", .int 67 t)]) B rfl O X (Top.nolimit T) ?k6 ?k7 ?k8 ?k9 ?kB ?_ ?c2 ?c3 ?c4 ?c5
  case k6 => k_is
  case k7 => k_is
  case k8 => ktr_room
  case k9 => exact BindsTo.of_eq rfl
  case kB => exact locs rfl
  case c2 => exact rfl
  case c3 => exact rfl
  case c4 => exact rfl
  case c5 => decide
  intro L' h₁ F' N' B' hlt
  (try k_lt hlt)
  (try dsimp only)
  (try k_fold)
  k_with "pyIter ref" => k_state (fun (pre : List Int) (seed : Int) => 0 ≤ seed ∧ seed < 2147483647) "seed_here"
  k_steps
  have hlt9 : (List.take 40 ns).length ≤ 64 := by rw [List.length_take]; omega
  refine hret _ _ _ _ (Own.of (by assumption) (by assumption) sub2) ⟨_, _, _, _, rfl, rfl, ⟨_, List.take 40 ns, _, _, _, _, rfl, rfl, by assumption, by assumption, by assumption, hlt9⟩, ?_⟩
  show @LT.lt Nat _ _ _
  omega

section
variable {w : World} {mean : ExcName → Option Value} {mg mb : Str → Option Value} {dp un : Nat} {gd : Option (List Code)} {cn : Str} {cs : Scope} {a : Addr} {ccd : Value} {cl : List (Str × Addr)} {outer : List Env} {A₀ : Around} {base h₀ : Heap} {L : Addr} {m : Str → Option Value} {news rest : List (Addr × Obj)}
  {h : Heap} {gens : Array GenState} {drawn : Drawn} {tk : Nat} {os : OsState} {Q E : Value → Shared → Prop}
theorem boxUse {script : Addr} {vs : List Value} {ns : List Int} {t : Tok} (hI : IntsAre vs ns) (hlen : ns.length ≤ 63) (hl : h₀.IsList script vs.toArray) (B : Below A₀ base outer h₀) (F : Fr h₀ L h m) (X : (Mine.hd.heap_1 w.params).In h₀) (T : Top VW (looseW VW []) mean mg mb h₀) (N : News h₀ L h news) (hk : cs.kind = .function)
    (hdp : dp + 5 < recursionLimit) (hun : un + 8 * 5 < cLine)
    (ret : ∀ box inner ob oi h' tk', BoxOk inner ob oi → @LT.lt Nat _ inner box → (∀ q ∈ news, box ≠ q.1) → (∀ q ∈ news, inner ≠ q.1) → Fr h₀ L h' m → News h₀ L h' ((box, ob) :: (inner, oi) :: news) → Q (.ref box) ⟨h', gens, drawn, tk', os⟩) :
    wpAny (model PG w) (ktrTop dp un gd cn cs L a ccd cl outer) (call (.ref 165) [.ref script, .int 67 t]) Q E ⟨h, gens, drawn, tk, os⟩ := by
  refine Spec.use (foot := []) (box_spec hI hlen) B F X T N hk Sel.nil (fun _ _ _ h => (nomatch h)) (fun g hk9 _ => Heap.IsList.at hl fun o e => hk9 _ o e) hdp hun fun r f h' tk' F' N' x P => ?_
  obtain ⟨box, inner, ob, oi, rfl, rfl, hB, hlt⟩ := P
  exact ret box inner ob oi h' tk' hB hlt (x _ (.head _)) (x _ (.tail _ (.head _))) F' N'
end
end Mine
end
section
open PySem PySem.Calls PySem.W PyProof.Rows
namespace Mine
local macro_rules | `(tactic| walk_at "Never0") => `(tactic| fail)
theorem rstDraw : True := by
  w_top off
  k_with_none
  trivial
section
variable {prog : Program} {w : World} {A : Around} {E : Value → Shared → Prop} {s : Shared} {h₀ : Heap} {L : Addr} {m : Str → Option Value} {env : Env} {elt : Expr} {x : Str} {scope : Scope} {cl : List (Str × Addr)} {S : List (Addr × Obj) → Prop} {P : Nat → Value → Prop} {Fin : List Value → List (Addr × Obj) → Prop}
theorem compU_ind (Inv : Nat → List Value → List (Addr × Obj) → Prop) (n : Nat) (fin : ∀ ys news, Inv n ys news → Fin ys news)
    (step : ∀ i ys news, i < n → Inv i ys news → ∀ v I oI C oC D m₂ h tk (E' : Value → Shared → Prop), P i v → LCg.NsObj oC m₂ → m₂ x = some v → Fr h₀ L h m → News h₀ L h ((I, oI) :: (C, oC) :: (D, LCg.lst ys) :: news) → LCg.Off3 I C D news → ((@Ne Nat I C) ∧ (@Ne Nat I D) ∧ (@Ne Nat C D)) →
      wpAny (model prog w) A (eval elt (compEnvC scope cl C env)) (LCg.CompEnd h₀ L m { s with heap := h, toks := tk } I oI C oC D (LCg.lst ys) S (fun y news' => Inv (i + 1) (ys ++ [y]) news')) E' { s with heap := h, toks := tk }) :
    ∀ k i ys news, i + k = n → Inv i ys news → LCg.CompRest prog w A h₀ L m env elt x scope cl s S P Fin k i ys news := by
  intro k
  induction k with
  | zero => intro i ys news e hi; subst e; exact fin ys news hi
  | succ k ih =>
    intro i ys news e hi
    refine LCg.CompRest.succ fun v I oI C oC D m₂ h tk E' a1 a2 a3 a4 a5 a6 a7 => ?_
    refine wpAny_mono (step i ys news (by omega) hi v I oI C oC D m₂ h tk E' a1 a2 a3 a4 a5 a6 a7) (fun y s₂ hc => ?_) fun _ _ z => z
    obtain ⟨h', tk', news', r1, r2, r3, r4, r5, r6⟩ := hc
    exact ⟨h', tk', news', r1, r2, r3, r4, r5, ih (i + 1) _ _ (by omega) r6⟩

theorem ints_snoc {ys : List Value} {ns : List Int} {n : Int} {t : Tok} (h : IntsAre ys ns) : IntsAre (ys ++ [.int n t]) (ns ++ [n]) := by
  induction h with
  | nil => exact .cons n t .nil
  | cons a b _ ih => exact .cons a b ih

theorem compDraw {r box inner c : Addr} {ob oi o' : Obj} {k : Int} {t₁ u₁ v₁ : Tok} {Q : Value → Shared → Prop} (hh : A.handled = none) (F : Fr h₀ L s.heap m) (N : News h₀ L s.heap [(box, ob), (inner, oi), (c, o')]) (hB : BoxOk inner ob oi) (hR : IsRange s.heap r 0 k 1 t₁ u₁ v₁) (hk0 : 0 ≤ k) (hk : k < 14)
    (turn : ∀ ob oi v I oI C oC D ys m₂ h tk (E' : Value → Shared → Prop), BoxOk inner ob oi → LCg.NsObj oC m₂ → m₂ x = some v → Fr h₀ L h m → News h₀ L h [(I, oI), (C, oC), (D, LCg.lst ys), (box, ob), (inner, oi), (c, o')] → LCg.Off3 I C D [(box, ob), (inner, oi), (c, o')] → ((@Ne Nat I C) ∧ (@Ne Nat I D) ∧ (@Ne Nat C D)) →
      wpAny (model prog w) A (eval elt (compEnvC scope cl C env)) (LCg.CompEnd h₀ L m { s with heap := h, toks := tk } I oI C oC D (LCg.lst ys) (fun _ => True) (fun y news' => ∃ ob' oi' n t, y = .int n t ∧ 65 ≤ n ∧ n < 91 ∧ news' = [(box, ob'), (inner, oi'), (c, o')] ∧ BoxOk inner ob' oi')) E' { s with heap := h, toks := tk })
    (done : ∀ D h tk ys ns ob oi, Fr h₀ L h m → News h₀ L h [(D, LCg.lst ys), (box, ob), (inner, oi), (c, o')] → @Ne Nat box D → @Ne Nat inner D → @Ne Nat c D → BoxOk inner ob oi → IntsAre ys ns → ns.length ≤ 13 → (∀ a ∈ ns, 65 ≤ a ∧ a < 91) → Q (.ref D) { s with heap := h, toks := tk }) :
    LCg.CompSrc prog w A h₀ L m env elt x scope cl (fun s₂ => LCg.FinE h₀ L m s₂ Q) (.ref r) s := by
  refine LCg.CompSrc.range hh F N hR (small_one (by omega) (by omega) (by omega) (by omega)) (rangeSize_nat _ _) (by rw [sizeLine_eq]; omega) fun g => ?_
  refine compU_ind (fun i ys news => ∃ ob oi ns, news = [(box, ob), (inner, oi), (c, o')] ∧ BoxOk inner ob oi ∧ IntsAre ys ns ∧ ns.length = i ∧ ∀ a ∈ ns, 65 ≤ a ∧ a < 91) (k - 0).toNat ?_ ?_ _ 0 [] _ (by omega) ⟨ob, oi, [], rfl, hB, .nil, rfl, fun _ h => (nomatch h)⟩
  · rintro ys news ⟨ob, oi, ns, rfl, h1, h2, h3, h4⟩
    intro D h tk F' N' off
    exact done D h tk ys ns ob oi F' N' off.1 off.2.1 off.2.2.1 h1 h2 (by omega) h4
  · rintro i ys news hi ⟨ob, oi, ns, rfl, h1, h2, h3, h4⟩ v I oI C oC D m₂ h tk E' - a2 a3 a4 a5 a6 a7
    refine wpAny_mono (turn ob oi v I oI C oC D ys m₂ h tk E' h1 a2 a3 a4 a5 a6 a7) (fun y s₂ hc => ?_) fun _ _ z => z
    obtain ⟨h', tk', news', r1, r2, r3, r4, r5, ob', oi', n, t, rfl, n1, n2, rfl, b'⟩ := hc
    refine ⟨h', tk', _, r1, r2, r3, r4, r5, ob', oi', ns ++ [n], rfl, b', ints_snoc h2, by rw [List.length_append, h3]; rfl, fun a ha => ?_⟩
    rcases List.mem_append.mp ha with ha | ha
    · exact h4 a ha
    · rw [List.mem_singleton] at ha
      subst ha
      exact ⟨n1, n2⟩
end
end Mine
end
section
open PySem PySem.Calls PySem.W PyProof.Rows
set_option maxHeartbeats 4000000
namespace Mine
local macro_rules | `(tactic| walk_at "Never0") => `(tactic| fail)
theorem rstSpan : True := by
  w_top off
  k_with_none
  trivial
theorem fillIt4 : PySem.Challenge.rw_no0070_01 = PySem.Challenge.rw_no0070_01 ∧ Mine.hd.heap_1 = Mine.hd.heap_1 := by
  k_fill
  exact ⟨rfl, rfl⟩

inductive All2 {α β : Type} (R : α → β → Prop) : List α → List β → Prop
  | nil : All2 R [] []
  | cons {a b l l'} : R a b → All2 R l l' → All2 R (a :: l) (b :: l')
theorem All2.length {α β : Type} {R : α → β → Prop} {l : List α} {l' : List β} (h : All2 R l l') : l.length = l'.length := by
  induction h with
  | nil => rfl
  | cons _ _ ih => rw [List.length_cons, List.length_cons, ih]
theorem All2.mono {α β : Type} {R R' : α → β → Prop} {l : List α} {l' : List β} (h : All2 R l l') (hr : ∀ a b, R a b → R' a b) : All2 R' l l' := by
  induction h with
  | nil => exact .nil
  | cons r _ ih => exact .cons (hr _ _ r) ih
/-- a list of pairs of ints, by a look-up -/
def IntTups (lk : Addr → Obj → Prop) (refs : List Value) (ps : List (Int × Int)) : Prop :=
  All2 (fun v sp => ∃ T t t' n, v = .ref T ∧ lk T { cls := .type "tuple", data := .seq #[.int sp.1 t, .int sp.2 t'] n }) refs ps
theorem forall2_at {α β : Type} {R : α → β → Prop} {l : List α} {l' : List β} (h : All2 R l l') : ∀ {i : Nat} {a : α}, l[i]? = some a → ∃ b, l'[i]? = some b ∧ R a b := by
  induction h with
  | nil => intro i a e; simp at e
  | cons r _ ih =>
    intro i a e
    cases i with
    | zero => simp only [List.getElem?_cons_zero, Option.some.injEq] at e; subst e; exact ⟨_, rfl, r⟩
    | succ i => simp only [List.getElem?_cons_succ] at e ⊢; exact ih e

theorem hasSpan_spec {w : World} {mean : ExcName → Option Value} {mg mb : Str → Option Value} {sl : Addr} {refs : List Value} {c : Nat} {ps : List (Int × Int)} {low high : Int} {t u : Tok} :
    Spec w mean mg mb 67 [.ref sl, .int low t, .int high u] 3 (fun g => g.get? sl = some (listOf refs.toArray c) ∧ IntTups (fun a o => g.get? a = some o) refs ps) []
      (fun _ v foot' => v = .bool (decide (high ≤ low) || ps.any fun p => decide (p.1 ≤ low) && decide (high ≤ p.2)) ∧ foot' = []) := by

  rintro dp un gd base outer A₀ g ⟨hp0, gn0, dr0, tk0, os0⟩ R B X T hPre O hdp hun hret
  refine' enterC (binds := [(Str.ofString "spans", .ref sl), (Str.ofString "low", .int low t), (Str.ofString "high", .int high u)]) B rfl O X (Top.nolimit T) ?k6 ?k7 ?k8 ?k9 ?kB ?_ ?c2 ?c3 ?c4 ?c5
  case k6 => k_is
  case k7 => k_is
  case k8 => ktr_room
  case k9 => exact BindsTo.of_eq rfl
  case kB => exact locs rfl
  case c2 => exact rfl
  case c3 => exact rfl
  case c4 => exact rfl
  case c5 => decide
  intro L' h₁ F' N' B' hlt
  (try k_lt hlt)
  (try dsimp only)
  (try k_fold)
  obtain ⟨hl, hps⟩ := hPre
  k_steps
  · dsimp only
    refine hret _ _ _ _ (Own.of (by assumption) (by assumption) (fun _ h => h)) ⟨congrArg Value.bool ?_, rfl⟩
    rw [decide_eq_true (by omega), Bool.true_or]
  · refine ForPairS (σ := Unit) (P := fun i v0 v1 => ∃ a b t t', ps[i]? = some (a, b) ∧ v0 = .int a t ∧ v1 = .int b t') (fun _ => []) (fun _ => []) [Str.ofString "other"]
      (fun i _ => ∀ (j : Nat) p, j < i → ps[j]? = some p → ¬ (p.1 ≤ low ∧ high ≤ p.2)) () rfl rfl rfl rfl rfl (by decide) rfl rfl hl ?hit F' (by assumption) (List.forall_mem_nil _) (fun j p hj => absurd hj (Nat.not_lt_zero _)) ?turn ?done
    case hit =>
      intro i v hv
      obtain ⟨⟨a, b⟩, hp, T, t, t', n, rfl, hT⟩ := forall2_at hps hv
      exact ⟨T, _, _, n, rfl, hT, a, b, t, t', hp, rfl, rfl⟩
    case turn =>
      rintro I - i v0 v1 ⟨⟩ u h tk oI hi ⟨a, b, t1, t2, hp, rfl, rfl⟩ hinv hne F1 N1
      clear F' N'
      k_steps
      all_goals (try dsimp only [PairPost])
      · refine hret _ _ _ _ (Own.of (by assumption) (by assumption) (List.forall_mem_nil _)) ⟨congrArg Value.bool (Eq.symm ?_), rfl⟩
        rw [Bool.or_eq_true]
        exact .inr (List.any_eq_true.mpr ⟨(a, b), List.mem_of_getElem? hp, by (simp only [Bool.and_eq_true, decide_eq_true_eq]; constructor <;> assumption)⟩)
      all_goals
        refine pairEnd () (by assumption) (by assumption) (fun _ h => h) (List.forall_mem_nil _) (List.forall_mem_nil _) (by walk_at "Same") ?_
        intro j p hj hpj hc
        by_cases q : j < i
        · exact hinv j p q hpj hc
        · have e : j = i := by omega
          subst e
          rw [hp] at hpj
          cases hpj
          omega
    case done =>
      rintro ⟨⟩ u h tk hinv F1 N1
      clear F' N'
      k_steps
      all_goals (try dsimp only)
      refine hret _ _ _ _ (Own.of (by assumption) (by assumption) (List.forall_mem_nil _)) ⟨congrArg Value.bool (Eq.symm ?_), rfl⟩
      rw [Bool.or_eq_false_iff]
      refine ⟨decide_eq_false (by omega), List.any_eq_false.mpr fun p hp q => ?_⟩
      obtain ⟨i, hi, e⟩ := List.getElem_of_mem hp
      simp only [Bool.and_eq_true, decide_eq_true_eq] at q
      exact hinv i p (by rw [hps.length]; exact hi) (by rw [List.getElem?_eq_getElem hi, e]) q
end Mine
end
section
open PySem PySem.Calls PySem.W PyProof.Rows
namespace Mine
theorem rstSeg : True := by
  w_top off
  k_with_none
  trivial
/-- octets from one place up to another -/
def seg (oc : List UInt8) (a b : Nat) : Array UInt8 := ((oc.drop a).take (b - a)).toArray
/-- a list of pieces, by a look-up: (start, the octets) -/
def Pcs (oc : List UInt8) (lk : Addr → Obj → Prop) (refs : List Value) (ps : List (Nat × Nat)) : Prop :=
  All2 (fun v sp => ∃ T t t' n, v = .ref T ∧ lk T { cls := .type "tuple", data := .seq #[.int (sp.1 : Nat) t, .bytes (seg oc sp.1 sp.2) t'] n }) refs ps
def InB (oc : List UInt8) (ps : List (Nat × Nat)) : Prop := ∀ p ∈ ps, p.1 < p.2 ∧ p.2 ≤ oc.length
theorem seg_size (oc : List UInt8) (a b : Nat) : (seg oc a b).size = min (b - a) (oc.length - a) := by
  unfold seg
  rw [List.size_toArray, List.length_take, List.length_drop]
theorem seg_empty (oc : List UInt8) {a b : Nat} (h : b ≤ a) : seg oc a b = #[] := by
  unfold seg
  rw [Nat.sub_eq_zero_of_le h, List.take_zero]
theorem seg_le (oc : List UInt8) (a b : Nat) : (seg oc a b).size ≤ oc.length := by
  rw [seg_size]
  exact Nat.le_trans (Nat.min_le_right _ _) (Nat.sub_le _ _)
theorem seg_len (oc : List UInt8) {a b : Nat} (hb : b ≤ oc.length) : (seg oc a b).size = b - a := by
  rw [seg_size]
  exact Nat.min_eq_left (Nat.sub_le_sub_right hb a)
theorem seg_append (oc : List UInt8) {a b c : Nat} (h1 : a ≤ b) (h2 : b ≤ c) (h3 : b ≤ oc.length) : seg oc a b ++ seg oc b c = seg oc a c := by
  unfold seg
  rw [List.append_toArray]
  congr 1
  have e2 : oc.drop b = (oc.drop a).drop (b - a) := by rw [List.drop_drop, Nat.add_sub_of_le h1]
  rw [← Nat.sub_add_sub_cancel h2 h1, Nat.add_comm, e2, List.take_add]

theorem clip_pos {n : Nat} {i : Int} (h : 0 ≤ i) : clipAt n i = min i.toNat n := by
  unfold clipAt
  rw [if_neg (Int.not_lt.mpr h)]
  obtain ⟨k, rfl⟩ := Int.eq_ofNat_of_zero_le h
  show (max (0 : Int) (min (k : Int) (n : Int))).toNat = min k n
  rcases Nat.le_total k n with q | q
  · rw [Int.min_eq_left (Int.ofNat_le.mpr q), Nat.min_eq_left q, Int.max_eq_right h]; rfl
  · rw [Int.min_eq_right (Int.ofNat_le.mpr q), Nat.min_eq_right q, Int.max_eq_right (Int.natCast_nonneg n)]; rfl
theorem min_sub_add {a b j : Nat} : min (a + j) b - a = min j (b - a) := by
  rw [← Nat.sub_min_sub_right, Nat.add_sub_cancel_left]
/-- a cut by a start alone, by an end alone -/
theorem picked_from (oc : List UInt8) {a b : Nat} {i : Int} (h : 0 ≤ i) (hb : b ≤ oc.length) : KBy.picked (seg oc a b) (some i) none = seg oc (a + i.toNat) b := by
  rw [KBc.picked_eq]
  show ((((seg oc a b).toList.drop (clipAt (seg oc a b).size i)).take ((seg oc a b).size - clipAt (seg oc a b).size i))).toArray = _
  rw [clip_pos h, seg_len oc hb]
  unfold seg
  congr 1
  show (((oc.drop a).take (b - a)).drop (min i.toNat (b - a))).take (b - a - min i.toNat (b - a)) = _
  rw [List.drop_take, List.take_take, List.drop_drop, Nat.min_self]
  rcases Nat.le_total i.toNat (b - a) with q | q
  · rw [Nat.min_eq_left q, Nat.sub_sub]
  · rw [Nat.min_eq_right q, Nat.sub_self, Nat.sub_eq_zero_of_le (Nat.sub_le_iff_le_add'.mp q), List.take_zero, List.take_zero]
theorem picked_to (oc : List UInt8) {a b : Nat} {i : Int} (h : 0 ≤ i) (hab : a ≤ b) (hb : b ≤ oc.length) : KBy.picked (seg oc a b) none (some i) = seg oc a (min (a + i.toNat) b) := by
  rw [KBc.picked_eq]
  show ((((seg oc a b).toList.drop 0).take (clipAt (seg oc a b).size i - 0))).toArray = _
  rw [clip_pos h, seg_len oc hb, List.drop_zero, Nat.sub_zero]
  unfold seg
  congr 1
  show ((oc.drop a).take (b - a)).take (min i.toNat (b - a)) = _
  rw [List.take_take, Nat.min_assoc, Nat.min_self, min_sub_add]
theorem picked_both (oc : List UInt8) {a b : Nat} {i j : Int} (hi : 0 ≤ i) (hj : 0 ≤ j) (hab : a ≤ b) (hb : b ≤ oc.length) : KBy.picked (seg oc a b) (some i) (some j) = seg oc (a + i.toNat) (min (a + j.toNat) b) := by
  rw [KBc.picked_eq]
  show ((((seg oc a b).toList.drop (clipAt (seg oc a b).size i)).take (clipAt (seg oc a b).size j - clipAt (seg oc a b).size i))).toArray = _
  rw [clip_pos hi, clip_pos hj, seg_len oc hb]
  unfold seg
  congr 1
  show (((oc.drop a).take (b - a)).drop (min i.toNat (b - a))).take (min j.toNat (b - a) - min i.toNat (b - a)) = _
  rw [List.drop_take, List.take_take, List.drop_drop, Nat.sub_min_sub_right, Nat.min_assoc, Nat.min_self, ← Nat.sub_sub, min_sub_add]
  rcases Nat.le_total i.toNat (b - a) with q | q
  · rw [Nat.min_eq_left q]
  · rw [Nat.min_eq_right q, Nat.sub_eq_zero_of_le (Nat.min_le_right _ _), Nat.sub_eq_zero_of_le (Nat.le_trans (Nat.min_le_right _ _) q), List.take_zero, List.take_zero]

section
variable {prog : Program} {w : World} {A : Around} {E : Value → Shared → Prop} {hh : Heap} {gens : Array GenState} {drawn : Drawn} {tk : Nat} {os : OsState} {h₀ : Heap} {L : Addr} {m : Str → Option Value} {news : List (Addr × Obj)} {oc : List UInt8} {a b : Nat} {t : Tok} {Q : Value → Shared → Prop}
theorem len_seg (hab : a ≤ b) (hb : b ≤ oc.length) (ho : oc.length < 1000) (h : Q (.int ((b : Int) - a) (tk + 1)) ⟨hh, gens, drawn, tk + 1 + 1, os⟩) : wpAny (model prog w) A (call (.builtin "len") [.bytes (seg oc a b) t]) Q E ⟨hh, gens, drawn, tk, os⟩ := by
  refine KBw.len_K rfl (by rw [KBw.ints_length]; exact Nat.le_trans (seg_le oc a b) (Nat.le_trans (Nat.le_of_lt ho) (by decide))) ?_
  have e : (((KBw.bInts (seg oc a b)).length : Nat) : Int) = (b : Int) - a := by rw [KBw.ints_length, seg_len oc hb, Int.ofNat_sub hab]
  rw [e]
  exact h

theorem cut_seg {value slice : PySem.Expr} {l u : Value} {lo hi : Option Int} (hF : Fr h₀ L hh m) (hN : News h₀ L hh news) (hb : b ≤ oc.length) (ho : oc.length < 1000) (hl : IsPart l lo) (hu : IsPart u hi)
    (h : ∀ h' t' k, Fr h₀ L h' m → News h₀ L h' news → Q (.bytes (KBy.picked (seg oc a b) lo hi) t') ⟨h', gens, drawn, k, os⟩)
    (hs : subscripted slice false (.bytes (seg oc a b) t) (.ref hh.objs.size) = operate [.ref hh.objs.size, .bytes (seg oc a b) t] (getItem (.bytes (seg oc a b) t) (.ref hh.objs.size)) := by with_unfolding_all rfl)
    (ht : ∀ r, letTemporaryGo value (.bytes (seg oc a b) t) r = pure () := by intro _; with_unfolding_all rfl) :
    wpAny (model prog w) A (subscriptTail value slice (.bytes (seg oc a b) t) (.ref hh.objs.size)) Q E ⟨hh.push { cls := .type "slice", data := .fields #[l, u, .none] }, gens, drawn, tk, os⟩ :=
  KBc.slice_K (s := ⟨hh, gens, drawn, tk, os⟩) hF hN rfl hl hu (by rw [KBw.ints_length]; exact Nat.le_trans (seg_le oc a b) (Nat.le_trans (Nat.le_of_lt ho) (by decide))) (fun h' t' k F' N' _ => h h' t' k F' N') hs ht
theorem cut_from {value slice : PySem.Expr} {i : Int} {ti : Tok} (hF : Fr h₀ L hh m) (hN : News h₀ L hh news) (hi : 0 ≤ i) (hb : b ≤ oc.length) (ho : oc.length < 1000)
    (h : ∀ h' t' k, Fr h₀ L h' m → News h₀ L h' news → Q (.bytes (seg oc (a + i.toNat) b) t') ⟨h', gens, drawn, k, os⟩)
    (hs : subscripted slice false (.bytes (seg oc a b) t) (.ref hh.objs.size) = operate [.ref hh.objs.size, .bytes (seg oc a b) t] (getItem (.bytes (seg oc a b) t) (.ref hh.objs.size)) := by with_unfolding_all rfl)
    (ht : ∀ r, letTemporaryGo value (.bytes (seg oc a b) t) r = pure () := by intro _; with_unfolding_all rfl) :
    wpAny (model prog w) A (subscriptTail value slice (.bytes (seg oc a b) t) (.ref hh.objs.size)) Q E ⟨hh.push { cls := .type "slice", data := .fields #[.int i ti, .none, .none] }, gens, drawn, tk, os⟩ :=
  cut_seg hF hN hb ho (by constructor) (by constructor) (fun h' t' k F' N' => by rw [picked_from oc hi hb]; exact h h' t' k F' N') hs ht
theorem cut_to {value slice : PySem.Expr} {i : Int} {ti : Tok} (hF : Fr h₀ L hh m) (hN : News h₀ L hh news) (hi : 0 ≤ i) (hab : a ≤ b) (hb : b ≤ oc.length) (ho : oc.length < 1000)
    (h : ∀ h' t' k, Fr h₀ L h' m → News h₀ L h' news → Q (.bytes (seg oc a (min (a + i.toNat) b)) t') ⟨h', gens, drawn, k, os⟩)
    (hs : subscripted slice false (.bytes (seg oc a b) t) (.ref hh.objs.size) = operate [.ref hh.objs.size, .bytes (seg oc a b) t] (getItem (.bytes (seg oc a b) t) (.ref hh.objs.size)) := by with_unfolding_all rfl)
    (ht : ∀ r, letTemporaryGo value (.bytes (seg oc a b) t) r = pure () := by intro _; with_unfolding_all rfl) :
    wpAny (model prog w) A (subscriptTail value slice (.bytes (seg oc a b) t) (.ref hh.objs.size)) Q E ⟨hh.push { cls := .type "slice", data := .fields #[.none, .int i ti, .none] }, gens, drawn, tk, os⟩ :=
  cut_seg hF hN hb ho (by constructor) (by constructor) (fun h' t' k F' N' => by rw [picked_to oc hi hab hb]; exact h h' t' k F' N') hs ht
theorem cut_both {value slice : PySem.Expr} {i j : Int} {ti tj : Tok} (hF : Fr h₀ L hh m) (hN : News h₀ L hh news) (hi : 0 ≤ i) (hj : 0 ≤ j) (hab : a ≤ b) (hb : b ≤ oc.length) (ho : oc.length < 1000)
    (h : ∀ h' t' k, Fr h₀ L h' m → News h₀ L h' news → Q (.bytes (seg oc (a + i.toNat) (min (a + j.toNat) b)) t') ⟨h', gens, drawn, k, os⟩)
    (hs : subscripted slice false (.bytes (seg oc a b) t) (.ref hh.objs.size) = operate [.ref hh.objs.size, .bytes (seg oc a b) t] (getItem (.bytes (seg oc a b) t) (.ref hh.objs.size)) := by with_unfolding_all rfl)
    (ht : ∀ r, letTemporaryGo value (.bytes (seg oc a b) t) r = pure () := by intro _; with_unfolding_all rfl) :
    wpAny (model prog w) A (subscriptTail value slice (.bytes (seg oc a b) t) (.ref hh.objs.size)) Q E ⟨hh.push { cls := .type "slice", data := .fields #[.int i ti, .int j tj, .none] }, gens, drawn, tk, os⟩ :=
  cut_seg hF hN hb ho (by constructor) (by constructor) (fun h' t' k F' N' => by rw [picked_both oc hi hj hab hb]; exact h h' t' k F' N') hs ht
theorem add_raw {b c : Array UInt8} {t u : Tok} (hb : b.size < 3000) (hc : c.size < 3000) (h : ∀ t' k, Q (.bytes (b ++ c) t') ⟨hh, gens, drawn, k, os⟩) : wpAny (model prog w) A (binaryOp .Add (.bytes b t) (.bytes c u)) Q E ⟨hh, gens, drawn, tk, os⟩ :=
  KBy.add_bytes (by omega) h
end
end Mine
end
section
open PySem PySem.Calls PySem.W PyProof.Rows
namespace Mine
theorem rstOct : True := by
  w_top off
  k_with_none
  trivial
theorem seg_whole (oc : List UInt8) : seg oc 0 oc.length = oc.toArray := by
  unfold seg
  rw [List.drop_zero, Nat.sub_zero, List.take_length]
theorem make_oct {prog : Program} {w : World} {A : Around} {E : Value → Shared → Prop} {s : Shared} {h₀ : Heap} {L D : Addr} {m : Str → Option Value} {news : List (Addr × Obj)} {ys : List Value} {ns : List Int} {Q : Value → Shared → Prop} (F : Fr h₀ L s.heap m) (N : News h₀ L s.heap news) (hh : A.handled = none) (hm : (D, LCg.lst ys) ∈ news) (hi : IntsAre ys ns) (hn : ns.length ≤ 13) (hr : ∀ a ∈ ns, 65 ≤ a ∧ a < 91)
    (h : ∀ (oc : List UInt8) h' t' k, oc.length ≤ 13 → Fr h₀ L h' m → News h₀ L h' news → Q (.bytes (seg oc 0 oc.length) t') { s with heap := h', toks := k }) : wpAny (model prog w) A (call (.type "bytes") [.ref D]) Q E s := by
  refine KBa.make_K F N hh ⟨_, (N _ hm).1, rfl, _, rfl⟩ hi (fun a ha => ?_) (by omega) fun h' t' k F' N' _ => ?_
  · have := hr a ha
    exact ⟨by omega, by omega⟩
  · have hl : (byteArr ns).toList.length ≤ 13 := by
      have e : (byteArr ns).toList.length = ns.length := by simp [byteArr]
      omega
    have := h (byteArr ns).toList h' t' k hl F' N'
    rw [seg_whole, Array.toArray_toList] at this
    exact this
end Mine
end
section
open PySem PySem.Calls PySem.W PyProof.Rows
namespace Mine
theorem rstTeq : True := by
  w_top off
  k_with_none
  trivial
section
variable {prog : Program} {w : World} {A : Around} {E : Value → Shared → Prop} {s : Shared}
theorem bytesSame (b : Array UInt8) (t u : Tok) : SeqAt.EqAt A s (.bytes b t) (.bytes b u) true := fun prog w E Q h => by
  unfold eqBool
  refine wpAny_holding ?_
  refine wpAny_ite_split (fun _ => ?_) (fun _ => ?_)
  · exact wpAny_bind (wpAny_rule (wpAny_pure h))
  · refine wpAny_bind (eq_bytes (prog := prog) (w := w) (A := A) (E := E) (s := s) (b := b) (c := b) (t := t) (u := u) ?_)
    rw [beq_self_eq_true]
    exact wpAny_truthy_bool h
theorem tupEq {h₀ : Heap} {L l b : Addr} {news : List (Addr × Obj)} {x y : Array UInt8} {t u : Tok} {n n2 : Nat} {Q : Value → Shared → Prop} (N : News h₀ L s.heap news)
    (ha : (l, ({ cls := .type "tuple", data := .seq #[.bytes x t, .bool true] n } : Obj)) ∈ news) (hb : (b, ({ cls := .type "tuple", data := .seq #[.bytes y u, .bool true] n2 } : Obj)) ∈ news) (hxy : x = y) (hu : A.units < cLine) (h : Q (.bool true) s) :
    wpAny (model prog w) A (compareOp .Eq (.ref l) (.ref b)) Q E s := by
  subst hxy
  refine SeqAt.eq_tupleAt (e := fun _ => true) ⟨_, (N _ ha).1, rfl, _, rfl⟩ ⟨_, (N _ hb).1, rfl, _, rfl⟩ hu (fun j h1 h2 => ?_) h
  match j, h1, h2 with
  | 0, _, _ => exact bytesSame x t u
  | 1, _, _ => exact SeqAt.EqAt.bool_bool true true
end
theorem segNil (oc : List UInt8) (n : Nat) : seg oc n n = #[] := by
  unfold seg
  rw [Nat.sub_self, List.take_zero]
theorem dropDT {h₀ h : Heap} {L : Addr} {D c b i d v T : Addr × Obj} {l : List (Addr × Obj)} (N : News h₀ L h (D :: c :: b :: i :: d :: v :: T :: l)) : News h₀ L h (c :: b :: i :: d :: v :: l) :=
  News.pick N 7 [1, 2, 3, 4, 5]
theorem readAll {r r' n m : Nat} {C : Nat → Prop} (lo : r ≤ r') (hn : r' ≤ n) (hm : n ≤ m) (st : r' < r + m → ¬ (C r' ∨ (r ≤ r' ∧ r' < n))) : r' = n := by
  rcases Nat.lt_or_eq_of_le hn with q | q
  · exact absurd (.inr ⟨lo, q⟩) (st (Nat.lt_of_lt_of_le q (Nat.le_trans hm (Nat.le_add_left _ _))))
  · exact q
end Mine
end
section
local macro_rules | `(tactic| walk_at "call builtin:len") => `(tactic| (k_here; (with_reducible show wpAny _ _ (call (Value.builtin "len") [Value.bytes (seg _ _ _) _]) _ _ _); k_dflt (refine' len_seg ?k1 ?k2 ?k3 ?_; (case k1 => omega); (case k2 => omega); (case k3 => omega))))
local macro_rules | `(tactic| walk_at "subscriptTail") => `(tactic| (k_here; (with_reducible show wpAny _ _ (subscriptTail _ (Expr.Slice _ _ none _) (Value.bytes (seg _ _ _) _) (Value.ref _)) _ _ _); (with_reducible rename Fr _ _ _ _ => F'); (with_reducible rename News _ _ _ _ => N'); (first
  | (refine' cut_from F' N' ?k1 ?k2 ?k3 ?_; (case k1 => omega); (case k2 => omega); (case k3 => omega))
  | (refine' cut_to F' N' ?k1 ?k2 ?k3 ?k4 ?_; (case k1 => omega); (case k2 => omega); (case k3 => omega); (case k4 => omega))
  | (refine' cut_both F' N' ?k1 ?k2 ?k3 ?k4 ?k5 ?_; (case k1 => omega); (case k2 => omega); (case k3 => omega); (case k4 => omega); (case k5 => omega))); (intro h5 t5 k5 F5 N5); (try dsimp only); (try k_sweep)))
section
open PySem PySem.Calls PySem.W PyProof.Rows
set_option maxHeartbeats 4000000
namespace Mine
theorem rstCov : True := by
  w_top off
  k_with_none
  trivial
theorem fillIt5 : PySem.Challenge.rw_no0070_01 = PySem.Challenge.rw_no0070_01 ∧ Mine.hd.heap_1 = Mine.hd.heap_1 := by
  k_fill
  exact ⟨rfl, rfl⟩

section
open LCp LCg
variable {prog : Program} {w : World} {A : Around} {s : Shared} {h₀ : Heap} {L : Addr} {m : Str → Option Value} {env : Env} {elt : Expr} {x x₂ : Str} {scope : Scope} {cl : List (Str × Addr)} {S : List (Addr × Obj) → Prop} {P : Nat → Value → Prop} {Fin : List Value → List (Addr × Obj) → Prop}
theorem compRest_ind (Inv : Nat → List Value → List (Addr × Obj) → Prop) (n : Nat) (fin : ∀ ys news, Inv n ys news → Fin ys news)
    (step : ∀ i ys news, i < n → Inv i ys news → ∀ v, P i v → ∃ (t : Addr) (ot : Obj) (v₁ v₂ : Value) (nt : Nat), v = .ref t ∧ (t, ot) ∈ news ∧ ot.cls = .type "tuple" ∧ ot.data = .seq #[v₁, v₂] nt ∧
      ∀ I oI C oC D m₂ h tk (E' : Value → Shared → Prop), NsObj oC m₂ → m₂ x = some v₁ → m₂ x₂ = some v₂ → Fr h₀ L h m → News h₀ L h ((I, oI) :: (C, oC) :: (D, lst ys) :: news) → Off3 I C D news → ((@Ne Nat I C) ∧ (@Ne Nat I D) ∧ (@Ne Nat C D)) →
      wpAny (model prog w) A (eval elt (compEnvC scope cl C env)) (CompEnd h₀ L m { s with heap := h, toks := tk } I oI C oC D (lst ys) S (fun y news' => Inv (i + 1) (ys ++ [y]) news')) E' { s with heap := h, toks := tk }) :
    ∀ k i ys news, i + k = n → Inv i ys news → CompRestP prog w A h₀ L m env elt x x₂ scope cl s S P Fin k i ys news := by
  intro k
  induction k with
  | zero => intro i ys news e hi; subst e; exact fin ys news hi
  | succ k ih =>
    intro i ys news e hi
    refine CompRestP.succ fun v hv => ?_
    obtain ⟨t, ot, v₁, v₂, nt, e1, e2, e3, e4, h⟩ := step i ys news (by omega) hi v hv
    refine ⟨t, ot, v₁, v₂, nt, e1, e2, e3, e4, fun I oI C oC D m₂ hh tk E' a1 a2 a3 a4 a5 a6 a7 => ?_⟩
    refine wpAny_mono (h I oI C oC D m₂ hh tk E' a1 a2 a3 a4 a5 a6 a7) (fun y s₂ hc => ?_) fun _ _ z => z
    obtain ⟨h', tk', news', r1, r2, r3, r4, r5, r6⟩ := hc
    exact ⟨h', tk', news', r1, r2, r3, r4, r5, ih (i + 1) _ _ (by omega) r6⟩
end
theorem compEnd2 {h₀ : Heap} {L I C D T : Addr} {m : Str → Option Value} {s₁ : Shared} {oI oC oD oT : Obj} {S : List (Addr × Obj) → Prop} {rest : Value → List (Addr × Obj) → Prop} {y : Value} {h' : Heap} {tk : Nat} {news : List (Addr × Obj)}
    (F : Fr h₀ L h' m) (N : News h₀ L h' ((T, oT) :: (I, oI) :: (C, oC) :: (D, oD) :: news)) (n1 : @Ne Nat T I) (n2 : @Ne Nat T C) (n3 : @Ne Nat T D) (off : LCg.Off3 I C D news) (hS : S ((T, oT) :: news)) (r : rest y ((T, oT) :: news)) :
    LCg.CompEnd h₀ L m s₁ I oI C oC D oD S rest y { s₁ with heap := h', toks := tk } :=
  LCg.CompEnd.intro F N ((T, oT) :: news) (fun _ h => pickM 4 [1, 2, 3, 0] h) ⟨⟨n1, n2, n3⟩, off⟩ hS r
theorem All2.snoc {α β : Type} {R : α → β → Prop} {l : List α} {l' : List β} {a : α} {b : β} (h : All2 R l l') (r : R a b) : All2 R (l ++ [a]) (l' ++ [b]) := by
  induction h with
  | nil => exact .cons r .nil
  | cons r' _ ih => exact .cons r' ih
theorem itHead {D : Addr} {a b c : Int} {t t' : Tok} {n : Nat} {news : List (Addr × Obj)} (e : b = c) :
    ∃ T t1 t2 n1, Value.ref D = .ref T ∧ (T, ({ cls := .type "tuple", data := .seq #[.int a t1, .int c t2] n1 } : Obj)) ∈ (D, ({ cls := .type "tuple", data := .seq #[.int a t, .int b t'] n } : Obj)) :: news := by
  subst e
  exact ⟨D, t, t', n, rfl, .head _⟩
theorem take_snoc {α : Type} {l : List α} {i : Nat} {a : α} (h : l[i]? = some a) : l.take (i + 1) = l.take i ++ [a] := by
  rw [List.take_add_one, h]; rfl

def spI (p : Nat × Nat) : Int × Int := ((p.1 : Int), (p.2 : Int))
theorem covered_spec {w : World} {mean : ExcName → Option Value} {mg mb : Str → Option Value} {pl : Addr} {refs : List Value} {c : Nat} {ps : List (Nat × Nat)} {oc : List UInt8} {tl : List (Addr × Obj)}
    (hm : (pl, listOf refs.toArray c) ∈ tl) (hps : Pcs oc (fun a o => (a, o) ∈ tl) refs ps) (hin : InB oc ps) (hoc : oc.length < 1000) (hlen : ps.length < 1000) :
    Spec w mean mg mb 60 [.ref pl] 5 (fun _ => True) tl
      (fun _ v foot' => ∃ sl c' refs', v = .ref sl ∧ (sl, listOf refs'.toArray c') ∈ foot' ∧ IntTups (fun a o => (a, o) ∈ foot') refs' (ps.map spI) ∧ ∀ p ∈ tl, p ∈ foot') := by

  rintro dp un gd base outer A₀ g ⟨hp0, gn0, dr0, tk0, os0⟩ R B X T hPre O hdp hun hret
  refine' enterC (binds := [(Str.ofString "pieces", .ref pl)]) B rfl O X (Top.nolimit T) ?k6 ?k7 ?k8 ?k9 ?kB ?_ ?c2 ?c3 ?c4 ?c5
  case k6 => k_is
  case k7 => k_is
  case k8 => ktr_room
  case k9 => exact BindsTo.of_eq rfl
  case kB => exact locs rfl
  case c2 => exact rfl
  case c3 => exact rfl
  case c4 => exact rfl
  case c5 => decide
  intro L' h₁ F' N' B' hlt
  (try k_lt hlt)
  (try dsimp only)
  (try k_fold)
  walk1
  walk1
  walk1
  k_dflt (refine LCp.ListComp_P (F₀ := F') (by with_unfolding_all rfl) (by decide) (by rfl) (by decide) (by rfl) (by rfl) (by decide) ?_)
  walk1
  have hRL : refs.length = ps.length := hps.length
  refine LCp.SrcLP.ledger (by rfl) F' N' hm (by rw [List.size_toArray, sizeLine_eq]; omega) ?_
  intro g'
  rw [List.size_toArray]
  refine compRest_ind (fun i ys news => (∀ p ∈ tl, p ∈ news) ∧ IntTups (fun a o => (a, o) ∈ news) ys ((ps.take i).map spI)) refs.length ?fin ?step _ 0 [] tl (by omega) ⟨fun _ h => h, by rw [List.take_zero]; exact .nil⟩
  case fin =>
    rintro ys news ⟨hsub, hT⟩
    unfold LCg.FinE
    intro D h tk F1 N1 o1
    dsimp only
    refine hret _ _ _ _ (Own.of (by assumption) (by assumption) (fun _ h => h)) ⟨D, _, ys, rfl, .head _, ?_, fun p hp => .tail _ (hsub p hp)⟩
    rw [hRL, List.take_length] at hT
    exact hT.mono fun v sp ⟨T, t, t', n, e, hm⟩ => ⟨T, t, t', n, e, .tail _ hm⟩
  case step =>
    rintro i ys news hi ⟨hsub, hT⟩ v hv
    obtain ⟨⟨a, b⟩, hp, T, t, t', n, rfl, hT'⟩ := forall2_at hps (by simpa using hv)
    refine ⟨T, _, _, _, n, rfl, hsub _ hT', rfl, rfl, ?_⟩
    intro I oI C oC D m₂ h tk E' hC hx hx₂ F1 N1 off ne
    clear F' N'
    have hab := hin _ (List.mem_of_getElem? hp)
    dsimp only at hab
    k_steps
    refine compEnd2 (by assumption) (by assumption) (by omega) (by omega) (by omega) off (.inr ⟨_, .tail _ (hsub _ hm), rfl, _, rfl⟩) ⟨fun p hp => .tail _ (hsub p hp), ?_⟩
    rw [take_snoc hp, List.map_append]
    refine All2.snoc (hT.mono fun v sp ⟨T, t, t', n, e, hm⟩ => ⟨T, t, t', n, e, .tail _ hm⟩) (itHead ?_)
    show ((a : Nat) : Int) + (((b : Nat) : Int) - ((a : Nat) : Int)) = ((b : Nat) : Int)
    omega
end Mine
end
section
open PySem PySem.Calls PySem.W PyProof.Rows
set_option maxHeartbeats 4000000
namespace Mine
local macro_rules | `(tactic| walk_at "Never0") => `(tactic| fail)
theorem rstTaken : True := by
  w_top off
  k_with_none
  trivial
theorem fillIt6 : PySem.Challenge.rw_no0070_01 = PySem.Challenge.rw_no0070_01 ∧ Mine.hd.heap_1 = Mine.hd.heap_1 := by
  k_fill
  exact ⟨rfl, rfl⟩

def foundEnd (r : Nat) (ps : List (Nat × Nat)) : Nat := ps.foldl (fun e p => if p.1 ≤ r ∧ r < p.2 then p.2 else e) r
theorem foundEnd_snoc (r : Nat) (ps : List (Nat × Nat)) (p : Nat × Nat) : foundEnd r (ps ++ [p]) = if p.1 ≤ r ∧ r < p.2 then p.2 else foundEnd r ps := by
  unfold foundEnd
  rw [List.foldl_append]
  rfl
theorem foundEnd_le {r n : Nat} (hr : r ≤ n) : ∀ {ps : List (Nat × Nat)}, (∀ p ∈ ps, p.2 ≤ n) → r ≤ foundEnd r ps ∧ foundEnd r ps ≤ n := by
  intro ps
  suffices h : ∀ e, r ≤ e → e ≤ n → (∀ p ∈ ps, p.2 ≤ n) → r ≤ ps.foldl (fun e p => if p.1 ≤ r ∧ r < p.2 then p.2 else e) e ∧ ps.foldl (fun e p => if p.1 ≤ r ∧ r < p.2 then p.2 else e) e ≤ n from fun hp => h r (Nat.le_refl _) hr hp
  induction ps with
  | nil => intro e h1 h2 _; exact ⟨h1, h2⟩
  | cons p ps ih =>
    intro e h1 h2 hp
    rw [List.foldl_cons]
    have hp0 := hp p (.head _)
    refine ih _ ?_ ?_ fun q hq => hp q (.tail _ hq)
    · split <;> omega
    · split <;> omega

theorem allLt_mem {d : Addr} : ∀ {l : List (Addr × Obj)}, AllLt d l → ∀ p ∈ l, @LT.lt Nat _ p.1 d
  | [], _, _, h => nomatch h
  | _ :: _, x, p, h => by
    rcases List.mem_cons.mp h with rfl | h
    · exact x.1
    · exact allLt_mem x.2 p h
theorem Pcs.mono {oc : List UInt8} {lk lk' : Addr → Obj → Prop} {refs : List Value} {ps : List (Nat × Nat)} (h : Pcs oc lk refs ps) (hk : ∀ a o, lk a o → lk' a o) : Pcs oc lk' refs ps :=
  All2.mono h fun v sp ⟨T, t, t', n, e, hm⟩ => ⟨T, t, t', n, e, hk _ _ hm⟩
theorem filter_snoc {α : Type} (q : α → Bool) (l : List α) (a : α) : (l ++ [a]).filter q = if q a = true then l.filter q ++ [a] else l.filter q := by
  rw [List.filter_append]
  cases h : q a <;> simp [h]
theorem rotC {α : Type} {a b c : α} {l : List α} : ∀ p ∈ b :: c :: a :: l, p ∈ a :: b :: c :: l := by
  intro p hp
  simp only [List.mem_cons] at hp ⊢
  rcases hp with h | h | h | h
  · exact .inr (.inl h)
  · exact .inr (.inr (.inl h))
  · exact .inl h
  · exact .inr (.inr (.inr h))
structure TkS where
  e : Nat
  te : Tok
  refs : List Value
  cc : Nat
  tl : List (Addr × Obj)

theorem taken_spec {w : World} {mean : ExcName → Option Value} {mg mb : Str → Option Value} {pl : Addr} {refs : List Value} {c : Nat} {ps : List (Nat × Nat)} {oc : List UInt8} {r : Nat} {t : Tok}
    (hin : InB oc ps) (hoc : oc.length < 1000) (hlen : ps.length < 1000) (hr : r ≤ oc.length) :
    Spec w mean mg mb 55 [.ref pl, .int (r : Nat) t] 4 (fun g => g.get? pl = some (listOf refs.toArray c) ∧ Pcs oc (fun a o => g.get? a = some o) refs ps) []
      (fun _ v foot' => ∃ T tf nT left refs' c', v = .ref T ∧ (T, ({ cls := .type "tuple", data := .seq #[.bytes (seg oc r (foundEnd r ps)) tf, .ref left] nT } : Obj)) ∈ foot' ∧ (left, listOf refs'.toArray c') ∈ foot' ∧
        Pcs oc (fun a o => (a, o) ∈ foot') refs' (ps.filter fun p => decide (r < p.1))) := by

  rintro dp un gd base outer A₀ g ⟨hp0, gn0, dr0, tk0, os0⟩ R B X T hPre O hdp hun hret
  refine' enterC (binds := [(Str.ofString "pieces", .ref pl), (Str.ofString "at", .int (r : Nat) t)]) B rfl O X (Top.nolimit T) ?k6 ?k7 ?k8 ?k9 ?kB ?_ ?c2 ?c3 ?c4 ?c5
  case k6 => k_is
  case k7 => k_is
  case k8 => ktr_room
  case k9 => exact BindsTo.of_eq rfl
  case kB => exact locs rfl
  case c2 => exact rfl
  case c3 => exact rfl
  case c4 => exact rfl
  case c5 => decide
  intro L' h₁ F' N' B' hlt
  (try k_lt hlt)
  (try dsimp only)
  (try k_fold)
  obtain ⟨hl, hps⟩ := hPre
  have hRL : refs.length = ps.length := hps.length
  k_steps
  rename_i left _ _ D _ l1 _ _ hh F2 N2
  refine' ForPairS (σ := TkS) (P := fun i v0 v1 => ∃ a b t t', ps[i]? = some (a, b) ∧ v0 = .int (a : Nat) t ∧ v1 = .bytes (seg oc a b) t') (fun c => (left, listOf c.refs.toArray c.cc) :: c.tl) (fun c => [(Str.ofString "found", .bytes (seg oc r c.e) c.te)]) [Str.ofString "octets"]
      (fun i c => c.e = foundEnd r (ps.take i) ∧ Pcs oc (fun a o => (a, o) ∈ c.tl) c.refs ((ps.take i).filter fun p => decide (r < p.1)) ∧ OwnOff c.tl [left] ∧ c.refs.length ≤ i) ⟨r, ?te, [], 0, []⟩ rfl rfl rfl rfl rfl (by decide) rfl rfl hl ?hit F2 ?hN ?hk ?h0 ?turn ?done
  case hit =>
    intro i v hv
    obtain ⟨⟨a, b⟩, hp, T, t, t', n, rfl, hT⟩ := forall2_at hps hv
    exact ⟨T, _, _, n, rfl, hT, a, b, t, t', hp, rfl, rfl⟩
  case hN => exact fun p hp => N2 p (.tail _ hp)
  case hk =>
    intro p hp
    rw [List.mem_singleton] at hp
    subst hp
    exact congrArg (fun b => some (Value.bytes b _)) (seg_empty oc (Nat.le_refl r)).symm
  case h0 => exact ⟨by rw [List.take_zero]; rfl, by rw [List.take_zero]; exact .nil, fun p hp => (nomatch hp), Nat.le_refl _⟩
  case turn =>
    rintro I - i v0 v1 ⟨e, te, rs, cc, tl⟩ u h tk oI hi ⟨a, b, t1, t2, hp, rfl, rfl⟩ ⟨he, hP, hoff, hrl⟩ hne F1 N1
    clear F2 N2 l1
    have hab := hin _ (List.mem_of_getElem? hp)
    have hIl := hne _ (.head _)
    dsimp only at hab hIl he hP hoff hrl F1 N1
    k_steps
    all_goals (dsimp only [PairPost])
    · rename_i _ t5 _ _ _ _ F3 N3
      refine pairEnd ⟨b, t5, rs, cc, tl⟩ F3 N3 (fun _ h => h) hne ?_ (by walk_at "Same") ⟨?_, ?_, hoff, by show rs.length ≤ i + 1; omega⟩
      · intro p hp
        rw [List.mem_singleton] at hp
        subst hp
        have e1 : a + ((r : Int) - (a : Int)).toNat = r := by omega
        exact congrArg (fun x => some (Value.bytes (seg oc x b) _)) e1
      · show b = _
        rw [take_snoc hp, foundEnd_snoc, if_pos (by constructor <;> (show _ ; omega))]
      · show Pcs oc _ rs _
        rw [take_snoc hp, filter_snoc, if_neg (by simp only [decide_eq_true_eq]; omega)]
        exact hP
    · refine pairEnd ⟨e, te, rs, cc, tl⟩ (by assumption) (by assumption) (fun _ h => h) hne (List.forall_mem_singleton.mpr rfl) (by walk_at "Same") ⟨?_, ?_, hoff, by show rs.length ≤ i + 1; omega⟩
      · show e = _
        rw [take_snoc hp, foundEnd_snoc, if_neg (by omega)]
        exact he
      · show Pcs oc _ rs _
        rw [take_snoc hp, filter_snoc, if_neg (by simp only [decide_eq_true_eq]; omega)]
        exact hP
    · rename_i D _ l2 _ F3 N3
      (try simp only [List.push_toArray] at N3)
      have hlt := allLt_mem l2.2.2
      refine pairEnd ⟨e, te, rs ++ [Value.ref D], _, _ :: tl⟩ (by assumption) N3 rotC ?_ (List.forall_mem_singleton.mpr rfl) (by walk_at "Same") ⟨?_, ?_, ?_, ?_⟩
      · intro p hp
        rcases List.mem_cons.mp hp with rfl | hp
        · exact hIl
        rcases List.mem_cons.mp hp with rfl | hp
        · exact Nat.ne_of_gt l2.1
        · exact hne p (.tail _ hp)
      · show e = _
        rw [take_snoc hp, foundEnd_snoc, if_neg (by omega)]
        exact he
      · show Pcs oc _ (rs ++ [Value.ref D]) _
        rw [take_snoc hp, filter_snoc, if_pos (by simp only [decide_eq_true_eq]; omega)]
        exact All2.snoc (Pcs.mono hP fun _ _ h => List.Mem.tail _ h) ⟨_, _, _, _, rfl, List.Mem.head _⟩
      · intro p hp b hb
        rw [List.mem_singleton] at hb
        subst hb
        rcases List.mem_cons.mp hp with rfl | hp
        · exact Nat.ne_of_gt l2.2.1
        · exact hoff p hp _ (.head _)
      · show (rs ++ [Value.ref D]).length ≤ i + 1
        rw [List.length_append, List.length_singleton]
        omega
  case done =>
    rintro ⟨e, te, rs, cc, tl⟩ u h tk ⟨he, hP, hoff, hrl⟩ F1 N1
    clear F2 N2 l1
    dsimp only at he hP hoff hrl F1 N1
    k_steps
    rw [hRL, List.take_length] at he hP
    subst he
    exact hret _ _ _ _ (Own.of (by assumption) (by assumption) (fun _ h => h)) ⟨_, _, _, _, _, _, rfl, .head _, .tail _ (.head _), Pcs.mono hP fun _ _ h => List.Mem.tail _ (List.Mem.tail _ h)⟩
end Mine
end
section
open PySem PySem.Calls PySem.W PyProof.Rows
set_option maxHeartbeats 4000000
namespace Mine
theorem rstSrt : True := by
  w_top off
  k_with_none
  trivial
/-- a tree of questions, answered by c; places below n, two places -/
def evB {α : Type} (n : Nat) (c : Nat → Nat → Bool) : KasT α → Option α
  | .ret a => some a
  | .ask i j k => if i < n ∧ j < n ∧ i ≠ j then evB n c (k (c i j)) else none
theorem kasWp_evB {α : Type} {cmp : Nat → Nat → (Bool → Shared → Prop) → Shared → Prop} {n : Nat} {c : Nat → Nat → Bool} (I : Shared → Prop)
    (hc : ∀ i j (C : Bool → Shared → Prop) s, I s → i < n → j < n → i ≠ j → (∀ s', I s' → C (c i j) s') → cmp i j C s) :
    ∀ (t : KasT α) (a : α) (Q : α → Shared → Prop) s, evB n c t = some a → I s → (∀ s', I s' → Q a s') → t.kasWp cmp Q s
  | .ret b, a, Q, s, e, hi, hq => by
    cases e
    exact hq s hi
  | .ask i j k, a, Q, s, e, hi, hq => by
    unfold evB at e
    split at e
    · rename_i h
      exact hc i j _ s hi h.1 h.2.1 h.2.2 fun s' hi' => kasWp_evB I hc (k (c i j)) a Q s' e hi' hq
    · cases e

/-- the last of n goes to place r -/
def rankN (n r i : Nat) : Nat := if i + 1 = n then 2 * r else 2 * i + 1
def cRank (n r i j : Nat) : Bool := decide (rankN n r i < rankN n r j)
def insP (n r : Nat) : List Nat := List.range r ++ (n - 1) :: (List.range (n - 1 - r)).map (· + r)
theorem sort_rank : ∀ n < 9, ∀ r < n, 2 ≤ n → evB n (cRank n r) (kas_sort n) = some (insP n r).toArray := by decide +kernel

theorem insP_map {vs : List Value} {v : Value} {r : Nat} (hr : r ≤ vs.length) : (insP (vs.length + 1) r).map (fun i => (vs ++ [v]).getD i Value.none) = vs.take r ++ v :: vs.drop r := by
  unfold insP
  rw [List.map_append, List.map_cons, List.map_map]
  congr 1
  · apply List.ext_getElem?
    intro i
    rw [List.getElem?_map, List.getElem?_take]
    by_cases h : i < r
    · rw [if_pos h, List.getElem?_range h]
      have h' : i < vs.length := by omega
      simp [List.getElem?_append_left h', h']
    · rw [if_neg h, List.getElem?_eq_none (by rw [List.length_range]; omega)]
      rfl
  · congr 1
    · simp
    · apply List.ext_getElem?
      intro i
      rw [List.getElem?_map, List.getElem?_drop]
      by_cases h : i < vs.length + 1 - 1 - r
      · rw [List.getElem?_range h]
        have h' : i + r < vs.length := by omega
        have h2 : r + i < vs.length := by omega
        have h3 : (vs ++ [v])[r + i]? = some vs[r + i] := by rw [List.getElem?_append_left h2, List.getElem?_eq_getElem h2]
        simp [h2, Nat.add_comm i r, h3]
      · rw [List.getElem?_eq_none (by rw [List.length_range]; omega), List.getElem?_eq_none (by omega)]
        rfl

/-- a tuple with an int ahead -/
def TupK (h : Heap) (v : Value) (k : Int) : Prop := ∃ T v1 n t, v = .ref T ∧ h.get? T = some { cls := .type "tuple", data := .seq #[.int k t, v1] n }
theorem tupK_tups {h : Heap} {vs : List Value} {ks : List Int} (H : All2 (TupK h) vs ks) : ∃ fs : List Value, KatTups h vs fs ∧ fs.length = ks.length ∧ ∀ f ∈ fs, ∃ k t, f = .int k t := by
  induction H with
  | nil => exact ⟨[], KatTups.nil, rfl, fun _ h => nomatch h⟩
  | cons x _ ih =>
    obtain ⟨T, v1, n, t, e, hT⟩ := x
    obtain ⟨fs, a, b, c⟩ := ih
    subst e
    refine ⟨.int _ t :: fs, KatTups.cons hT rfl rfl rfl a, by rw [List.length_cons, List.length_cons, b], fun f hf => ?_⟩
    rcases List.mem_cons.mp hf with rfl | hf
    · exact ⟨_, _, rfl⟩
    · exact c f hf
theorem all2_getD {h : Heap} {vs : List Value} {ks : List Int} (H : All2 (TupK h) vs ks) {i : Nat} (hi : i < vs.length) : TupK h (vs.getD i Value.none) (ks.getD i 0) := by
  obtain ⟨k, e, r⟩ := forall2_at H (List.getElem?_eq_getElem hi)
  rw [List.getD_eq_getElem?_getD, List.getD_eq_getElem?_getD, List.getElem?_eq_getElem hi, e]
  exact r

def TupKL (h₀ : Heap) (news : List (Addr × Obj)) (v : Value) (k : Int) : Prop := ∃ T v1 n t, v = .ref T ∧ (h₀.get? T = some ({ cls := .type "tuple", data := .seq #[.int k t, v1] n } : Obj) ∨ (T, ({ cls := .type "tuple", data := .seq #[.int k t, v1] n } : Obj)) ∈ news)
theorem TupKL.at {h₀ h : Heap} {L : Addr} {m : Str → Option Value} {news : List (Addr × Obj)} (F : Fr h₀ L h m) (N : News h₀ L h news) {v : Value} {k : Int} (x : TupKL h₀ news v k) : TupK h v k := by
  obtain ⟨T, v1, n, t, e, hT⟩ := x
  exact ⟨T, v1, n, t, e, hT.elim (F.keep _ _) fun hm => (N _ hm).1⟩
theorem getD_snoc_lt {l : List Int} {a : Int} {i : Nat} (h : i < l.length) : (l ++ [a]).getD i 0 = l.getD i 0 := by
  rw [List.getD_eq_getElem?_getD, List.getD_eq_getElem?_getD, List.getElem?_append_left h]
theorem getD_snoc_eq {l : List Int} {a : Int} {i : Nat} (h : i = l.length) : (l ++ [a]).getD i 0 = a := by
  subst h
  simp
theorem cRank_eq {ks : List Int} {k : Int} {r i j : Nat} (hs : ∀ i j, i < j → j < ks.length → ks.getD i 0 < ks.getD j 0) (hr : r ≤ ks.length) (hlo : ∀ i, i < r → ks.getD i 0 < k) (hhi : ∀ i, r ≤ i → i < ks.length → k < ks.getD i 0)
    (hi : i < ks.length + 1) (hj : j < ks.length + 1) (hij : i ≠ j) : cRank (ks.length + 1) r i j = decide ((ks ++ [k]).getD i 0 < (ks ++ [k]).getD j 0) ∧ (ks ++ [k]).getD i 0 ≠ (ks ++ [k]).getD j 0 := by
  unfold cRank rankN
  by_cases h1 : i < ks.length
  · rw [if_neg (by omega), getD_snoc_lt h1]
    by_cases h2 : j < ks.length
    · rw [if_neg (by omega), getD_snoc_lt h2]
      rcases Nat.lt_or_gt_of_ne hij with q | q
      · have := hs i j q h2
        refine ⟨?_, by omega⟩
        rw [decide_eq_true this, decide_eq_true (by omega)]
      · have := hs j i q h1
        refine ⟨?_, by omega⟩
        rw [decide_eq_false (by omega), decide_eq_false (by omega)]
    · rw [if_pos (by omega), getD_snoc_eq (by omega : j = ks.length)]
      by_cases q : i < r
      · have := hlo i q
        refine ⟨?_, by omega⟩
        rw [decide_eq_true this, decide_eq_true (by omega)]
      · have := hhi i (by omega) h1
        refine ⟨?_, by omega⟩
        rw [decide_eq_false (by omega), decide_eq_false (by omega)]
  · have hi' : i = ks.length := by omega
    have h2 : j < ks.length := by omega
    rw [if_pos (by omega), if_neg (by omega), getD_snoc_eq hi', getD_snoc_lt h2]
    by_cases q : j < r
    · have := hlo j q
      refine ⟨?_, by omega⟩
      rw [decide_eq_false (by omega), decide_eq_false (by omega)]
    · have := hhi j (by omega) h2
      refine ⟨?_, by omega⟩
      rw [decide_eq_true this, decide_eq_true (by omega)]

section
variable {prog : Program} {w : World} {A : Around} {E : Value → Shared → Prop} {s : Shared} {h₀ : Heap} {L : Addr} {m : Str → Option Value} {news : List (Addr × Obj)}

theorem lt_tups {x y : Value} {a b : Int} {Q : Bool → Shared → Prop} (hx : TupK s.heap x a) (hy : TupK s.heap y b) (hne : a ≠ b) (h : Q (decide (a < b)) s) : wpAny (model prog w) A (keyLt' (tuples' true) x y) Q E s := by
  obtain ⟨X, v1, n1, t1, rfl, hX⟩ := hx
  obtain ⟨Y, v2, n2, t2, rfl, hY⟩ := hy
  refine kat_lt hX rfl hY rfl (kat_cons (wpAny_eqBool_int ?_))
  rw [show (a == b) = false from beq_eq_false_iff_ne.mpr hne]
  exact kat_no (oneLt_int h)

theorem sort_many {l : Addr} {vs : List Value} {v : Value} {ks : List Int} {k : Int} {r : Nat} {Q : Value → Shared → Prop} (F : Fr h₀ L s.heap m) (N : News h₀ L s.heap news) (hl : s.heap.IsList l (vs ++ [v]).toArray) (h1 : 1 ≤ vs.length) (h8 : vs.length < 8)
    (hk : All2 (TupKL h₀ news) (vs ++ [v]) (ks ++ [k])) (hs : ∀ i j, i < j → j < ks.length → ks.getD i 0 < ks.getD j 0) (hr : r ≤ ks.length) (hlo : ∀ i, i < r → ks.getD i 0 < k) (hhi : ∀ i, r ≤ i → i < ks.length → k < ks.getD i 0)
    (h : ∀ D c h' tk, Fr h₀ L h' m → News h₀ L h' ((D, listOf (vs.take r ++ v :: vs.drop r).toArray c) :: news) → (∀ q ∈ news, q.1 < D) → Q (.ref D) { s with heap := h', toks := tk }) :
    wpAny (model prog w) A (call (.builtin "sorted") [.ref l]) Q E s := by
  have hlen : (vs ++ [v]).length = vs.length + 1 := by simp
  have hkl : vs.length = ks.length := by
    have := hk.length
    simpa using this
  refine kat_sorted F N hl (by omega) (by omega) fun D e1 h' F' N' hlt => ?_
  have hk' : All2 (TupK h') (vs ++ [v]) (ks ++ [k]) := hk.mono fun x y z => z.at F' fun p hp => N' p (.tail _ hp)
  obtain ⟨fs, hts, hfl, hfs⟩ := tupK_tups hk'
  refine kat_kind (T := .type "int") hts (by rw [hfl]; simp) (fun f hf => by
    obtain ⟨a, t, rfl⟩ := hfs f hf
    exact Looks.of_pure rfl) rfl ?_
  rw [show ((Value.type "int") != Value.type "tuple") = true from by decide]
  have ev := sort_rank (vs.length + 1) (by omega) r (by omega) (by omega)
  rw [hlen]
  refine kasWp_evB (c := cRank (vs.length + 1) r) (fun s' => s' = { s with heap := h' }) (fun i j C s' hi h1 h2 h3 hC => ?_) _ _ _ _ ev rfl (fun s' hi => ?_)
  · subst hi
    unfold kas_ask
    rw [hkl] at h1 h2 hC
    obtain ⟨e, ne⟩ := cRank_eq hs hr hlo hhi h1 h2 h3
    refine lt_tups (all2_getD hk' (by omega)) (all2_getD hk' (by omega)) ne ?_
    rw [← e]
    exact hC _ rfl
  · subst hi
    refine KasFin.intro F' N' (UpdF.head fun p hp => Nat.ne_of_lt (hlt p hp)) fun h'' c F'' N'' => ?_
    rw [List.toList_toArray, insP_map (by omega)] at N''
    exact h D c h'' _ F'' N'' hlt

theorem sort_body {a : Addr} {v : Value} {n : Nat} {P : PySem.Fin → Shared → Prop} (F : Fr h₀ L s.heap m) (N : News h₀ L s.heap news) (ho : s.heap.get? a = some (seqObj "list" #[v] n)) (haL : a ≠ L) (ha0 : h₀.get? a = none) (hna : ∀ p ∈ news, p.1 ≠ a)
    (h : ∀ h' c, Fr h₀ L h' m → News h₀ L h' ((a, listOf #[v] c) :: news) → P (.done (.ret .none)) { s with heap := h' }) :
    wpAny (model prog w) A (Builtin.«list.sort» ⟨[.ref a], []⟩) P E s := by
  have ha : a < s.heap.objs.size := Heap.lt_size ho
  rw [list_sort_plain]
  refine wpAny_bind (listItems_at ho rfl ?_)
  refine wpAny_bind (listUpdate_at ho rfl ?_ (by rw [sizeLine_eq]; exact Nat.le_of_ble_eq_true rfl) (Nat.zero_le _))
  obtain ⟨e1, ho1⟩ : ∃ e1, (s.heap.update a (Obj.mapSeq fun _ => (#[] : Array Value))).get? a = some (seqObj "list" #[] e1) := ⟨_, get?_update_seq ho fun _ => #[]⟩
  refine wpAny_bind (seqEpoch_at ho1 rfl ?_)
  refine wpAny_bind (wpAny_newTuple ?_ (by rw [sizeLine_eq]; exact Nat.le_of_ble_eq_true rfl))
  refine wpAny_bind (wpAny_newList ?_ (by rw [sizeLine_eq]; exact Nat.le_of_ble_eq_true rfl))
  refine wpAny_holding ?_
  have s1 := Heap.SameBut.update s.heap a (Obj.mapSeq fun _ => (#[] : Array Value))
  have F1 := kas_fr F s1 haL ha0
  have N1 : News h₀ L (s.heap.update a (Obj.mapSeq fun _ => (#[] : Array Value))) ((a, seqObj "list" #[] e1) :: news) := fun p hp => by
    rcases List.mem_cons.mp hp with rfl | hp
    · exact ⟨ho1, haL, ha0⟩
    · exact kas_news N s1 hna p hp
  generalize hH : (s.heap.update a (Obj.mapSeq fun _ => (#[] : Array Value))) = H at F1 N1
  have F2 := F1.push (seqObj "tuple" [v].toArray 0)
  have N2 := N1.push F1 (seqObj "tuple" [v].toArray 0)
  have F3 := F2.push (seqObj "list" #[] 0)
  have N3 := N2.push F2 (seqObj "list" #[] 0)
  have ho3 := (N3 (a, seqObj "list" #[] e1) (.tail _ (.tail _ (.head _)))).1
  show wpAny (model prog w) A _ P E { s with heap := (H.push (seqObj "tuple" [v].toArray 0)).push (seqObj "list" #[] 0) }
  generalize hH3 : (H.push (seqObj "tuple" [v].toArray 0)).push (seqObj "list" #[] 0) = H3 at F3 N3 ho3
  dsimp only
  rw [if_pos (show #[v].size < 2 from Nat.lt_succ_self _), if_pos (show #[v].size < 2 from Nat.lt_succ_self _)]
  refine wpAny_bind (wpAny_pure ?_)
  rw [StateT.run_pure]
  refine wpAny_bind (wpAny_pure ?_)
  dsimp only
  have eo : (arrOf (SortSt.mk' general' (#[v].zip #[v]) #[] 7 none)).map (·.2) = #[v] := by
    apply Array.toList_inj.mp
    rw [Array.toList_map]
    show (pairsOf [v]).toList.map _ = _
    rw [pairsOf_toList]
    rfl
  rw [eo]
  refine wpAny_bind (seqEpoch_at (s := { s with heap := H3 }) ho3 rfl ?_)
  refine wpAny_bind (listUpdate_at (s := { s with heap := H3 }) ho3 rfl ?_ (Nat.zero_le _) (by rw [sizeLine_eq]; exact Nat.le_of_ble_eq_true rfl))
  simp only [bne_self_eq_false, Bool.false_eq_true, if_false]
  refine wpAny_pure ?_
  have s4 := Heap.SameBut.update H3 a (Obj.mapSeq fun _ => #[v])
  obtain ⟨c2, hc2⟩ : ∃ c2, (H3.update a (Obj.mapSeq fun _ => #[v])).get? a = some (seqObj "list" #[v] c2) := ⟨_, get?_update_seq ho3 fun _ => #[v]⟩
  refine h _ c2 (kas_fr F3 s4 haL ha0) fun p hp => ?_
  rcases List.mem_cons.mp hp with rfl | hp
  · exact ⟨hc2, haL, ha0⟩
  · exact kas_news (fun q hq => N3 q (.tail _ (.tail _ (.tail _ hq)))) s4 hna p hp

theorem sort_one {l : Addr} {v : Value} {Q : Value → Shared → Prop} (F : Fr h₀ L s.heap m) (N : News h₀ L s.heap news) (hl : s.heap.IsList l #[v])
    (h : ∀ D c h' tk, Fr h₀ L h' m → News h₀ L h' ((D, listOf #[v] c) :: news) → (∀ q ∈ news, q.1 < D) → Q (.ref D) { s with heap := h', toks := tk }) :
    wpAny (model prog w) A (call (.builtin "sorted") [.ref l]) Q E s := by
  refine Calls.call_function_entry kind_sorted plain_sorted entry_sorted (args_sorted1 _) ?_
  unfold Builtin.«sorted»
  refine wpAny_bind (m := checkCount "sorted" 1 1 _) (wpAny_pure ?_)
  refine wpAny_bind (collect_list (vs := [v]) hl ?_ (by rw [sizeLine_eq]; exact Nat.le_of_ble_eq_true rfl))
  refine wpAny_bind (wpAny_newList ?_ (by rw [sizeLine_eq]; exact Nat.le_of_ble_eq_true rfl))
  have F1 := F.push (seqObj "list" #[] 0)
  have N1 := N.push F (seqObj "list" #[] 0)
  have hc0 := N1 _ (.head _)
  have s2 := Heap.SameBut.update (s.heap.push (seqObj "list" #[] 0)) s.heap.objs.size (Obj.mapSeq (· ++ [v].toArray))
  have F2 := kas_fr F1 s2 hc0.2.1 hc0.2.2
  have N2 : News h₀ L _ news := kas_news (fun p hp => N1 p (.tail _ hp)) s2 fun p hp => Nat.ne_of_lt (Heap.lt_size (N p hp).1)
  generalize hH : ((s.heap.push (seqObj "list" #[] 0)).update s.heap.objs.size (Obj.mapSeq (· ++ [v].toArray))) = H at F2 N2
  have hsz : s.heap.objs.size ≤ H.objs.size := by rw [← hH, Heap.size_update, size_push']; omega
  have F3 := F2.push (seqObj "list" [v].toArray 0)
  have N3 := N2.push F2 (seqObj "list" [v].toArray 0)
  have ho := N3 _ (.head _)
  show wpAny _ _ _ _ _ { s with heap := H.push (seqObj "list" [v].toArray 0) }
  have hlt : ∀ q ∈ news, q.1 < H.objs.size := fun q hq => Nat.lt_of_lt_of_le (Heap.lt_size (N q hq).1) hsz
  refine wpAny_bind (wpAny_holding (wpAny_call_entry slot_list_sort ⟨_, ho.1, rfl⟩ entry_list_sort ?body (args_list_sort _)))
  case body =>
    refine sort_body (s := { s with heap := H.push (seqObj "list" [v].toArray 0) }) F3 (fun p hp => N3 p (.tail _ hp)) ho.1 ho.2.1 ho.2.2 (fun p hp => Nat.ne_of_lt (hlt p hp)) fun h' c F' N' => ?_
    exact ⟨_, rfl, wpAny_pure ⟨_, rfl, h _ c h' _ F' N' hlt⟩⟩
end
end Mine
end
section
open PySem PySem.Calls PySem.W PyProof.Rows
namespace Mine
theorem rstPlain : True := by
  w_top off
  k_with_none
  trivial
def Sep (ps : List (Nat × Nat)) : Prop := ps.Pairwise (fun p q => p.2 < q.1) ∧ ∀ p ∈ ps, p.1 < p.2
def Cov (ps : List (Nat × Nat)) (k : Nat) : Prop := ∃ p ∈ ps, p.1 ≤ k ∧ k < p.2
def addStep (x : List (Nat × Nat) × Nat × Nat) (p : Nat × Nat) : List (Nat × Nat) × Nat × Nat := if p.2 < x.2.1 ∨ x.2.2 < p.1 then (x.1 ++ [p], x.2.1, x.2.2) else (x.1, min x.2.1 p.1, max x.2.2 p.2)
def addFold (ps : List (Nat × Nat)) (o e : Nat) : List (Nat × Nat) × Nat × Nat := ps.foldl addStep ([], o, e)
def rankOf (fs : List (Nat × Nat)) (b : Nat) : Nat := (fs.filter fun p => decide (p.1 < b)).length
def insAdd (ps : List (Nat × Nat)) (o e : Nat) : List (Nat × Nat) :=
  (addFold ps o e).1.take (rankOf (addFold ps o e).1 (addFold ps o e).2.1) ++ (addFold ps o e).2 :: (addFold ps o e).1.drop (rankOf (addFold ps o e).1 (addFold ps o e).2.1)
theorem addFold_snoc (ps : List (Nat × Nat)) (p : Nat × Nat) (o e : Nat) : addFold (ps ++ [p]) o e = addStep (addFold ps o e) p := by
  unfold addFold
  rw [List.foldl_append]
  rfl

structure KInv (lo n o e : Nat) (ps : List (Nat × Nat)) (x : List (Nat × Nat) × Nat × Nat) : Prop where
  sub : x.1.Sublist ps
  apart : ∀ p ∈ x.1, p.2 < x.2.1 ∨ x.2.2 < p.1
  lt : x.2.1 < x.2.2
  lo : lo ≤ x.2.1
  hi : x.2.2 ≤ n
  cov : ∀ k, (Cov ps k ∨ (o ≤ k ∧ k < e)) ↔ (Cov x.1 k ∨ (x.2.1 ≤ k ∧ k < x.2.2))

theorem Cov.snoc {ps : List (Nat × Nat)} {p : Nat × Nat} {k : Nat} : Cov (ps ++ [p]) k ↔ Cov ps k ∨ (p.1 ≤ k ∧ k < p.2) := by
  unfold Cov
  constructor
  · rintro ⟨q, hq, h⟩
    rcases List.mem_append.mp hq with hq | hq
    · exact .inl ⟨q, hq, h⟩
    · rw [List.mem_singleton] at hq
      subst hq
      exact .inr h
  · rintro (⟨q, hq, h⟩ | h)
    · exact ⟨q, List.mem_append_left _ hq, h⟩
    · exact ⟨p, List.mem_append_right _ (.head _), h⟩

theorem KInv.start {lo n o e : Nat} (h1 : lo ≤ o) (h2 : o < e) (h3 : e ≤ n) : KInv lo n o e [] ([], o, e) :=
  ⟨List.Sublist.refl _, fun _ h => (nomatch h), h2, h1, h3, fun k => ⟨id, id⟩⟩
/-- two spans that meet: their hull is their union -/
theorem hull {a b c d k : Nat} (hab : a < b) (hcd : c < d) (h1 : c ≤ b) (h2 : a ≤ d) : (min c a ≤ k ∧ k < max d b) ↔ ((c ≤ k ∧ k < d) ∨ (a ≤ k ∧ k < b)) := by
  constructor
  · rintro ⟨q1, q2⟩
    rcases Nat.lt_or_ge k c with z | z
    · refine .inr ⟨?_, Nat.lt_of_lt_of_le z h1⟩
      rcases Nat.le_total c a with y | y
      · rw [Nat.min_eq_left y] at q1; exact absurd q1 (Nat.not_le_of_lt z)
      · rw [Nat.min_eq_right y] at q1; exact q1
    · rcases Nat.lt_or_ge k d with y | y
      · exact .inl ⟨z, y⟩
      · refine .inr ⟨Nat.le_trans h2 y, ?_⟩
        rcases Nat.le_total d b with x | x
        · rw [Nat.max_eq_right x] at q2; exact q2
        · rw [Nat.max_eq_left x] at q2; exact absurd q2 (Nat.not_lt_of_le y)
  · rintro (⟨q1, q2⟩ | ⟨q1, q2⟩)
    · exact ⟨Nat.le_trans (Nat.min_le_left _ _) q1, Nat.lt_of_lt_of_le q2 (Nat.le_max_left _ _)⟩
    · exact ⟨Nat.le_trans (Nat.min_le_right _ _) q1, Nat.lt_of_lt_of_le q2 (Nat.le_max_right _ _)⟩
theorem KInv.step {lo n o e : Nat} {ps : List (Nat × Nat)} {x : List (Nat × Nat) × Nat × Nat} {p : Nat × Nat} (K : KInv lo n o e ps x) (hps : ∀ q ∈ ps, q.1 < q.2 ∧ q.2 < p.1) (hp : p.1 < p.2) (hl : lo ≤ p.1) (hn : p.2 ≤ n) :
    KInv lo n o e (ps ++ [p]) (addStep x p) := by
  unfold addStep
  split
  · rename_i h
    refine ⟨List.Sublist.append K.sub (List.Sublist.refl _), fun q hq => ?_, K.lt, K.lo, K.hi, fun k => ?_⟩
    · rcases List.mem_append.mp hq with hq | hq
      · exact K.apart q hq
      · rw [List.mem_singleton] at hq
        subst hq
        exact h
    · rw [Cov.snoc, Cov.snoc, or_right_comm, K.cov k, or_right_comm]
  · rename_i h
    have h1 : x.2.1 ≤ p.2 := Nat.le_of_not_lt fun z => h (.inl z)
    have h2 : p.1 ≤ x.2.2 := Nat.le_of_not_lt fun z => h (.inr z)
    refine ⟨K.sub.trans (List.sublist_append_left _ _), fun q hq => ?_, Nat.lt_of_le_of_lt (Nat.min_le_left _ _) (Nat.lt_of_lt_of_le K.lt (Nat.le_max_left _ _)), Nat.le_min.mpr ⟨K.lo, hl⟩, Nat.max_le.mpr ⟨K.hi, hn⟩, fun k => ?_⟩
    · have hq' := hps q (K.sub.subset hq)
      rcases K.apart q hq with a | a
      · exact .inl (Nat.lt_min.mpr ⟨a, hq'.2⟩)
      · exact absurd (Nat.lt_of_lt_of_le a (Nat.le_of_lt (Nat.lt_trans hq'.1 hq'.2))) (Nat.not_lt_of_le h2)
    · rw [Cov.snoc, or_right_comm, K.cov k, or_assoc]
      exact or_congr_right (hull hp K.lt h1 h2).symm

theorem sep_prefix {ps : List (Nat × Nat)} (S : Sep ps) {i : Nat} {p : Nat × Nat} (h : ps[i]? = some p) : (∀ q ∈ ps.take i, q.1 < q.2 ∧ q.2 < p.1) ∧ p.1 < p.2 := by
  refine ⟨fun q hq => ⟨S.2 q (List.mem_of_mem_take hq), ?_⟩, S.2 p (List.mem_of_getElem? h)⟩
  obtain ⟨j, hj, e⟩ := List.getElem_of_mem hq
  rw [List.length_take] at hj
  have hi : i < ps.length := (List.getElem?_eq_some_iff.mp h).1
  rw [List.getElem_take] at e
  have hji : j < i := Nat.lt_of_lt_of_le hj (Nat.min_le_left _ _)
  have := List.pairwise_iff_getElem.mp S.1 j i (Nat.lt_trans hji hi) hi hji
  rw [(List.getElem?_eq_some_iff.mp h).2, e] at this
  exact this

theorem KInv.all {lo n o e : Nat} {ps : List (Nat × Nat)} (S : Sep ps) (h1 : lo ≤ o) (h2 : o < e) (h3 : e ≤ n) (hps : ∀ p ∈ ps, lo ≤ p.1 ∧ p.2 ≤ n) : ∀ i, i ≤ ps.length → KInv lo n o e (ps.take i) (addFold (ps.take i) o e) := by
  intro i
  induction i with
  | zero => intro _; rw [List.take_zero]; exact KInv.start h1 h2 h3
  | succ i ih =>
    intro hi
    have hp := List.getElem?_eq_getElem (show i < ps.length from hi)
    rw [take_snoc' hp, addFold_snoc]
    have := sep_prefix S hp
    have hb := hps _ (List.mem_of_getElem? hp)
    exact (ih (Nat.le_of_lt hi)).step this.1 this.2 hb.1 hb.2
where
  take_snoc' {α : Type} {l : List α} {i : Nat} {a : α} (h : l[i]? = some a) : l.take (i + 1) = l.take i ++ [a] := by
    rw [List.take_add_one, h]; rfl

theorem sep_length {n : Nat} : ∀ {ps : List (Nat × Nat)} {lo : Nat}, Sep ps → (∀ p ∈ ps, lo ≤ p.1 ∧ p.2 ≤ n) → 2 * ps.length ≤ n + 1 - lo
  | [], _, _, _ => Nat.zero_le _
  | p :: ps, lo, S, h => by
    have hp := h p (.head _)
    have hlt := S.2 p (.head _)
    have hS : Sep ps := ⟨(List.pairwise_cons.mp S.1).2, fun q hq => S.2 q (.tail _ hq)⟩
    have := sep_length (lo := p.2 + 1) hS fun q hq => ⟨(List.pairwise_cons.mp S.1).1 q hq, (h q (.tail _ hq)).2⟩
    rw [List.length_cons]
    have e : lo + 2 ≤ p.2 + 1 := Nat.succ_le_succ (Nat.le_trans (Nat.succ_le_succ hp.1) hlt)
    refine Nat.le_sub_of_add_le (Nat.le_trans ?_ (Nat.add_le_of_le_sub (Nat.succ_le_succ hp.2) this))
    rw [Nat.mul_add, Nat.mul_one, Nat.add_assoc, Nat.add_comm 2 lo]
    exact Nat.add_le_add_left e _

theorem sep_of_sublist {ps qs : List (Nat × Nat)} (S : Sep ps) (h : qs.Sublist ps) : Sep qs := ⟨S.1.sublist h, fun p hp => S.2 p (h.subset hp)⟩

/-- the starts of a separated list rise -/
theorem sep_starts {ps : List (Nat × Nat)} (S : Sep ps) {i j : Nat} {p q : Nat × Nat} (hij : i < j) (hi : ps[i]? = some p) (hj : ps[j]? = some q) : p.2 < q.1 := by
  obtain ⟨h1, e1⟩ := List.getElem?_eq_some_iff.mp hi
  obtain ⟨h2, e2⟩ := List.getElem?_eq_some_iff.mp hj
  have := List.pairwise_iff_getElem.mp S.1 i j h1 h2 hij
  rw [e1, e2] at this
  exact this

theorem rank_spec {b l : Nat} : ∀ {fs : List (Nat × Nat)}, Sep fs → (∀ p ∈ fs, p.2 < b ∨ l < p.1) → b < l →
    rankOf fs b ≤ fs.length ∧ (∀ p ∈ fs.take (rankOf fs b), p.2 < b) ∧ (∀ p ∈ fs.drop (rankOf fs b), l < p.1)
  | [], _, _, _ => ⟨Nat.le_refl _, fun _ h => by simp at h, fun _ h => by simp at h⟩
  | p :: fs, S, h, hbl => by
    have S' : Sep fs := sep_of_sublist S (List.sublist_cons_self _ _)
    obtain ⟨a1, a2, a3⟩ := rank_spec S' (fun q hq => h q (.tail _ hq)) hbl
    have hp := S.2 p (.head _)
    rcases h p (.head _) with q | q
    · have e : rankOf (p :: fs) b = rankOf fs b + 1 := by
        unfold rankOf
        rw [List.filter_cons, if_pos (by simp only [decide_eq_true_eq]; omega), List.length_cons]
      rw [e]
      refine ⟨by rw [List.length_cons]; omega, fun x hx => ?_, fun x hx => ?_⟩
      · rw [List.take_succ_cons] at hx
        rcases List.mem_cons.mp hx with rfl | hx
        · exact q
        · exact a2 x hx
      · rw [List.drop_succ_cons] at hx
        exact a3 x hx
    · have hall : ∀ x ∈ fs, l < x.1 := fun x hx => by
        have := (List.pairwise_cons.mp S.1).1 x hx
        omega
      have e : rankOf (p :: fs) b = 0 := by
        unfold rankOf
        rw [List.length_eq_zero_iff, List.filter_eq_nil_iff]
        intro x hx
        simp only [decide_eq_true_eq]
        rcases List.mem_cons.mp hx with rfl | hx
        · omega
        · have := hall x hx
          omega
      rw [e]
      refine ⟨Nat.zero_le _, fun x hx => by simp at hx, fun x hx => ?_⟩
      rw [List.drop_zero] at hx
      rcases List.mem_cons.mp hx with rfl | hx
      · exact q
      · exact hall x hx

theorem insAdd_spec {lo n o e : Nat} {ps : List (Nat × Nat)} (S : Sep ps) (h1 : lo ≤ o) (h2 : o < e) (h3 : e ≤ n) (hps : ∀ p ∈ ps, lo ≤ p.1 ∧ p.2 ≤ n) :
    Sep (insAdd ps o e) ∧ (∀ p ∈ insAdd ps o e, lo ≤ p.1 ∧ p.2 ≤ n) ∧ ∀ k, Cov (insAdd ps o e) k ↔ (Cov ps k ∨ (o ≤ k ∧ k < e)) := by
  have K := KInv.all S h1 h2 h3 hps ps.length (Nat.le_refl _)
  rw [List.take_length] at K
  unfold insAdd
  generalize addFold ps o e = x at K
  have Sx := sep_of_sublist S K.sub
  obtain ⟨r1, r2, r3⟩ := rank_spec Sx K.apart K.lt
  have hmem : ∀ q, q ∈ x.1.take (rankOf x.1 x.2.1) ++ x.2 :: x.1.drop (rankOf x.1 x.2.1) ↔ q ∈ x.1 ∨ q = x.2 := fun q => by
    rw [List.mem_append, List.mem_cons]
    constructor
    · rintro (h | h | h)
      · exact .inl (List.mem_of_mem_take h)
      · exact .inr h
      · exact .inl (List.mem_of_mem_drop h)
    · rintro (h | h)
      · rw [← List.take_append_drop (rankOf x.1 x.2.1) x.1, List.mem_append] at h
        rcases h with h | h
        · exact .inl h
        · exact .inr (.inr h)
      · exact .inr (.inl h)
  refine ⟨⟨?_, fun q hq => ?_⟩, fun q hq => ?_, fun k => ?_⟩
  · rw [List.pairwise_append]
    refine ⟨Sx.1.sublist (List.take_sublist _ _), List.pairwise_cons.mpr ⟨fun q hq => r3 q hq, Sx.1.sublist (List.drop_sublist _ _)⟩, fun p hp q hq => ?_⟩
    rcases List.mem_cons.mp hq with rfl | hq
    · exact r2 p hp
    · have a1 := r2 p hp
      have a2 := r3 q hq
      have a3 := K.lt
      omega
  · rcases (hmem q).mp hq with h | rfl
    · exact Sx.2 q h
    · exact K.lt
  · rcases (hmem q).mp hq with h | rfl
    · exact hps q (K.sub.subset h)
    · exact ⟨K.lo, K.hi⟩
  · rw [K.cov k]
    unfold Cov
    constructor
    · rintro ⟨q, hq, h⟩
      rcases (hmem q).mp hq with h' | rfl
      · exact .inl ⟨q, h', h⟩
      · exact .inr h
    · rintro (⟨q, hq, h⟩ | h)
      · exact ⟨q, (hmem q).mpr (.inl hq), h⟩
      · exact ⟨x.2, (hmem _).mpr (.inr rfl), h⟩
end Mine
end
section
open PySem PySem.Calls PySem.W PyProof.Rows
namespace Mine
theorem rstByB : True := by
  w_top off
  k_with_none
  trivial
theorem look_bytes : typeLookup (.type "bytes") "__bytes__" = pure (some (.builtin "bytes.__bytes__")) := by rw [typeLookup_type, builtinLookup_eq_fast]; kernel_rfl
section
variable {prog : Program} {w : World} {A : Around} {E : Value → Shared → Prop} {s : Shared}
theorem new_of_bytes {b : Array UInt8} {t : Tok} {Q : Value → Shared → Prop} (hQ : Q (.bytes b t) s) :
    codeAny (model prog w) A (.call (.builtin "bytes.__new__") ⟨[.type "bytes", .bytes b t], []⟩) (wants Q E) s := by
  refine codeAny_of_tree ?_
  show wpAny _ A.in1 (do checkBuiltinCall "bytes.__new__" ⟨[.type "bytes", .bytes b t], []⟩; again (.builtin "bytes.__new__" ⟨[.type "bytes", .bytes b t], []⟩)) _ _ s
  refine wpAny_bind (wpAny_of_eq (PySem.F.bm_newCall _) (wpAny_pure ⟨plainId_quiet PySem.F.bm_plain _, codeAny_builtin PySem.F.bm_entry ?_⟩))
  rw [Around.under_plainId PySem.F.bm_plain _]
  unfold Builtin.«bytes.__new__»
  refine wpAny_bind (wpAny_of_eq (a := true) rfl ?_)
  refine bm_if_false rfl ?_
  refine wpAny_bind (wpAny_of_eq PySem.F.bm_sub ?_)
  refine bm_if_false rfl ?_
  refine wpAny_bind (wpAny_of_eq (PySem.F.bm_bind _) ?_)
  refine wpAny_bind (wpAny_of_eq (a := ()) rfl ?_)
  refine wpAny_bind (wpAny_of_eq (a := ()) rfl ?_)
  refine bm_if_false rfl ?_
  refine wpAny_bind (wpAny_of_eq (KBy.special_eq look_bytes) ?_)
  refine wpAny_bind (wpAny_rule ?_)
  refine wpAny_bind (wpAny_typeOf (PySem.W.typeIs_bytes _ b t) ?_)
  refine bm_if_true rfl ?_
  refine bm_if_true rfl ?_
  first | exact wpAny_pure hQ | exact wpAny_pure ⟨_, rfl, hQ⟩ | exact wpAny_bind (wpAny_pure (wpAny_pure ⟨_, rfl, hQ⟩)) | exact hQ | trace_state
theorem call_bytes_bytes {b : Array UInt8} {t : Tok} {Q : Value → Shared → Prop} (hQ : Q (.bytes b t) s) : wpAny (model prog w) A (call (.type "bytes") [.bytes b t]) Q E s := by
  refine callType_codes (Q₁ := fun obj s₁ => s₁.TypeIs obj "bytes" ∧ Q obj s₁) PySem.F.bm_called (PySem.F.bm_typeCall _) PySem.F.entry_object_init
    (new_of_bytes ⟨PySem.W.typeIs_bytes _ _ _, hQ⟩) fun obj s₁ h₁ => ?_
  exact ⟨h₁.1, PySem.F.args_object_init_2 obj _, object_init_meets PySem.F.bm_called.init.lookup PySem.F.bm_called.made (by decide) prog w A.in1 _ s₁ ⟨h₁.1, rfl, h₁.2⟩⟩
end
end Mine
end
section
open PySem PySem.Calls PySem.W PyProof.Rows
set_option maxHeartbeats 4000000
namespace Mine
local macro_rules | `(tactic| walk_at "Never0") => `(tactic| fail)
local macro_rules | `(tactic| walk_at "Never1") => `(tactic| fail)
theorem rstAdd : True := by
  w_top off
  k_with_none
  trivial
theorem fillIt7 : PySem.Challenge.rw_no0070_01 = PySem.Challenge.rw_no0070_01 ∧ Mine.hd.heap_1 = Mine.hd.heap_1 := by
  k_fill
  exact ⟨rfl, rfl⟩

theorem seg_lt {oc : List UInt8} {a b : Nat} (h : oc.length < 1000) : (seg oc a b).size < 1000 := Nat.lt_of_le_of_lt (seg_le oc a b) h
theorem app_lt {oc : List UInt8} {a b c d : Nat} (h : oc.length < 1000) : (seg oc a b ++ seg oc c d).size < 3000 := by
  rw [Array.size_append]
  exact Nat.lt_trans (Nat.add_lt_add (seg_lt h) (seg_lt h)) (by decide)
local macro_rules | `(tactic| walk_at "SegSz") => `(tactic| first | exact Nat.lt_trans (seg_lt (by assumption)) (by decide) | exact app_lt (by assumption))
local macro_rules | `(tactic| walk_at "binaryOp Add") => `(tactic| (k_here; (with_reducible show wpAny _ _ (binaryOp _ (Value.bytes _ _) (Value.bytes _ _)) _ _ _); (refine' add_raw ?k1 ?k2 ?_; (case k1 => walk_at "SegSz"); (case k2 => walk_at "SegSz")); intro t5 k5; (try dsimp only)))
local macro_rules | `(tactic| walk_at "call type:bytes") => `(tactic| (k_here; (with_reducible show wpAny _ _ (call (Value.type "bytes") [Value.bytes _ _]) _ _ _); refine call_bytes_bytes ?_))
local macro_rules | `(tactic| walk_at "binaryOp Add ref ref") => `(tactic| (k_here; (with_reducible show wpAny _ _ (binaryOp _ (Value.ref _) (Value.ref _)) _ _ _); k_dflt (refine' kmk_add_lit ?F ?N ?a ?b rfl ?_ ?z; (case F => k_asm); (case N => k_asm); (case a => exact ⟨_, (News.get (by k_asm) (by k_mem)), rfl, _, rfl⟩); (case b => exact ⟨_, (News.get (by k_asm) (by k_mem)), rfl, _, rfl⟩); (case z => (simp only [List.length_append, List.length_cons, List.length_nil, List.size_toArray, sizeLine_eq]; omega))); (intro d5 h5 F5 N5 l5); (try k_lt l5); (try k_sweep)))

/-- the case of no octets: the very items again -/
theorem addNil_spec {w : World} {mean : ExcName → Option Value} {mg mb : Str → Option Value} {pl : Addr} {refs : List Value} {c : Nat} {oc : List UInt8} {o : Nat} {t u : Tok} (hoc : oc.length < 1000) (hlen : refs.length < 1000) (ho : o ≤ oc.length) :
    Spec w mean mg mb 48 [.ref pl, .int (o : Nat) t, .bytes (seg oc o o) u] 4 (fun g => g.get? pl = some (listOf refs.toArray c)) []
      (fun _ v foot' => ∃ pl' c', v = .ref pl' ∧ foot' = [(pl', listOf refs.toArray c')]) := by

  rintro dp un gd base outer A₀ g ⟨hp0, gn0, dr0, tk0, os0⟩ R B X T hPre O hdp hun hret
  refine' enterC (binds := [(Str.ofString "pieces", .ref pl), (Str.ofString "offset", .int (o : Nat) t), (Str.ofString "data", .bytes (seg oc o o) u)]) B rfl O X (Top.nolimit T) ?k6 ?k7 ?k8 ?k9 ?kB ?_ ?c2 ?c3 ?c4 ?c5
  case k6 => k_is
  case k7 => k_is
  case k8 => ktr_room
  case k9 => exact BindsTo.of_eq rfl
  case kB => exact locs rfl
  case c2 => exact rfl
  case c3 => exact rfl
  case c4 => exact rfl
  case c5 => decide
  intro L' h₁ F' N' B' hlt
  (try k_lt hlt)
  (try dsimp only)
  (try k_fold)
  have hL : g.IsList pl refs.toArray := ⟨_, hPre, rfl, _, rfl⟩
  k_steps
  · exact hret _ _ _ _ (Own.of (by assumption) (by assumption) (fun _ h => h)) ⟨_, _, rfl, rfl⟩
  · exfalso; omega

theorem All2.append {α β : Type} {R : α → β → Prop} {l m : List α} {l' m' : List β} (h : All2 R l l') (k : All2 R m m') : All2 R (l ++ m) (l' ++ m') := by
  induction h with
  | nil => exact k
  | cons r _ ih => exact .cons r ih
theorem All2.take {α β : Type} {R : α → β → Prop} {l : List α} {l' : List β} (h : All2 R l l') : ∀ n, All2 R (l.take n) (l'.take n) := by
  induction h with
  | nil => intro n; rw [List.take_nil, List.take_nil]; exact .nil
  | cons r _ ih =>
    intro n
    cases n with
    | zero => exact .nil
    | succ n => exact .cons r (ih n)
theorem All2.drop {α β : Type} {R : α → β → Prop} {l : List α} {l' : List β} (h : All2 R l l') : ∀ n, All2 R (l.drop n) (l'.drop n) := by
  induction h with
  | nil => intro n; rw [List.drop_nil, List.drop_nil]; exact .nil
  | cons r h ih =>
    intro n
    cases n with
    | zero => exact .cons r h
    | succ n => exact ih n
theorem pcs_keys {oc : List UInt8} {h₀ : Heap} {tl news : List (Addr × Obj)} {refs : List Value} {ps : List (Nat × Nat)} (h : Pcs oc (fun a o => (a, o) ∈ tl) refs ps) (hs : ∀ p ∈ tl, p ∈ news) : All2 (TupKL h₀ news) refs (ps.map fun p => (p.1 : Int)) := by
  induction h with
  | nil => exact .nil
  | cons r _ ih =>
    obtain ⟨T, t, t', n, e, hm⟩ := r
    exact .cons ⟨T, _, n, t, e, .inr (hs _ hm)⟩ ih
theorem start_facts {fs : List (Nat × Nat)} {b l : Nat} (S : Sep fs) (ha : ∀ p ∈ fs, p.2 < b ∨ l < p.1) (hbl : b < l) :
    (∀ i j, i < j → j < (fs.map fun p => (p.1 : Int)).length → (fs.map fun p => (p.1 : Int)).getD i 0 < (fs.map fun p => (p.1 : Int)).getD j 0) ∧ rankOf fs b ≤ (fs.map fun p => (p.1 : Int)).length ∧
    (∀ i, i < rankOf fs b → (fs.map fun p => (p.1 : Int)).getD i 0 < (b : Int)) ∧ (∀ i, rankOf fs b ≤ i → i < (fs.map fun p => (p.1 : Int)).length → (b : Int) < (fs.map fun p => (p.1 : Int)).getD i 0) := by
  obtain ⟨r1, r2, r3⟩ := rank_spec S ha hbl
  have at' : ∀ i, (hi : i < fs.length) → (fs.map fun p => (p.1 : Int)).getD i 0 = (fs[i].1 : Int) := fun i hi => by
    rw [List.getD_eq_getElem?_getD, List.getElem?_map, List.getElem?_eq_getElem hi]
    rfl
  rw [List.length_map]
  refine ⟨fun i j hij hj => ?_, r1, fun i hi => ?_, fun i hi hil => ?_⟩
  · have hi : i < fs.length := by omega
    rw [at' i hi, at' j hj]
    have a1 := sep_starts S hij (List.getElem?_eq_getElem hi) (List.getElem?_eq_getElem hj)
    have a2 := S.2 _ (List.getElem_mem hi)
    omega
  · have hil : i < fs.length := by omega
    rw [at' i hil]
    have hm : fs[i] ∈ fs.take (rankOf fs b) := by
      rw [List.mem_take_iff_getElem]
      exact ⟨i, by omega, rfl⟩
    have a1 := r2 _ hm
    have a2 := S.2 _ (List.getElem_mem hil)
    omega
  · rw [at' i hil]
    have hm : fs[i] ∈ fs.drop (rankOf fs b) := by
      rw [List.mem_drop_iff_getElem]
      exact ⟨i - rankOf fs b, by omega, by congr 1; omega⟩
    have a1 := r3 _ hm
    omega
theorem intB {v : Option Value} {x y : Int} {t : Tok} (h : v = some (.int x t)) (e : x = y) : v = some (.int y t) := by rw [h, e]
theorem bytB {v : Option Value} {x y : Array UInt8} {t : Tok} (h : v = some (.bytes x t)) (e : x = y) : v = some (.bytes y t) := by rw [h, e]
theorem rotD {α : Type} {a b c d : α} {l : List α} : ∀ p ∈ b :: c :: a :: l, p ∈ a :: d :: b :: c :: l := by
  intro p hp
  simp only [List.mem_cons] at hp ⊢
  rcases hp with h | h | h | h
  · exact .inr (.inr (.inl h))
  · exact .inr (.inr (.inr (.inl h)))
  · exact .inl h
  · exact .inr (.inr (.inr (.inr h)))
theorem joinEq {oc : List UInt8} {bg la a b x y : Nat} (h1 : bg < la) (h2 : la ≤ oc.length) (h3 : a < b) (h4 : b ≤ oc.length) (h5 : bg ≤ b) (h6 : a ≤ la) (hx : x = min (max a bg) la) (hy : y = max b bg) :
    seg oc bg x ++ seg oc a b ++ seg oc y la = seg oc (min bg a) (max la b) := by
  have e1 : seg oc bg x = seg oc (min bg a) a := by
    rcases Nat.le_total a bg with q | q
    · rw [seg_empty oc (hx ▸ Nat.le_trans (Nat.min_le_left _ _) (Nat.max_le.mpr ⟨q, Nat.le_refl _⟩)), seg_empty oc (Nat.le_min.mpr ⟨q, Nat.le_refl _⟩)]
    · rw [hx, Nat.max_eq_left q, Nat.min_eq_left h6, Nat.min_eq_left q]
  have ey : y = b := by rw [hy, Nat.max_eq_left h5]
  have e2 : seg oc y la = seg oc b (max la b) := by
    rw [ey]
    rcases Nat.le_total b la with q | q
    · rw [Nat.max_eq_left q]
    · rw [seg_empty oc q, seg_empty oc (by rw [Nat.max_eq_right q]; exact Nat.le_refl _)]
  rw [e1, e2, seg_append oc (Nat.min_le_right _ _) (Nat.le_of_lt h3) (Nat.le_trans (Nat.le_of_lt h3) h4), seg_append oc (Nat.le_trans (Nat.min_le_right _ _) (Nat.le_of_lt h3)) (Nat.le_max_right _ _) h4]
structure AdS where
  fs : List (Nat × Nat)
  bg : Nat
  la : Nat
  tb : Tok
  tj : Tok
  refs : List Value
  cc : Nat
  tl : List (Addr × Obj)

theorem add_spec {w : World} {mean : ExcName → Option Value} {mg mb : Str → Option Value} {pl : Addr} {refs : List Value} {c : Nat} {ps : List (Nat × Nat)} {oc : List UInt8} {lo o e : Nat} {t u : Tok} (hoc : oc.length ≤ 13)
    (S : Sep ps) (h1 : lo ≤ o) (h2 : o < e) (h3 : e ≤ oc.length) (hps : ∀ p ∈ ps, lo ≤ p.1 ∧ p.2 ≤ oc.length) :
    Spec w mean mg mb 48 [.ref pl, .int (o : Nat) t, .bytes (seg oc o e) u] 4 (fun g => g.get? pl = some (listOf refs.toArray c) ∧ Pcs oc (fun a o => g.get? a = some o) refs ps) []
      (fun _ v foot' => ∃ pl' c' refs', v = .ref pl' ∧ (pl', listOf refs'.toArray c') ∈ foot' ∧ Pcs oc (fun a o => (a, o) ∈ foot') refs' (insAdd ps o e)) := by

  rintro dp un gd base outer A₀ g ⟨hp0, gn0, dr0, tk0, os0⟩ R B X T hPre O hdp hun hret
  refine' enterC (binds := [(Str.ofString "pieces", .ref pl), (Str.ofString "offset", .int (o : Nat) t), (Str.ofString "data", .bytes (seg oc o e) u)]) B rfl O X (Top.nolimit T) ?k6 ?k7 ?k8 ?k9 ?kB ?_ ?c2 ?c3 ?c4 ?c5
  case k6 => k_is
  case k7 => k_is
  case k8 => ktr_room
  case k9 => exact BindsTo.of_eq rfl
  case kB => exact locs rfl
  case c2 => exact rfl
  case c3 => exact rfl
  case c4 => exact rfl
  case c5 => decide
  intro L' h₁ F' N' B' hlt
  (try k_lt hlt)
  (try dsimp only)
  (try k_fold)
  obtain ⟨hl, hP⟩ := hPre
  have hRL : refs.length = ps.length := hP.length
  have hoc' : oc.length < 1000 := Nat.lt_of_le_of_lt hoc (by decide)
  have hlen : ps.length < 8 := by
    exact len_of (sep_length S hps) hoc (by decide)
  k_steps
  · exfalso; omega
  rename_i found _ _ D _ l1 _ _ _ hh F2 N2
  refine' ForPairS (σ := AdS) (P := fun i v0 v1 => ∃ a b t t', ps[i]? = some (a, b) ∧ v0 = .int (a : Nat) t ∧ v1 = .bytes (seg oc a b) t') (fun c => (found, listOf c.refs.toArray c.cc) :: c.tl) (fun c => [(Str.ofString "begin", .int (c.bg : Nat) c.tb), (Str.ofString "joined", .bytes (seg oc c.bg c.la) c.tj)]) [Str.ofString "octets", Str.ofString "end", Str.ofString "last", Str.ofString "ahead", Str.ofString "behind"]
      (fun i c => addFold (ps.take i) o e = (c.fs, c.bg, c.la) ∧ Pcs oc (fun a o => (a, o) ∈ c.tl) c.refs c.fs ∧ OwnOff c.tl [found] ∧ c.refs.length ≤ i) ⟨[], o, e, ?tb, ?tj, [], 0, []⟩ rfl rfl rfl rfl rfl (by decide) rfl rfl hl ?hit F2 ?hN ?hk ?h0 ?turn ?done
  case hit =>
    intro i v hv
    obtain ⟨⟨a, b⟩, hp, T, t, t', n, rfl, hT⟩ := forall2_at hP hv
    exact ⟨T, _, _, n, rfl, hT, a, b, t, t', hp, rfl, rfl⟩
  case hN => exact fun p hp => N2 p (.tail _ hp)
  case hk => exact List.forall_mem_cons.mpr ⟨by with_unfolding_all rfl, List.forall_mem_singleton.mpr (by with_unfolding_all rfl)⟩
  case h0 => exact ⟨by rw [List.take_zero]; rfl, .nil, fun p hp => (nomatch hp), Nat.le_refl _⟩
  case turn =>
    rintro I - i v0 v1 ⟨fs, bg, la, tb, tj, rs, cc, tl⟩ u h tk oI hi ⟨a, b, t1, t2, hp, rfl, rfl⟩ ⟨hf, hPc, hoff, hrl⟩ hne F1 N1
    clear F2 N2 l1
    have K := KInv.all S h1 h2 h3 hps i (by omega)
    dsimp only at hf hPc hoff hrl F1 N1
    rw [hf] at K
    have hK1 := K.lt
    have hK2 := K.hi
    have hab := S.2 _ (List.mem_of_getElem? hp)
    have hab2 := hps _ (List.mem_of_getElem? hp)
    have hIl := hne _ (.head _)
    dsimp only at hab hab2 hIl hK1 hK2
    k_steps
    all_goals (dsimp only [PairPost])
    · rename_i D _ l2 _ F3 N3
      (try simp only [List.push_toArray] at N3)
      have hlt := allLt_mem l2.2.2.2
      refine pairEnd ⟨fs ++ [(a, b)], bg, la, tb, tj, rs ++ [Value.ref D], _, _ :: tl⟩ F3 N3 rotD ?_ (List.forall_mem_cons.mpr ⟨rfl, List.forall_mem_singleton.mpr rfl⟩) (by walk_at "Same") ⟨?_, ?_, ?_, ?_⟩
      · intro p hp
        rcases List.mem_cons.mp hp with rfl | hp
        · exact hIl
        rcases List.mem_cons.mp hp with rfl | hp
        · exact Nat.ne_of_gt l2.2.1
        · exact hne p (.tail _ hp)
      · rw [take_snoc hp, addFold_snoc, hf]
        unfold addStep
        rw [if_pos (by first | (left; show b < bg; omega) | (right; show la < a; omega))]
      · exact All2.snoc (Pcs.mono hPc fun _ _ h => List.Mem.tail _ h) ⟨_, _, _, _, rfl, List.Mem.head _⟩
      · intro p hp b hb
        rw [List.mem_singleton] at hb
        subst hb
        rcases List.mem_cons.mp hp with rfl | hp
        · exact Nat.ne_of_gt l2.2.2.1
        · exact hoff p hp _ (.head _)
      · show (rs ++ [Value.ref D]).length ≤ i + 1
        rw [List.length_append, List.length_singleton]
        omega
    · rename_i D _ l2 _ F3 N3
      (try simp only [List.push_toArray] at N3)
      have hlt := allLt_mem l2.2.2.2
      refine pairEnd ⟨fs ++ [(a, b)], bg, la, tb, tj, rs ++ [Value.ref D], _, _ :: tl⟩ F3 N3 rotD ?_ (List.forall_mem_cons.mpr ⟨rfl, List.forall_mem_singleton.mpr rfl⟩) (by walk_at "Same") ⟨?_, ?_, ?_, ?_⟩
      · intro p hp
        rcases List.mem_cons.mp hp with rfl | hp
        · exact hIl
        rcases List.mem_cons.mp hp with rfl | hp
        · exact Nat.ne_of_gt l2.2.1
        · exact hne p (.tail _ hp)
      · rw [take_snoc hp, addFold_snoc, hf]
        unfold addStep
        rw [if_pos (by first | (left; show b < bg; omega) | (right; show la < a; omega))]
      · exact All2.snoc (Pcs.mono hPc fun _ _ h => List.Mem.tail _ h) ⟨_, _, _, _, rfl, List.Mem.head _⟩
      · intro p hp b hb
        rw [List.mem_singleton] at hb
        subst hb
        rcases List.mem_cons.mp hp with rfl | hp
        · exact Nat.ne_of_gt l2.2.2.1
        · exact hoff p hp _ (.head _)
      · show (rs ++ [Value.ref D]).length ≤ i + 1
        rw [List.length_append, List.length_singleton]
        omega
    · rename_i D _ l2 _ _ _ F3 N3
      refine' pairEnd ⟨fs, min bg a, max la b, ?tb2, ?tj2, rs, cc, tl⟩ F3 N3 (fun _ h => .tail _ (.tail _ h)) hne ?hk (by walk_at "Same") ⟨?h1, hPc, hoff, ?h2⟩
      case hk =>
        refine' List.forall_mem_cons.mpr ⟨intB ?e1 ?e2, List.forall_mem_singleton.mpr (bytB ?e3 ?e4)⟩
        case e1 => with_unfolding_all rfl
        case e3 => with_unfolding_all rfl
        case e2 => ((try dsimp only); split <;> omega)
        case e4 => exact joinEq hK1 hK2 hab hab2.2 (by omega) (by omega) (by first | exact congrArg (min · la) (posAdd rfl) | omega) (by first | exact posAdd (by rw [subAdd]) | omega)
      case h1 =>
        rw [take_snoc hp, addFold_snoc, hf]
        unfold addStep
        rw [if_neg (by show ¬ (b < bg ∨ la < a); omega)]
      case h2 => show rs.length ≤ i + 1; omega
  case done =>
    rintro ⟨fs, bg, la, tb, tj, rs, cc, tl⟩ u h tk ⟨hf, hPc, hoff, hrl⟩ F1 N1
    clear F2 N2 l1
    rw [hRL, List.take_length] at hf
    dsimp only at hf hPc hoff hrl F1 N1
    have K := KInv.all S h1 h2 h3 hps ps.length (Nat.le_refl _)
    rw [List.take_length, hf] at K
    have hK1 := K.lt
    have Sx := sep_of_sublist S K.sub
    obtain ⟨s1, s2, s3, s4⟩ := start_facts Sx K.apart K.lt
    have hrf : rs.length = fs.length := hPc.length
    k_steps
    rename_i T _ lT lst _ ll d5 _ F5 N5 l5
    by_cases hz : rs = []
    · subst hz
      have hfz : fs = [] := by
        cases fs with
        | nil => rfl
        | cons _ _ => cases hrf
      subst hfz
      refine sort_one F5 N5 ⟨_, (N5 _ (.head _)).1, rfl, _, rfl⟩ fun D c' h' tk' F' N' hD => ?_
      refine hret _ _ _ _ (Own.of F' N' (fun _ h => h)) ⟨D, c', [Value.ref T], rfl, .head _, ?_⟩
      unfold insAdd
      rw [hf]
      exact .cons ⟨_, _, _, _, rfl, .tail _ (.tail _ (.tail _ (.head _)))⟩ .nil
    · have hpos : 1 ≤ rs.length := by
        cases rs with
        | nil => exact absurd rfl hz
        | cons _ _ => rw [List.length_cons]; omega
      refine sort_many (vs := rs) (v := Value.ref T) (ks := fs.map fun p => (p.1 : Int)) (k := (bg : Int)) (r := rankOf fs bg) F5 N5 ⟨_, (N5 _ (.head _)).1, rfl, _, rfl⟩ hpos (by omega)
        (All2.snoc (pcs_keys hPc fun _ h => .tail _ (.tail _ (.tail _ (.tail _ h)))) ⟨T, _, _, _, rfl, .inr (.tail _ (.tail _ (.head _)))⟩) s1 s2 s3 s4 fun D c' h' tk' F' N' hD => ?_
      refine hret _ _ _ _ (Own.of F' N' (fun _ h => h)) ⟨D, c', _, rfl, .head _, ?_⟩
      unfold insAdd
      rw [hf]
      have hPx : ∀ X : List (Addr × Obj), (∀ p ∈ tl, p ∈ X) → Pcs oc (fun a o => (a, o) ∈ X) rs fs := fun X hX => Pcs.mono hPc fun _ _ h => hX _ h
      refine' All2.append (All2.take (hPx _ ?s1) _) (.cons ⟨_, _, _, _, rfl, .tail _ (.tail _ (.tail _ (.head _)))⟩ (All2.drop (hPx _ ?s2) _))
      case s1 => exact fun _ h => .tail _ (.tail _ (.tail _ (.tail _ (.tail _ h))))
      case s2 => exact fun _ h => .tail _ (.tail _ (.tail _ (.tail _ (.tail _ h))))
end Mine
end
section
open PySem PySem.Calls PySem.W PyProof.Rows
namespace Mine
theorem rstPut : True := by
  w_top off
  k_with_none
  trivial
/-- an entry under a name that stands is given another value -/
inductive Put (name : Str) (v : Value) : List DictEntry → List DictEntry → Prop
  | head {h k o r} : Put name v (⟨h, .str name k, o⟩ :: r) (⟨h, .str name k, v⟩ :: r)
  | tail {e r r'} : e.key.isStr name = false → Put name v r r' → Put name v (e :: r) (e :: r')
theorem isStr_self (name : Str) (k : Tok) : (Value.str name k).isStr name = true := by
  show (name == name) = true
  exact beq_self_eq_true name
theorem Put.spec {name : Str} {v : Value} {es es' : List DictEntry} (P : Put name v es es') (hsh : Int) (key : Value) : putL name hsh key v es = es' ∧ es.any (·.key.isStr name) = true ∧ (getL name es).isSome = true := by
  induction P with
  | head =>
    refine ⟨?_, ?_, ?_⟩
    · unfold putL
      rw [if_pos (isStr_self _ _)]
    · rw [List.any_cons, isStr_self, Bool.true_or]
    · unfold getL
      rw [List.find?_cons]
      simp only [isStr_self]
      rfl
  | @tail e r r' h _ ih =>
    obtain ⟨a, b, c⟩ := ih
    refine ⟨?_, ?_, ?_⟩
    · unfold putL
      rw [if_neg (by rw [h]; exact Bool.false_ne_true), a]
    · rw [List.any_cons, b, Bool.or_true]
    · unfold getL
      rw [List.find?_cons, h]
      cases q : List.find? (fun x => x.key.isStr name) r with
      | some x => simp
      | none =>
        exfalso
        rw [List.find?_eq_none] at q
        obtain ⟨x, hx, hy⟩ := List.any_eq_true.mp b
        exact q x hx hy
section
variable {prog : Program} {w : World} {A A₀ : Around} {E : Value → Shared → Prop} {s : Shared} {K : Frag} {x C dx L : Addr} {h₀ : Heap} {m : Str → Option Value} {news news' : List (Addr × Obj)} {ox od : Obj} {es es' : List DictEntry} {n n' : Nat} {name : Str} {v : Value}
theorem set_put {Q : Unit → Shared → Prop} (F : Fr h₀ L s.heap m) (X₀ : K.In h₀) (N : News h₀ L s.heap news) (I : InstAt s.heap x ox C (some (dictOf es n))) (hd : ox.dict = some dx)
    (hs : findIn K (.ref C) "__setattr__" = some (some (.builtin "object.__setattr__"))) (hp : plainOver K C = true) (ht : takerIn K C name = some none) (hh : hasDictIn K C = true)
    (P : Put name v es es') (U : Upd dx (dictOf es n) (dictOf es' n) news news') (hz : es'.length ≤ 1000)
    (h : ∀ h', Fr h₀ L h' m → News h₀ L h' news' → Q () { s with heap := h', toks := s.toks + 2 }) :
    wpAny (model prog w) A (setAttr (.ref x) name v) Q E s := by
  obtain ⟨a, b, c⟩ := P.spec (PyData.keyHash w.params name) (.str name (s.toks + 1))
  refine set_dict F X₀ N I hd hs hp ht hh c (n' := n) ?_ U hz h
  rw [a]
  unfold putN
  rw [if_pos b]
end
end Mine
end
section
local macro_rules | `(tactic| walk_at "Put") => `(tactic| first | exact Put.head | (refine' Put.tail ?p1 ?p2; (case p1 => with_unfolding_all rfl); (case p2 => walk_at "Put")))
local macro_rules | `(tactic| walk_at "setAttr ref") => `(tactic| (k_here; k_dflt (refine' set_put ?k1 ?k2 ?k3 ?k4 ?k5 ?k6 ?k7 ?k8 ?k9 ?k11 ?k12 ?k13 ?_; (case k1 => k_asm); (case k2 => k_asm); (case k3 => k_asm); (case k4 => k_inst); (case k5 => exact rfl); (case k6 => k_is); (case k7 => k_is); (case k8 => k_is); (case k9 => k_is); (case k11 => walk_at "Put"); (case k12 => k_upd); (case k13 => exact Nat.le_of_ble_eq_true rfl); k_whole); (intro h5 F5 N5); (try k_sweep)))
section
open PySem PySem.Calls PySem.W PyProof.Rows
set_option maxHeartbeats 4000000
namespace Mine
theorem rstPart : True := by
  w_top off
  k_with_none
  trivial
theorem fillIt8 : PySem.Challenge.rw_no0070_01 = PySem.Challenge.rw_no0070_01 ∧ Mine.hd.heap_1 = Mine.hd.heap_1 := by
  k_fill
  exact ⟨rfl, rfl⟩

/-- the attributes of a part -/
def partD (h1 h2 h3 h4 h5 h6 h7 h8 : Int) (k1 k2 k3 k4 k5 k6 k7 k8 : Tok) (lim : Int) (t1 : Tok) (st : Str) (t2 : Tok) (pl : Addr) (r : Int) (t4 : Tok) (H : Int) (t5 : Tok) (fv : Value) (nn : Nat) : Obj :=
  dictOf [⟨h1, .str (Str.ofString "limit") k1, .int lim t1⟩, ⟨h2, .str (Str.ofString "state") k2, .str st t2⟩, ⟨h3, .str (Str.ofString "pieces") k3, .ref pl⟩, ⟨h4, .str (Str.ofString "read_to") k4, .int r t4⟩, ⟨h5, .str (Str.ofString "highest") k5, .int H t5⟩,
    ⟨h6, .str (Str.ofString "final_size") k6, fv⟩, ⟨h7, .str (Str.ofString "reset_code") k7, .none⟩, ⟨h8, .str (Str.ofString "stop_code") k8, .none⟩] nn
inductive PartOk (lim : Int) (st : Str) (pl : Addr) (r H : Nat) (fin : Bool) (n : Nat) (od : Obj) : Prop
  | mk (h1 h2 h3 h4 h5 h6 h7 h8 : Int) (k1 k2 k3 k4 k5 k6 k7 k8 t1 t2 t4 t5 : Tok) (fv : Value) (nn : Nat) (e : od = partD h1 h2 h3 h4 h5 h6 h7 h8 k1 k2 k3 k4 k5 k6 k7 k8 lim t1 st t2 pl (r : Nat) t4 (H : Nat) t5 fv nn) (hf : if fin = true then ∃ t6, fv = .int (n : Nat) t6 else fv = .none) : PartOk lim st pl r H fin n od
theorem PartOk.intro {lim : Int} {st : Str} {pl : Addr} {r H : Nat} {fin : Bool} {n : Nat} {h1 h2 h3 h4 h5 h6 h7 h8 xl xr xh : Int} {k1 k2 k3 k4 k5 k6 k7 k8 t1 t2 t4 t5 : Tok} {xs : Str} {fv : Value} {nn : Nat} (e1 : xl = lim) (e2 : xs = st) (e3 : xr = (r : Nat)) (e4 : xh = (H : Nat)) (hf : if fin = true then ∃ t6, fv = .int (n : Nat) t6 else fv = .none) :
    PartOk lim st pl r H fin n (dictOf [⟨h1, .str (Str.ofString "limit") k1, .int xl t1⟩, ⟨h2, .str (Str.ofString "state") k2, .str xs t2⟩, ⟨h3, .str (Str.ofString "pieces") k3, .ref pl⟩, ⟨h4, .str (Str.ofString "read_to") k4, .int xr t4⟩, ⟨h5, .str (Str.ofString "highest") k5, .int xh t5⟩,
      ⟨h6, .str (Str.ofString "final_size") k6, fv⟩, ⟨h7, .str (Str.ofString "reset_code") k7, .none⟩, ⟨h8, .str (Str.ofString "stop_code") k8, .none⟩] nn) := by
  subst e1 e2 e3 e4
  exact ⟨h1, h2, h3, h4, h5, h6, h7, h8, k1, k2, k3, k4, k5, k6, k7, k8, t1, t2, t4, t5, fv, nn, rfl, hf⟩
theorem PartOk.st {lim : Int} {st st' : Str} {pl : Addr} {r H : Nat} {fin : Bool} {n : Nat} {od : Obj} (P : PartOk lim st pl r H fin n od) (e : st = st') : PartOk lim st' pl r H fin n od := e ▸ P
def stOf (fin done all : Bool) : Str := wordS fin true done all

theorem apartL {tl ex : List (Addr × Obj)} {adr : List Addr} (h : OwnOff tl adr) (e : ex.map (·.1) = adr) : ∀ p ∈ ex, ∀ q ∈ tl, p.1 ≠ q.1 := fun p hp q hq z => h q hq p.1 (e ▸ List.mem_map_of_mem hp) z.symm
theorem offL {tl ex : List (Addr × Obj)} {adr : List Addr} (h : ∀ p ∈ tl, ∀ q ∈ ex, p.1 ≠ q.1) (e : ex.map (·.1) = adr) : OwnOff tl adr := fun p hp b hb => by
  subst e
  obtain ⟨q, hq, rfl⟩ := List.mem_map.mp hb
  exact h p hp q hq
theorem check_spec {w : World} {mean : ExcName → Option Value} {mg mb : Str → Option Value} {part dx : Addr} {od : Obj} {lim : Int} {st : Str} {pl : Addr} {r H n e : Nat} {fin isEnd : Bool} {t u : Tok}
    (hP : PartOk lim st pl r H fin n od) (hne : @Ne Nat part dx) (h1 : e ≤ n) (h2 : isEnd = true → e = n) (h3 : H ≤ n) (h4 : (e : Int) ≤ lim) :
    Spec w mean mg mb 88 [.ref part, .int (e : Nat) t, .bool isEnd, .int 8 u] 2 (fun _ => True) [(part, instObj 154 dx), (dx, od)] (fun _ v foot' => v = .none ∧ foot' = [(part, instObj 154 dx), (dx, od)]) := by
  obtain ⟨a1, a2, a3, a4, a5, a6, a7, a8, k1, k2, k3, k4, k5, k6, k7, k8, t1, t2, t4, t5, fv, nn, rfl, hf⟩ := hP
  unfold partD

  rintro dp un gd base outer A₀ g ⟨hp0, gn0, dr0, tk0, os0⟩ R B X T hPre O hdp hun hret
  refine' enterC (binds := [(Str.ofString "self", .ref part), (Str.ofString "end", .int (e : Nat) t), (Str.ofString "is_final", .bool isEnd), (Str.ofString "frame_type", .int 8 u)]) B rfl O X (Top.nolimit T) ?k6 ?k7 ?k8 ?k9 ?kB ?_ ?c2 ?c3 ?c4 ?c5
  case k6 => k_is
  case k7 => k_is
  case k8 => ktr_room
  case k9 => exact BindsTo.of_eq rfl
  case kB => exact locs rfl
  case c2 => exact rfl
  case c3 => exact rfl
  case c4 => exact rfl
  case c5 => decide
  intro L' h₁ F' N' B' hlt
  (try k_lt hlt)
  (try dsimp only)
  (try k_fold)
  cases fin
  · simp only [Bool.false_eq_true, if_false] at hf
    subst hf
    cases isEnd
    · k_steps
      all_goals first | (exfalso; omega) | (dsimp only; exact hret _ _ _ _ (Own.of (by assumption) (by assumption) (fun _ h => h)) ⟨rfl, rfl⟩)
    · have h2' := h2 rfl
      k_steps
      all_goals first | (exfalso; omega) | (dsimp only; exact hret _ _ _ _ (Own.of (by assumption) (by assumption) (fun _ h => h)) ⟨rfl, rfl⟩)
  · simp only [if_true] at hf
    obtain ⟨t6, rfl⟩ := hf
    cases isEnd
    · k_steps
      all_goals first | (exfalso; omega) | (dsimp only; exact hret _ _ _ _ (Own.of (by assumption) (by assumption) (fun _ h => h)) ⟨rfl, rfl⟩)
    · have h2' := h2 rfl
      k_steps
      all_goals first | (exfalso; omega) | (dsimp only; exact hret _ _ _ _ (Own.of (by assumption) (by assumption) (fun _ h => h)) ⟨rfl, rfl⟩)


theorem grown_spec {w : World} {mean : ExcName → Option Value} {mg mb : Str → Option Value} {part dx : Addr} {od : Obj} {lim : Int} {st : Str} {pl : Addr} {r H n e : Nat} {fin : Bool} {t : Tok}
    (hP : PartOk lim st pl r H fin n od) (hne : @Ne Nat part dx) :
    Spec w mean mg mb 95 [.ref part, .int (e : Nat) t] 2 (fun _ => True) [(part, instObj 154 dx), (dx, od)] (fun _ v foot' => ∃ tk od', v = .int ((e - H : Nat) : Int) tk ∧ foot' = [(part, instObj 154 dx), (dx, od')] ∧ PartOk lim st pl r (max H e) fin n od') := by
  obtain ⟨a1, a2, a3, a4, a5, a6, a7, a8, k1, k2, k3, k4, k5, k6, k7, k8, t1, t2, t4, t5, fv, nn, rfl, hf⟩ := hP
  unfold partD

  rintro dp un gd base outer A₀ g ⟨hp0, gn0, dr0, tk0, os0⟩ R B X T hPre O hdp hun hret
  refine' enterC (binds := [(Str.ofString "self", .ref part), (Str.ofString "end", .int (e : Nat) t)]) B rfl O X (Top.nolimit T) ?k6 ?k7 ?k8 ?k9 ?kB ?_ ?c2 ?c3 ?c4 ?c5
  case k6 => k_is
  case k7 => k_is
  case k8 => ktr_room
  case k9 => exact BindsTo.of_eq rfl
  case kB => exact locs rfl
  case c2 => exact rfl
  case c3 => exact rfl
  case c4 => exact rfl
  case c5 => decide
  intro L' h₁ F' N' B' hlt
  (try k_lt hlt)
  (try dsimp only)
  (try k_fold)
  k_steps
  dsimp only
  exact hret _ _ _ _ (Own.of (by assumption) (by assumption) (fun _ h => h)) ⟨_, _, congrArg (Value.int · _) (by first | exact ifSub | (split <;> omega)), rfl, PartOk.intro rfl rfl rfl (by first | exact ifAdd | (split <;> omega)) hf⟩

theorem hasAll_spec {w : World} {mean : ExcName → Option Value} {mg mb : Str → Option Value} {part dx : Addr} {od : Obj} {lim : Int} {st : Str} {pl : Addr} {r H n : Nat} {refs : List Value} {c : Nat} {ps : List (Nat × Nat)} {oc : List UInt8} {tl : List (Addr × Obj)}
    (hP : PartOk lim st pl r H true n od) (hne : @Ne Nat part dx) (hoff : OwnOff tl [part, dx]) (hm : (pl, listOf refs.toArray c) ∈ tl) (hps : Pcs oc (fun a o => (a, o) ∈ tl) refs ps) (hin : InB oc ps) (hoc : oc.length < 1000) (hlen : ps.length < 1000) :
    Spec w mean mg mb 109 [.ref part] 8 (fun _ => True) ((part, instObj 154 dx) :: (dx, od) :: tl)
      (fun _ v foot' => ∃ tl', v = .bool (decide (n ≤ r) || ps.any fun p => decide (p.1 ≤ r) && decide (n ≤ p.2)) ∧ foot' = (part, instObj 154 dx) :: (dx, od) :: tl' ∧ (∀ p ∈ tl, p ∈ tl') ∧ OwnOff tl' [part, dx]) := by
  obtain ⟨a1, a2, a3, a4, a5, a6, a7, a8, k1, k2, k3, k4, k5, k6, k7, k8, t1, t2, t4, t5, fv, nn, rfl, hf⟩ := hP
  simp only [if_true] at hf
  obtain ⟨t6, rfl⟩ := hf
  unfold partD

  rintro dp un gd base outer A₀ g ⟨hp0, gn0, dr0, tk0, os0⟩ R B X T hPre O hdp hun hret
  refine' enterC (binds := [(Str.ofString "self", .ref part)]) B rfl O X (Top.nolimit T) ?k6 ?k7 ?k8 ?k9 ?kB ?_ ?c2 ?c3 ?c4 ?c5
  case k6 => k_is
  case k7 => k_is
  case k8 => ktr_room
  case k9 => exact BindsTo.of_eq rfl
  case kB => exact locs rfl
  case c2 => exact rfl
  case c3 => exact rfl
  case c4 => exact rfl
  case c5 => decide
  intro L' h₁ F' N' B' hlt
  (try k_lt hlt)
  (try dsimp only)
  (try k_fold)
  k_steps
  refine' Spec.useR (rest := [(part, instObj 154 dx), (dx, _)]) (covered_spec (pl := pl) (refs := refs) (ps := ps) (oc := oc) (tl := tl) hm hps hin hoc hlen) B' F' X T N' rfl (Sel.skip (Sel.skip Sel.whole)) (apartL hoff rfl) (fun _ _ _ => trivial) ?uh ?uu ?_
  case uh => ktr_room
  case uu => ktr_units
  rintro v9 tl' h9 tk9 F9 N9 x9 ⟨sl, c', refs', rfl, hm', hT, hsub⟩
  simp only [List.cons_append, List.nil_append] at N9
  clear F' N'
  dsimp only
  k_steps
  refine' Spec.useR (foot := []) (hasSpan_spec (refs := refs') (c := c') (ps := ps.map spI)) B' F9 X T N9 rfl Sel.nil (fun _ _ _ h => (nomatch h)) (fun g' _ hr => ⟨hr _ (.tail _ (.tail _ hm')), hT.mono fun _ _ ⟨T, t, t', n, e, hx⟩ => ⟨T, t, t', n, e, hr _ (.tail _ (.tail _ hx))⟩⟩) ?uh ?uu ?_
  case uh => ktr_room
  case uu => ktr_units
  rintro v8 f8 h8 tk8 F8 N8 x8 ⟨rfl, rfl⟩
  rw [List.append_nil] at N8
  clear F9 N9
  dsimp only
  k_steps
  refine hret _ _ _ _ (Own.of (by assumption) (by assumption) (fun _ h => h)) ⟨tl', congrArg Value.bool ?_, rfl, hsub, offL x9 rfl⟩
  simp only [List.any_map, Function.comp_def, spI, Int.ofNat_le]

section
variable {w : World} {mean : ExcName → Option Value} {mg mb : Str → Option Value} {dp un : Nat} {gd : Option (List Code)} {cn : Str} {cs : Scope} {a : Addr} {ccd : Value} {cl : List (Str × Addr)} {outer : List Env} {A₀ : Around} {base h₀ : Heap} {L : Addr} {m : Str → Option Value} {news rest : List (Addr × Obj)}
  {h : Heap} {gens : Array GenState} {drawn : Drawn} {tk : Nat} {os : OsState} {Q E : Value → Shared → Prop}
theorem checkUse {part dx : Addr} {od : Obj} {lim : Int} {r H : Nat} {fin : Bool} {pl : Addr} {st : Str} {n e : Nat} {x : Int} {isEnd : Bool} {t u : Tok} (hP : PartOk lim st pl r H fin n od) (hne : @Ne Nat part dx) (h1 : e ≤ n) (h2 : isEnd = true → e = n) (h3 : H ≤ n) (h4 : (e : Int) ≤ lim) (hx : x = (e : Nat)) (B : Below A₀ base outer h₀) (F : Fr h₀ L h m) (X : (Mine.hd.heap_1 w.params).In h₀) (T : Top VW (looseW VW []) mean mg mb h₀) (N : News h₀ L h news) (hk : cs.kind = .function)
    (hs : Sel [(part, instObj 154 dx), (dx, od)] news rest) (hd : ∀ p ∈ rest, ∀ q ∈ [(part, instObj 154 dx), (dx, od)], p.1 ≠ q.1) (hdp : dp + 2 < recursionLimit) (hun : un + 8 * 2 < cLine)
    (ret : ∀ h' tk', Fr h₀ L h' m → News h₀ L h' ((part, instObj 154 dx) :: (dx, od) :: rest) → Q (.none) ⟨h', gens, drawn, tk', os⟩) :
    wpAny (model PG w) (ktrTop dp un gd cn cs L a ccd cl outer) (call (.ref 88) [.ref part, .int x t, .bool isEnd, .int 8 u]) Q E ⟨h, gens, drawn, tk, os⟩ := by
  subst hx
  refine Spec.use (check_spec hP hne h1 h2 h3 h4) B F X T N hk hs hd (fun _ _ _ => trivial) hdp hun fun v f h' tk' F' N' _ P => ?_
  obtain ⟨rfl, rfl⟩ := P
  exact ret h' tk' F' N'
theorem grownUse {part dx : Addr} {od : Obj} {lim : Int} {r H : Nat} {fin : Bool} {pl : Addr} {st : Str} {n e : Nat} {x : Int} {t : Tok} (hP : PartOk lim st pl r H fin n od) (hne : @Ne Nat part dx) (hx : x = (e : Nat)) (B : Below A₀ base outer h₀) (F : Fr h₀ L h m) (X : (Mine.hd.heap_1 w.params).In h₀) (T : Top VW (looseW VW []) mean mg mb h₀) (N : News h₀ L h news) (hk : cs.kind = .function)
    (hs : Sel [(part, instObj 154 dx), (dx, od)] news rest) (hd : ∀ p ∈ rest, ∀ q ∈ [(part, instObj 154 dx), (dx, od)], p.1 ≠ q.1) (hdp : dp + 2 < recursionLimit) (hun : un + 8 * 2 < cLine)
    (ret : ∀ t' od' h' tk', PartOk lim st pl r (max H e) fin n od' → Fr h₀ L h' m → News h₀ L h' ((part, instObj 154 dx) :: (dx, od') :: rest) → Q (.int ((e - H : Nat) : Int) t') ⟨h', gens, drawn, tk', os⟩) :
    wpAny (model PG w) (ktrTop dp un gd cn cs L a ccd cl outer) (call (.ref 95) [.ref part, .int x t]) Q E ⟨h, gens, drawn, tk, os⟩ := by
  subst hx
  refine Spec.use (grown_spec hP hne) B F X T N hk hs hd (fun _ _ _ => trivial) hdp hun fun v f h' tk' F' N' _ P => ?_
  obtain ⟨t', od', rfl, rfl, P'⟩ := P
  exact ret t' od' h' tk' P' F' N'
end
end Mine
end
section
open PySem PySem.Calls PySem.W PyProof.Rows
set_option maxHeartbeats 4000000
namespace Mine
local macro_rules | `(tactic| walk_at "Never0") => `(tactic| fail)
theorem rstStream : True := by
  w_top off
  k_with_none
  trivial
theorem fillIt9 : PySem.Challenge.rw_no0070_01 = PySem.Challenge.rw_no0070_01 ∧ Mine.hd.heap_1 = Mine.hd.heap_1 := by
  k_fill
  exact ⟨rfl, rfl⟩

def allB (n r : Nat) (ps : List (Nat × Nat)) : Bool := decide (n ≤ r) || ps.any fun p => decide (p.1 ≤ r) && decide (n ≤ p.2)
theorem all_iff {n r : Nat} {ps : List (Nat × Nat)} (S : Sep ps) : allB n r ps = true ↔ ∀ k, r ≤ k → k < n → Cov ps k := by
  unfold allB
  rw [Bool.or_eq_true, decide_eq_true_eq, List.any_eq_true]
  constructor
  · rintro (h | ⟨p, hp, h⟩) k h1 h2
    · omega
    · simp only [Bool.and_eq_true, decide_eq_true_eq] at h
      exact ⟨p, hp, by omega, by omega⟩
  · intro h
    by_cases hn : n ≤ r
    · exact .inl hn
    · right
      obtain ⟨p, hp, h1, h2⟩ := h r (Nat.le_refl _) (by omega)
      refine ⟨p, hp, ?_⟩
      simp only [Bool.and_eq_true, decide_eq_true_eq]
      refine ⟨h1, ?_⟩
      false_or_by_contra
      rename_i hc
      obtain ⟨q, hq, h3, h4⟩ := h p.2 (by omega) (by omega)
      obtain ⟨i, hi, ei⟩ := List.getElem_of_mem hp
      obtain ⟨j, hj, ej⟩ := List.getElem_of_mem hq
      rcases Nat.lt_trichotomy i j with z | z | z
      · have := sep_starts S z (List.getElem?_eq_getElem hi) (List.getElem?_eq_getElem hj)
        rw [ei, ej] at this
        omega
      · subst z
        rw [ei] at ej
        subst ej
        omega
      · have := sep_starts S z (List.getElem?_eq_getElem hj) (List.getElem?_eq_getElem hi)
        rw [ei, ej] at this
        omega

/-- the part between two calls: its attributes, its pieces, what they cover -/
inductive PInv (oc : List UInt8) (part dx : Addr) (od : Obj) (tl : List (Addr × Obj)) (lim : Int) (r H : Nat) (fin done : Bool) (C : Nat → Prop) : Prop
  | mk (pl : Addr) (refs : List Value) (c : Nat) (ps : List (Nat × Nat)) (hP : PartOk lim (stOf fin done (allB oc.length r ps)) pl r H fin oc.length od) (hm : (pl, listOf refs.toArray c) ∈ tl) (hps : Pcs oc (fun a o => (a, o) ∈ tl) refs ps) (S : Sep ps) (hb : ∀ p ∈ ps, r ≤ p.1 ∧ p.2 ≤ oc.length) (hC : ∀ k, r ≤ k → (C k ↔ Cov ps k))
      (hoff : OwnOff tl [part, dx]) (hdone : done = true → fin = true ∧ r = oc.length) (hr : r ≤ oc.length) (hH : H ≤ oc.length) (hfin : fin = true → H = oc.length) : PInv oc part dx od tl lim r H fin done C
section
variable {oc : List UInt8} {part dx : Addr} {od : Obj} {tl : List (Addr × Obj)} {lim : Int} {r H : Nat} {fin done : Bool} {C : Nat → Prop}
theorem PInv.hoff (P : PInv oc part dx od tl lim r H fin done C) : OwnOff tl [part, dx] := by cases P; assumption
theorem PInv.hr (P : PInv oc part dx od tl lim r H fin done C) : r ≤ oc.length := by cases P; assumption
theorem PInv.hH (P : PInv oc part dx od tl lim r H fin done C) : H ≤ oc.length := by cases P; assumption
end

theorem apartR {tl ex : List (Addr × Obj)} {adr : List Addr} (h : OwnOff tl adr) (e : ex.map (·.1) = adr) : ∀ p ∈ tl, ∀ q ∈ ex, p.1 ≠ q.1 := fun p hp q hq => h p hp q.1 (e ▸ List.mem_map_of_mem hq)
theorem Spec.cast {w : World} {mean : ExcName → Option Value} {mg mb : Str → Option Value} {f : Addr} {args args' : List Value} {dpt : Nat} {Pre : Heap → Prop} {foot : List (Addr × Obj)} {Post : Nat → Value → List (Addr × Obj) → Prop} (S : Spec w mean mg mb f args dpt Pre foot Post) (e : args = args') :
    Spec w mean mg mb f args' dpt Pre foot Post := e ▸ S
theorem News.drop {h₀ h : Heap} {L : Addr} {x : Addr × Obj} {l : List (Addr × Obj)} (N : News h₀ L h (x :: l)) : News h₀ L h l := fun p hp => N p (.tail _ hp)
theorem finEq {b : Bool} {x y : Int} {t : Tok} (h : b = true) (hx : x = y) : if b = true then ∃ t6, Value.int x t = .int y t6 else Value.int x t = .none := by rw [if_pos h, hx]; exact ⟨t, rfl⟩
theorem args4 {a b c : Value} {x y : Int} {t : Tok} (h : x = y) : [a, Value.int x t, b, c] = [a, Value.int y t, b, c] := by rw [h]
theorem args2 {a : Value} {x y : Int} {t : Tok} (h : x = y) : [a, Value.int x t] = [a, Value.int y t] := by rw [h]
theorem args3 {a : Value} {x y : Int} {t : Tok} {b c : Array UInt8} {u : Tok} (h1 : x = y) (h2 : b = c) : [a, Value.int x t, Value.bytes b u] = [a, Value.int y t, Value.bytes c u] := by rw [h1, h2]

section
variable {w : World} {mean : ExcName → Option Value} {mg mb : Str → Option Value} {dp un : Nat} {gd : Option (List Code)} {cn : Str} {cs : Scope} {a : Addr} {ccd : Value} {cl : List (Str × Addr)} {outer : List Env} {A₀ : Around} {base h₀ : Heap} {L : Addr} {m : Str → Option Value} {hh : Heap} {gens : Array GenState} {drawn : Drawn} {tk : Nat} {os : OsState}
  {Q E : Value → Shared → Prop} {part dx pl : Addr} {od : Obj} {refs : List Value} {c : Nat} {ps : List (Nat × Nat)} {oc : List UInt8} {tl : List (Addr × Obj)}
theorem addUse {r o e : Nat} {X : Int} {Y : Nat} {t u : Tok} (B : Below A₀ base outer h₀) (F : Fr h₀ L hh m) (KX : (Mine.hd.heap_1 w.params).In h₀) (T : Top VW (looseW VW []) mean mg mb h₀) (N : News h₀ L hh ((part, instObj 154 dx) :: (dx, od) :: tl)) (hk : cs.kind = .function)
    (hoff : OwnOff tl [part, dx]) (hm : (pl, listOf refs.toArray c) ∈ tl) (hps : Pcs oc (fun a o => (a, o) ∈ tl) refs ps) (S : Sep ps) (hb : ∀ p ∈ ps, r ≤ p.1 ∧ p.2 ≤ oc.length) (hoc : oc.length ≤ 13)
    (ho : o ≤ e) (hr : r < e) (he : e ≤ oc.length) (hX : ((max o r : Nat) : Int) = X) (hY : max o r = Y) (hdp : dp + 4 < recursionLimit) (hun : un + 8 * 4 < cLine)
    (ret : ∀ pl' refs' c' ps' tl2 h' tk', Fr h₀ L h' m → News h₀ L h' ((part, instObj 154 dx) :: (dx, od) :: tl2) → OwnOff tl2 [part, dx] → (pl', listOf refs'.toArray c') ∈ tl2 → Pcs oc (fun a o => (a, o) ∈ tl2) refs' ps' → Sep ps' → (∀ p ∈ ps', r ≤ p.1 ∧ p.2 ≤ oc.length) →
      (∀ k, r ≤ k → (Cov ps' k ↔ (Cov ps k ∨ (o ≤ k ∧ k < e)))) → Q (.ref pl') ⟨h', gens, drawn, tk', os⟩) :
    wpAny (model PG w) (ktrTop dp un gd cn cs L a ccd cl outer) (call (.ref 48) [.ref pl, .int X t, .bytes (seg oc Y e) u]) Q E ⟨hh, gens, drawn, tk, os⟩ := by
  subst hX hY
  have off2 : ∀ foot' : List (Addr × Obj), (∀ p ∈ foot', ∀ q ∈ (part, instObj 154 dx) :: (dx, od) :: tl, p.1 ≠ q.1) → OwnOff (tl ++ foot') [part, dx] := fun foot' x p hp => by
    rcases List.mem_append.mp hp with hp | hp
    · exact hoff p hp
    · exact offL (ex := [(part, instObj 154 dx), (dx, od)]) (fun p hp q hq => x p hp q (by
        rcases List.mem_cons.mp hq with rfl | hq
        · exact .head _
        · rw [List.mem_singleton] at hq; subst hq; exact .tail _ (.head _))) rfl p hp
  have hR := hps.length
  have hL := sep_length S hb
  by_cases hoe : max o r < e
  · refine Spec.useR (foot := []) (add_spec (lo := r) (refs := refs) (c := c) (ps := ps) hoc S (Nat.le_max_right _ _) hoe he hb) B F KX T N hk Sel.nil (fun _ _ _ h => (nomatch h))
      (fun g _ hr => ⟨hr _ (.tail _ (.tail _ hm)), Pcs.mono hps fun _ _ h => hr _ (.tail _ (.tail _ h))⟩) hdp hun fun v f' h' tk' F' N' x' P' => ?_
    obtain ⟨pl', c', refs', rfl, hm', hp'⟩ := P'
    obtain ⟨s1, s2, s3⟩ := insAdd_spec (lo := r) (n := oc.length) S (Nat.le_max_right _ _) hoe he hb
    refine ret pl' refs' c' _ (tl ++ f') h' tk' F' (by simpa only [List.cons_append, List.append_assoc] using N') (off2 f' x') (List.mem_append_right _ hm') (Pcs.mono hp' fun _ _ h => List.mem_append_right _ h) s1 s2 fun k hk => ?_
    rw [s3 k]
    have : (max o r ≤ k ∧ k < e) ↔ (o ≤ k ∧ k < e) := ⟨fun q => ⟨Nat.le_trans (Nat.le_max_left _ _) q.1, q.2⟩, fun q => ⟨Nat.max_le.mpr ⟨q.1, hk⟩, q.2⟩⟩
    rw [this]
  · have e1 : max o r = e := Nat.le_antisymm (Nat.max_le.mpr ⟨ho, Nat.le_of_lt hr⟩) (Nat.le_of_not_lt hoe)
    rw [e1]
    refine Spec.useR (foot := []) (addNil_spec (refs := refs) (c := c) (Nat.lt_of_le_of_lt hoc (by decide)) (by rw [hR]; exact len_of hL hoc (by decide)) he) B F KX T N hk Sel.nil (fun _ _ _ h => (nomatch h))
      (fun g _ hr => hr _ (.tail _ (.tail _ hm))) hdp hun fun v f' h' tk' F' N' x' P' => ?_
    obtain ⟨pl', c', rfl, rfl⟩ := P'
    refine ret pl' refs c' ps (tl ++ [(pl', listOf refs.toArray c')]) h' tk' F' (by simpa only [List.cons_append, List.append_assoc] using N') (off2 _ x') (List.mem_append_right _ (.head _)) (Pcs.mono hps fun _ _ h => List.mem_append_left _ h) S hb fun k hk => ?_
    constructor
    · exact .inl
    · rintro (h | h)
      · exact h
      · omega

theorem hasAllUse {lim : Int} {st : Str} {r H : Nat} (B : Below A₀ base outer h₀) (F : Fr h₀ L hh m) (KX : (Mine.hd.heap_1 w.params).In h₀) (T : Top VW (looseW VW []) mean mg mb h₀) (N : News h₀ L hh ((part, instObj 154 dx) :: (dx, od) :: tl)) (hk : cs.kind = .function)
    (hne : @Ne Nat part dx) (hoff : OwnOff tl [part, dx]) (hP : PartOk lim st pl r H true oc.length od) (hm : (pl, listOf refs.toArray c) ∈ tl) (hps : Pcs oc (fun a o => (a, o) ∈ tl) refs ps) (S : Sep ps) (hb : ∀ p ∈ ps, r ≤ p.1 ∧ p.2 ≤ oc.length) (hoc : oc.length ≤ 13)
    (hdp : dp + 8 < recursionLimit) (hun : un + 8 * 8 < cLine)
    (ret : ∀ tl2 h' tk', Fr h₀ L h' m → News h₀ L h' ((part, instObj 154 dx) :: (dx, od) :: tl2) → OwnOff tl2 [part, dx] → (∀ p ∈ tl, p ∈ tl2) → Q (.bool (allB oc.length r ps)) ⟨h', gens, drawn, tk', os⟩) :
    wpAny (model PG w) (ktrTop dp un gd cn cs L a ccd cl outer) (call (.ref 109) [.ref part]) Q E ⟨hh, gens, drawn, tk, os⟩ := by
  have hL := sep_length S hb
  refine Spec.use (rest := []) (hasAll_spec hP hne hoff hm hps (fun p hp => ⟨S.2 p hp, (hb p hp).2⟩) (Nat.lt_of_le_of_lt hoc (by decide)) (len_of hL hoc (by decide))) B F KX T N hk Sel.whole (fun _ h => (nomatch h)) (fun _ _ _ => trivial) hdp hun fun v f' h' tk' F' N' x' P' => ?_
  obtain ⟨tl', rfl, rfl, hs, ho⟩ := P'
  rw [List.append_nil] at N'
  exact ret tl' h' tk' F' N' ho hs
end


/-! the def's rest, once for the ways that meet there (the place's facts go by unification) -/
def Stop2 (p : Prop) : Prop := p
theorem Stop2.out {p : Prop} (h : Stop2 p) : p := h
theorem Stop2.mk {p : Prop} (h : p) : Stop2 p := h
section
variable {h₀ h : Heap} {L : Addr} {m : Str → Option Value} {part dx : Addr} {od : Obj} {tl : List (Addr × Obj)} {gens : Array GenState} {drawn : Drawn} {os : OsState} {q : Flow → Shared → Prop}
theorem tailA {J : Obj → Prop} (_F : Fr h₀ L h m) (_N : News h₀ L h ((part, instObj 154 dx) :: (dx, od) :: tl)) (H : ∀ od' h' tk', J od' → Fr h₀ L h' m → News h₀ L h' ((part, instObj 154 dx) :: (dx, od') :: tl) → q .next ⟨h', gens, drawn, tk', os⟩) :
    ∀ od' h' tk', J od' → Fr h₀ L h' m → News h₀ L h' ((part, instObj 154 dx) :: (dx, od') :: tl) → q .next ⟨h', gens, drawn, tk', os⟩ := H
theorem tailB {H' : Prop} (_F : Fr h₀ L h m) (_N : News h₀ L h ((part, instObj 154 dx) :: (dx, od) :: tl)) (H : ∀ h' tk', H' → Fr h₀ L h' m → News h₀ L h' ((part, instObj 154 dx) :: (dx, od) :: tl) → q .next ⟨h', gens, drawn, tk', os⟩) :
    ∀ h' tk', H' → Fr h₀ L h' m → News h₀ L h' ((part, instObj 154 dx) :: (dx, od) :: tl) → q .next ⟨h', gens, drawn, tk', os⟩ := H
theorem tailC {J : Addr → List (Nat × Nat) → Obj → List (Addr × Obj) → Prop} (_F : Fr h₀ L h m) (_N : News h₀ L h ((part, instObj 154 dx) :: (dx, od) :: tl)) (H : ∀ pl' ps' od' tl' h' tk', J pl' ps' od' tl' → Fr h₀ L h' m → News h₀ L h' ((part, instObj 154 dx) :: (dx, od') :: tl') → q .next ⟨h', gens, drawn, tk', os⟩) :
    ∀ pl' ps' od' tl' h' tk', J pl' ps' od' tl' → Fr h₀ L h' m → News h₀ L h' ((part, instObj 154 dx) :: (dx, od') :: tl') → q .next ⟨h', gens, drawn, tk', os⟩ := H
end
/-- a part whose pieces are ps -/
inductive PiecesOk (oc : List UInt8) (lim : Int) (st : Str) (r H : Nat) (fin : Bool) (part dx : Addr) (C : Nat → Prop) (pl : Addr) (ps : List (Nat × Nat)) (od : Obj) (tl : List (Addr × Obj)) : Prop
  | mk : ∀ refs c, PartOk lim st pl r H fin oc.length od → OwnOff tl [part, dx] → (pl, listOf refs.toArray c) ∈ tl → Pcs oc (fun a o => (a, o) ∈ tl) refs ps → Sep ps → (∀ p ∈ ps, r ≤ p.1 ∧ p.2 ≤ oc.length) → (∀ k, r ≤ k → (C k ↔ Cov ps k)) → PiecesOk oc lim st r H fin part dx C pl ps od tl
theorem finOf {fin isEnd : Bool} {n e : Nat} {t : Tok} {x : Int} (he : isEnd = true → e = n) (hx : x = (e : Nat)) (h : isEnd = true) : if (fin || isEnd) = true then ∃ t6, Value.int x t = .int (n : Nat) t6 else Value.int x t = .none := by
  rw [h, Bool.or_true, if_pos rfl, hx, he h]; exact ⟨t, rfl⟩
theorem stCases {fin done all : Bool} (h : done = true → fin = true) : (stOf fin done all = Str.ofString "recv" ∧ done = false) ∨ (stOf fin done all = Str.ofString "size_known" ∧ done = false) ∨ (stOf fin done all = Str.ofString "data_recvd" ∧ fin = true ∧ all = true) ∨ (stOf fin done all = Str.ofString "data_read" ∧ fin = true ∧ done = true) := by
  cases fin
  · cases done
    · exact .inl ⟨rfl, rfl⟩
    · exact absurd (h rfl) (by decide)
  · cases done
    · cases all
      · exact .inr (.inl ⟨rfl, rfl⟩)
      · exact .inr (.inr (.inl ⟨rfl, rfl, rfl⟩))
    · exact .inr (.inr (.inr ⟨rfl, rfl, rfl⟩))
theorem finMax {fin isEnd : Bool} {n H e : Nat} (h3 : isEnd = true → e = n) (hfin : fin = true → H = n) (hH : H ≤ n) (h2 : e ≤ n) (h : (fin || isEnd) = true) : max H e = n := by
  rcases Bool.or_eq_true_iff.mp h with q | q
  · exact eqMax' (hfin q) h2
  · exact eqMax (h3 q) hH
local macro_rules | `(tactic| walk_at "exec If") => `(tactic| (first | (with_reducible show wpAny _ _ (exec (Stmt.If (Expr.Name _ _) _ _ _) _) _ _ _) | (with_reducible show wpAny _ _ (exec (Stmt.If (Expr.BoolOp _ _ _) _ _ _) _) _ _ _) | (with_reducible show wpAny _ _ (exec (Stmt.If (Expr.Compare _ _ (Expr.Tuple _ _ _ :: _) _) _ _ _) _) _ _ _)); (refine Stop2.out ?_))
theorem onStream_spec {w : World} {mean : ExcName → Option Value} {mg mb : Str → Option Value} {part dx : Addr} {od : Obj} {oc : List UInt8} {tl : List (Addr × Obj)} {lim : Int} {r H o e : Nat} {fin done isEnd : Bool} {C : Nat → Prop} {t u : Tok}
    (P : PInv oc part dx od tl lim r H fin done C) (hne : @Ne Nat part dx) (hoc : oc.length ≤ 13) (h1 : o ≤ e) (h2 : e ≤ oc.length) (h3 : isEnd = true → e = oc.length) (h4 : (e : Int) ≤ lim) :
    Spec w mean mg mb 102 [.ref part, .int (o : Nat) t, .bytes (seg oc o e) u, .bool isEnd] 12 (fun _ => True) ((part, instObj 154 dx) :: (dx, od) :: tl)
      (fun _ v foot' => ∃ tk od' tl', v = .int ((e - H : Nat) : Int) tk ∧ foot' = (part, instObj 154 dx) :: (dx, od') :: tl' ∧ PInv oc part dx od' tl' lim r (max H e) (fin || isEnd) done (fun k => C k ∨ (o ≤ k ∧ k < e))) := by
  obtain ⟨pl, refs, c, ps, hP, hm, hps, S, hb, hC, hoff, hdone, hr, hH, hfin⟩ := P
  have hP0 := hP
  obtain ⟨a1, a2, a3, a4, a5, a6, a7, a8, k1, k2, k3, k4, k5, k6, k7, k8, t1, t2, t4, t5, fv, nn, rfl, hf⟩ := hP
  unfold partD at *
  have hoc' : oc.length < 1000 := Nat.lt_of_le_of_lt hoc (by decide)

  rintro dp un gd base outer A₀ g ⟨hp0, gn0, dr0, tk0, os0⟩ R B X T hPre O hdp hun hret
  refine' enterC (binds := [(Str.ofString "self", .ref part), (Str.ofString "offset", .int (o : Nat) t), (Str.ofString "data", .bytes (seg oc o e) u), (Str.ofString "is_end", .bool isEnd)]) B rfl O X (Top.nolimit T) ?k6 ?k7 ?k8 ?k9 ?kB ?_ ?c2 ?c3 ?c4 ?c5
  case k6 => k_is
  case k7 => k_is
  case k8 => ktr_room
  case k9 => exact BindsTo.of_eq rfl
  case kB => exact locs rfl
  case c2 => exact rfl
  case c3 => exact rfl
  case c4 => exact rfl
  case c5 => decide
  intro L' h₁ F' N' B' hlt
  (try k_lt hlt)
  (try dsimp only)
  (try k_fold)
  clear hPre
  k_steps
  refine' checkUse hP0 hne h2 h3 hH h4 ?ca B' (by assumption) X T (by assumption) rfl (Sel.cons .head (Sel.cons .head Sel.nil)) (apartR hoff rfl) ?uh ?uu ?_
  case ca => omega
  case uh => ktr_room
  case uu => ktr_units
  intro h9 tk9 F9 N9
  k_sweep
  (try dsimp only)
  k_steps
  refine' grownUse (e := e) hP0 hne ?ca B' (by assumption) X T (by assumption) rfl (Sel.cons .head (Sel.cons .head Sel.nil)) (apartR hoff rfl) ?uh ?uu ?_
  case ca => omega
  case uh => ktr_room
  case uu => ktr_units
  intro tkv odB h8 tk8 hP1 F8 N8
  clear hP0
  k_sweep
  (try dsimp only)
  have hmx : max H e ≤ oc.length := Nat.max_le.mpr ⟨hH, h2⟩
  have hfm := finMax (fin := fin) (H := H) h3 hfin hH h2
  k_steps
  refine Stop2.mk ?_
  k_fold
  with_reducible rename Fr _ _ _ _ => FA
  with_reducible rename News _ _ _ _ => NA
  have tA := tailA (J := fun od => PartOk lim (stOf fin done (allB oc.length r ps)) pl r (max H e) (fin || isEnd) oc.length od) (gens := gn0) (drawn := dr0) (os := os0) (q := qk) FA NA (by
    intro od2 h7' tk7' hP2 F9 N9
    clear FA NA
    have hP2' := hP2
    obtain ⟨b1, b2, b3, b4, b5, b6, b7, b8, i1, i2, i3, i4, i5, i6, i7, i8, v1, v2, v4, v5, gv, nm, e8, hg⟩ := hP2
    unfold partD at e8
    subst e8
    k_steps
    refine Stop2.mk ?_
    k_fold
    with_reducible rename Fr _ _ _ _ => FB
    with_reducible rename News _ _ _ _ => NB
    have tB := tailB (H' := done = false) (gens := gn0) (drawn := dr0) (os := os0) (q := qk) FB NB (by
      intro h6' tk6' hdn F9 N9
      clear FB NB
      have hdn' : done = true → (fin || isEnd) = true ∧ r = oc.length := fun h => Bool.noConfusion (hdn.symm.trans h)
      k_steps
      refine Stop2.mk ?_
      k_fold
      with_reducible rename Fr _ _ _ _ => FC
      with_reducible rename News _ _ _ _ => NC
      have tC := tailC (J := PiecesOk oc lim (stOf fin done (allB oc.length r ps)) r (max H e) (fin || isEnd) part dx (fun k => C k ∨ (o ≤ k ∧ k < e))) (gens := gn0) (drawn := dr0) (os := os0) (q := qk) FC NC (by
        intro pl3 ps3 od3 tl3 h3' tk3 P3 F9 N9
        clear FC NC
        obtain ⟨refs3, c3, hP3, off3, hm3, hps3, S3, hb3, hC3⟩ := P3
        have hP3' := hP3
        obtain ⟨b1, b2, b3, b4, b5, b6, b7, b8, i1, i2, i3, i4, i5, i6, i7, i8, v1, v2, v4, v5, gv, nm, e8, hg⟩ := hP3
        unfold partD at e8
        subst e8
        cases hfi : (fin || isEnd)
        · rw [hfi, if_neg (by decide)] at hg
          subst hg
          k_steps
          exact hret _ _ _ _ (Own.of (by assumption) (by assumption) (fun _ h => h)) ⟨_, _, _, rfl, rfl, _, _, _, _, (PartOk.st hP3' (by rw [hfi, (Bool.or_eq_false_iff.mp hfi).1]; rfl)), hm3, hps3, S3, hb3, hC3, off3, hdn', hr, hmx, hfm⟩
        · rw [hfi, if_pos rfl] at hg
          obtain ⟨t6, rfl⟩ := hg
          k_steps
          refine' hasAllUse B' (by assumption) X T (by assumption) rfl hne off3 (PartOk.intro rfl rfl rfl rfl (finEq rfl rfl)) hm3 hps3 S3 hb3 hoc ?q4 ?q5 ?_
          case q4 => ktr_room
          case q5 => ktr_units
          intro tl4 h6 tk6 F6 N6 off4 sub4
          k_sweep
          (try dsimp only)
          have hps4 := Pcs.mono hps3 fun _ _ h => sub4 _ h
          have hm4 := sub4 _ hm3
          rcases Bool.eq_false_or_eq_true (allB oc.length r ps3) with hall | hall
          all_goals
            rw [hall]
            k_steps
            all_goals (try dsimp only)
            exact hret _ _ _ _ (Own.of (by assumption) (by assumption) (fun _ h => h)) ⟨_, _, _, rfl, rfl, _, _, _, _, (by rw [hfi]; exact PartOk.intro rfl (by rw [hall, hdn]; rfl) rfl rfl (finEq rfl rfl)), hm4, hps4, S3, hb3, hC3, off4, hdn', hr, hmx, hfm⟩)
      clear_value qk
      refine wpAny_If ?_
      k_steps
      · with_reducible rename News _ _ _ _ => NN
        refine' addUse (o := o) (e := e) (r := r) B' (by assumption) X T (by assumption) rfl hoff hm hps S hb hoc h1 ?q1 h2 ?q2 ?q3 ?q4 ?q5 ?_
        case q1 => omega
        case q2 => first | exact maxIf.symm | (split <;> omega)
        case q3 => first | exact maxPos | (split <;> omega)
        case q4 => ktr_room
        case q5 => ktr_units
        intro pl2 refs2 c2 ps2 tl2 h7 tk7 F7 N7 off2 hm2 hps2 S2 hb2 hC2
        k_sweep
        (try dsimp only)
        k_steps
        exact tC _ _ _ _ _ _ (.mk _ _ (PartOk.intro rfl rfl rfl rfl hg) off2 hm2 hps2 S2 hb2 (fun k hk => by rw [hC2 k hk, hC k hk])) (by assumption) (by assumption)
      · exact tC pl ps _ tl _ _ (.mk refs c hP2' hoff hm hps S hb (fun k hk => by
          rw [hC k hk]
          exact ⟨fun z => z.elim id fun z => absurd z (notIn (by assumption) hk), .inl⟩)) (by assumption) (by assumption))
    have rB : ∀ v s', R (.ok (.ret v)) s' → qk (.ret v) s' := fun _ _ z => z
    clear_value qk
    rcases stCases (all := allB oc.length r ps) (fun h => (hdone h).1) with ⟨hst, hdn⟩ | ⟨hst, hdn⟩ | ⟨hst, hfn, hal⟩ | ⟨hst, hfn, hdn⟩
    · rw [hst] at NB
      refine wpAny_If ?_
      k_steps
      with_reducible rename News _ _ _ _ => NN
      exact tB _ _ hdn (by assumption) (by rw [hst]; exact News.drop NN)
    · rw [hst] at NB
      refine wpAny_If ?_
      k_steps
      with_reducible rename News _ _ _ _ => NN
      exact tB _ _ hdn (by assumption) (by rw [hst]; exact News.drop NN)
    · rw [hst] at NB
      refine wpAny_If ?_
      k_steps
      (try dsimp only)
      with_reducible rename News _ _ _ _ => NN
      replace NN := News.drop NN
      exact rB _ _ (hret _ _ _ _ (Own.of (by assumption) (by rw [hst]; exact NN) (fun _ h => h)) ⟨_, _, _, rfl, rfl, _, _, _, _, (PartOk.st hP2' (by rw [hfn]; rfl)), hm, hps, S, hb, fun k hk => (by
          have hall' := (all_iff S).mp hal
          constructor
          · rintro (h | ⟨_, h⟩)
            · exact (hC k hk).mp h
            · exact hall' k hk (Nat.lt_of_lt_of_le h h2)
          · exact fun h => .inl ((hC k hk).mpr h)), hoff, fun h => ⟨by rw [hfn]; rfl, (hdone h).2⟩, hr, hmx, hfm⟩)
    · rw [hst] at NB
      refine wpAny_If ?_
      k_steps
      (try dsimp only)
      with_reducible rename News _ _ _ _ => NN
      replace NN := News.drop NN
      exact rB _ _ (hret _ _ _ _ (Own.of (by assumption) (by rw [hst]; exact NN) (fun _ h => h)) ⟨_, _, _, rfl, rfl, _, _, _, _, (PartOk.st hP2' (by rw [hfn]; rfl)), hm, hps, S, hb, fun k hk => (by
          rw [hC k hk]
          exact ⟨fun z => z.elim id fun z => absurd (Nat.lt_of_lt_of_le z.2 h2) (Nat.not_lt.mpr ((hdone hdn).2 ▸ hk)), .inl⟩), hoff, fun h => ⟨by rw [hfn]; rfl, (hdone h).2⟩, hr, hmx, hfm⟩))
  clear_value qk
  have hP1' := hP1
  obtain ⟨b1, b2, b3, b4, b5, b6, b7, b8, i1, i2, i3, i4, i5, i6, i7, i8, v1, v2, v4, v5, gv, nm, e8, hg⟩ := hP1
  unfold partD at e8
  subst e8
  refine wpAny_If ?_
  rcases Bool.eq_false_or_eq_true isEnd with hE | hE
  · rw [hE] at FA
    k_steps
    exact tA _ _ _ (PartOk.intro rfl rfl rfl rfl (finOf h3 subAdd hE)) (by rw [hE]; assumption) (by assumption)
  · rw [hE] at FA
    k_steps
    exact tA _ _ _ (by rw [hE, Bool.or_false]; exact hP1') (by rw [hE]; assumption) (by assumption)
end Mine
end
section
open PySem PySem.Calls PySem.W PyProof.Rows Builtin Builtin.ObjectAttr
set_option maxHeartbeats 4000000
namespace Mine
theorem rstExc : True := by
  w_top off
  k_with_none
  trivial
def excO (t : Addr) (d : Option Addr) : Obj := { cls := .ref 38, dict := d, data := .fields #[.ref t, .none, .none, .none, .bool false, .none] }
def excMro (C : Addr) : List Value := [.ref C, .type "Exception", .type "BaseException", .type "object"]
def excOver (K : Frag) (C : Addr) : Bool := (clsIn K C).any fun cd => cd.mro == excMro C

section
variable {prog : Program} {w : World} {A A₀ : Around} {E : Value → Shared → Prop} {R : Result → Shared → Prop} {s : Shared} {K : Frag} {x C dx L : Addr} {h₀ : Heap} {m : Str → Option Value} {news news' : List (Addr × Obj)} {ox : Obj} {name : Str} {v : Value} {tk : Tok}

theorem osa_openE {od : Option Obj} (X : K.In s.heap) (I : InstAt s.heap x ox C od) (hp : excOver K C = true) (ht : takerIn K C name = some none)
    (h : ∀ b, wpAny (model prog w) A.in1 (storeInOwnDict (.ref x) (.ref C) (.str name tk) name v b)
      (fun fin s' => match fin with | .done f => R (.ok f) s' | .again c' => c'.quiet = true ∧ codeAny (model prog w) A c' R s') (fun e s' => R (.error e) s') s) :
    codeAny (model prog w) A (.call (.builtin "object.__setattr__") ⟨[.ref x, .str name tk, v], []⟩) R s := by
  have SF := PySem.F.store_object
  have SE := PySem.F.store_Exception
  obtain ⟨cd, hc, ho⟩ := any_some hp
  have ho' : cd.mro = excMro C := beq_iff_eq.mp ho
  have ne : cd.mro.isEmpty = false := by rw [ho']; rfl
  have has : cd.mro.contains (.type "object") = true := by
    rw [ho']
    simp [excMro]
  have sub : Looks (model prog w) s.heap (isInstance (.ref x) (.type "object")) true := I.type.andThen (looks_mroIn X (by unfold mroIn; rw [hc, Option.bind_some, if_neg (by rw [ne]; decide), has]))
  refine codeAny_call_builtin SF.slot.plain SF.entry (@check_slot (model prog w) _ _ s "object.__setattr__" "object" "__setattr__" (.ref x) [.str name tk, v] [] _ SF.kind SF.split sub (SF.args (.ref x) (.str name tk) v) ?_)
  obtain ⟨attr, ha, hr⟩ := Option.bind_eq_some_iff.mp ht
  have hm : Looks (model prog w) s.heap (mroOf (.ref C)) cd.mro := (looks_clsIn X hc).andThen .now
  have L3 : Looks (model prog w) s.heap (storeTaker? attr) none := by
    cases attr with
    | none => exact .now
    | some a =>
      obtain ⟨b, hb, hbb⟩ := Option.map_eq_some_iff.mp hr
      refine (looks_takesIn X hb).andThen ?_
      cases b
      · exact .now
      · cases hbb
  rw [osa_eq, refuse_eq]
  refine wpAny_bind (wpAny_bind (I.type.here (wpAny_bind (hm.here ?_))))
  rw [ho', excMro, refuseLoop_ref, SE.passes]
  refine wpAny_pure (wpAny_bind (I.type.here (wpAny_bind ((looks_findIn X ha).here (wpAny_bind (L3.here ?_))))))
  exact h _

theorem osa_firstE {pre post : List (Addr × Obj)} (F : Fr h₀ L s.heap m) (N : News h₀ L s.heap (pre ++ (x, ox) :: post)) (X : K.In s.heap)
    (I : InstAt s.heap x ox C none) (hf : ox.isFreed = false) (hp : excOver K C = true) (ht : takerIn K C name = some none) (hh : (clsIn K C).any (·.hasDict) = true)
    (h1 : ∀ p ∈ pre, p.1 ≠ x) (h2 : ∀ p ∈ post, p.1 ≠ x)
    (h : ∀ dx h', Fr h₀ L h' m → News h₀ L h' ((dx, dictOf [⟨PyData.keyHash w.params name, .str name s.toks, v⟩] 1) :: (pre ++ (x, { ox with dict := some dx }) :: post)) → (∀ p ∈ pre ++ (x, ox) :: post, p.1 < dx) → R (.ok (.ret .none)) { s with heap := h', toks := s.toks + 1 }) :
    codeAny (model prog w) A (.call (.builtin "object.__setattr__") ⟨[.ref x, .str name tk, v], []⟩) R s := by
  refine osa_openE X I hp ht fun b => ?_
  obtain ⟨cd, hc, hd'⟩ := any_some hh
  have P0 := N.push F emptyDict
  have F0 := F.push emptyDict
  have lt : ∀ p ∈ pre ++ (x, ox) :: post, p.1 < s.heap.objs.size := fun p hp => Heap.lt_size (N p hp).1
  have hxs : x < s.heap.objs.size := lt (x, ox) (by simp)
  obtain ⟨F1, N1⟩ := news_upd (d := x) (f := fun o => { o with dict := some s.heap.objs.size }) (o' := { ox with dict := some s.heap.objs.size }) (pre := (s.heap.objs.size, emptyDict) :: pre) F0 P0
    (fun p hp => by
      rcases List.mem_cons.mp hp with rfl | hp
      · exact Nat.ne_of_gt hxs
      · exact h1 p hp) h2 rfl (by obtain ⟨_, _, dd, _⟩ := ox; cases dd <;> first | rfl | exact hf)
  obtain ⟨F2, N2⟩ := news_upd (d := s.heap.objs.size) (f := Obj.putName name (PyData.keyHash w.params name) (.str name s.toks) v) (o' := dictOf [⟨PyData.keyHash w.params name, .str name s.toks, v⟩] 1) (pre := []) F1 N1
    (fun _ hp => (nomatch hp)) (fun p hp => by
      rcases List.mem_append.mp hp with hp | hp
      · exact Nat.ne_of_lt (lt p (List.mem_append_left _ hp))
      · rcases List.mem_cons.mp hp with rfl | hp
        · exact Nat.ne_of_lt hxs
        · exact Nat.ne_of_lt (lt p (List.mem_append_right _ (.tail _ hp)))) (putName_dict name _ _ v [] 0) rfl
  have D := (N1 (s.heap.objs.size, emptyDict) (.head _)).1
  have D' := (N2 (s.heap.objs.size, _) (.head _)).1
  have hp0 : (s.heap.push emptyDict).get? x = some ox := Heap.get?_push_of_some _ I.at_
  obtain ⟨hx, hcl, hn, hdd⟩ := I
  obtain ⟨oc, odi, oda, osl⟩ := ox
  dsimp only at hcl
  subst hcl
  cases odi with
  | some _ => exact hdd.elim
  | none =>
  refine wpAny_bind (wpAny_pure (wpAny_bind (wpAny_bind (wpAny_loadPart hx (wpAny_bind ((looks_clsIn X hc).here ?_))))))
  rw [hd']
  dsimp only
  rw [if_neg (by decide), if_neg (by simp [typeHasDict])]
  have go : wpAny (model prog w) A.in1 (storeInDict s.heap.objs.size (.str name tk) name v)
      (fun fin s' => match fin with | .done f => R (.ok f) s' | .again c' => c'.quiet = true ∧ codeAny (model prog w) A c' R s') (fun e s' => R (.error e) s')
      { s with heap := (s.heap.push emptyDict).update x fun o => { o with dict := some s.heap.objs.size } } := by
    unfold storeInDict newKeyGuard
    refine wpAny_bind (wpAny_pure (wpAny_bind ?_))
    unfold nsSet
    refine wpAny_bind (wpAny_bind (wpAny_askSetting (wpAny_pure (wpAny_bind (wpAny_mkText (wpAny_bind (wpAny_loadPart D ?_)))))))
    dsimp only [emptyDict]
    have c : ((!(#[] : Array DictEntry).any (·.key.isStr name)) && (#[] : Array DictEntry).any (·.refKey)) = false := by simp
    rw [aRefKeyMayBeTheName_at, c]
    refine wpAny_updatePart D ?_
    refine wpAny_bind (wpAny_lookBehind D' (pastItsLine_dict (by rw [sizeLine_eq]; simp)) ?_)
    exact wpAny_pure (h _ _ F2 N2 lt)
  split
  · simp [notCls] at hn
  · refine wpAny_bind (wpAny_alloc' ?_)
    refine wpAny_bind (wpAny_update' hp0 ?_)
    exact wpAny_pure (a := some s.heap.objs.size) go

theorem osa_dictE {od od' : Obj} {pre post : List (Addr × Obj)} {es : List DictEntry} {n : Nat} (F : Fr h₀ L s.heap m) (N : News h₀ L s.heap (pre ++ (dx, od) :: post)) (X : K.In s.heap)
    (I : InstAt s.heap x ox C (some od)) (hd : ox.dict = some dx) (hp : excOver K C = true) (ht : takerIn K C name = some none) (hh : (clsIn K C).any (·.hasDict) = true)
    (hl : (lookIn name od).isSome = true) (h1 : ∀ p ∈ pre, p.1 ≠ dx) (h2 : ∀ p ∈ post, p.1 ≠ dx)
    (e : Obj.putName name (PyData.keyHash w.params name) (.str name s.toks) v od = od') (e' : od'.data = .dict es.toArray n) (hz : es.length ≤ 1000)
    (h : ∀ h', Fr h₀ L h' m → News h₀ L h' (pre ++ (dx, od') :: post) → R (.ok (.ret .none)) { s with heap := h', toks := s.toks + 1 }) :
    codeAny (model prog w) A (.call (.builtin "object.__setattr__") ⟨[.ref x, .str name tk, v], []⟩) R s := by
  refine osa_openE X I hp ht fun b => ?_
  obtain ⟨cd, hc, hd'⟩ := any_some hh
  obtain ⟨U1, U2⟩ := news_upd (f := Obj.putName name (PyData.keyHash w.params name) (.str name s.toks) v) F N h1 h2 e (by obtain ⟨_, _, dd, _⟩ := od'; cases e'; rfl)
  have D := (N (dx, od) (by simp)).1
  have D' := (U2 (dx, od') (by simp)).1
  obtain ⟨hx, hcl, hn, -⟩ := I
  obtain ⟨oc, odi, oda, osl⟩ := ox
  dsimp only at hcl hd
  subst hcl hd
  refine wpAny_bind (wpAny_pure (wpAny_bind (wpAny_bind (wpAny_loadPart hx (wpAny_bind ((looks_clsIn X hc).here ?_))))))
  rw [hd']
  refine wpAny_pure (a := some dx) (wpAny_bind (wpAny_pure (wpAny_bind ?_)))
  unfold nsSet
  refine wpAny_bind (wpAny_bind (wpAny_askSetting (wpAny_pure (wpAny_bind (wpAny_mkText (wpAny_bind (wpAny_loadPart D ?_)))))))
  unfold lookIn at hl
  split at hl
  · rename_i es₀ n₀ q
    rw [q]
    dsimp only
    have c : (!es₀.any (·.key.isStr name) && es₀.any (·.refKey)) = false := by
      rw [← Array.any_toList, ← Array.any_toList]
      split at hl
      · rename_i en he
        rw [List.any_eq_true.mpr ⟨en, List.mem_of_find?_eq_some he, List.find?_some he⟩]; rfl
      · split at hl
        · cases hl
        · rename_i z; rw [Bool.not_eq_true] at z; rw [z, Bool.and_false]
    rw [aRefKeyMayBeTheName_at, c]
    refine wpAny_updatePart D ?_
    refine wpAny_bind (wpAny_lookBehind D' (by rw [e']; exact pastItsLine_dict (by rw [List.size_toArray, sizeLine_eq]; omega)) ?_)
    exact wpAny_pure (h _ U1 U2)
  · cases hl

theorem set_firstE {pre post : List (Addr × Obj)} {Q : Unit → Shared → Prop} (F : Fr h₀ L s.heap m) (X₀ : K.In h₀) (N : News h₀ L s.heap (pre ++ (x, ox) :: post)) (hcl : ox.cls = .ref C) (hno : notCls ox = true) (hnd : ox.dict = none) (hf : ox.isFreed = false)
    (hs : findIn K (.ref C) "__setattr__" = some (some (.builtin "object.__setattr__"))) (hp : excOver K C = true) (ht : takerIn K C name = some none) (hh : hasDictIn K C = true)
    (h1 : ∀ p ∈ pre, p.1 ≠ x) (h2 : ∀ p ∈ post, p.1 ≠ x)
    (h : ∀ dx h' tk', Fr h₀ L h' m → News h₀ L h' ((dx, dictOf [⟨PyData.keyHash w.params name, .str name tk', v⟩] 1) :: (pre ++ (x, { ox with dict := some dx }) :: post)) → (∀ p ∈ pre ++ (x, ox) :: post, p.1 < dx) → Q () { s with heap := h', toks := s.toks + 2 }) :
    wpAny (model prog w) A (setAttr (.ref x) name v) Q E s := by
  have I : InstAt s.heap x ox C none := ⟨(N (x, ox) (by simp)).1, hcl, hno, by rw [hnd]; trivial⟩
  exact set_plain (X₀.keeps F.keep) I hs (osa_firstE (s := { s with toks := s.toks + 1 }) F N (X₀.keeps F.keep) I hf hp ht hh h1 h2 fun dx h' F' N' lt => h dx h' _ F' N' lt)

theorem set_dictE {es es' : List DictEntry} {n n' : Nat} {Q : Unit → Shared → Prop} {pre post : List (Addr × Obj)} (F : Fr h₀ L s.heap m) (X₀ : K.In h₀) (N : News h₀ L s.heap (pre ++ (dx, dictOf es n) :: post)) (hx : s.heap.get? x = some ox) (hcl : ox.cls = .ref C) (hno : notCls ox = true) (hd : ox.dict = some dx)
    (hs : findIn K (.ref C) "__setattr__" = some (some (.builtin "object.__setattr__"))) (hp : excOver K C = true) (ht : takerIn K C name = some none) (hh : hasDictIn K C = true) (hl : (getL name es).isSome = true)
    (e : (putL name (PyData.keyHash w.params name) (.str name (s.toks + 1)) v es, putN name es n) = (es', n')) (h1 : ∀ p ∈ pre, p.1 ≠ dx) (h2 : ∀ p ∈ post, p.1 ≠ dx) (hz : es'.length ≤ 1000)
    (h : ∀ h', Fr h₀ L h' m → News h₀ L h' (pre ++ (dx, dictOf es' n') :: post) → Q () { s with heap := h', toks := s.toks + 2 }) :
    wpAny (model prog w) A (setAttr (.ref x) name v) Q E s := by
  obtain ⟨e1, e2⟩ := Prod.mk.inj e
  have I : InstAt s.heap x ox C (some (dictOf es n)) := ⟨hx, hcl, hno, by rw [hd]; exact (N (dx, dictOf es n) (by simp)).1⟩
  exact set_plain (X₀.keeps F.keep) I hs (osa_dictE (s := { s with toks := s.toks + 1 }) F N (X₀.keeps F.keep) I hd hp ht hh hl h1 h2 (by rw [putName_dict, e1, e2]) rfl hz fun h' F' N' => h h' F' N')

def tupO (vs : List Value) : Obj := { cls := .type "tuple", data := .seq vs.toArray }
theorem einit_call {e t0 : Addr} {x : Value} {pre post : List (Addr × Obj)} {Q : Value → Shared → Prop} {nm q : Str} {N : Addr} {bs : List Value} {hdct : Bool} {sn : List Str} {sub : List Value} {ab : Bool} {col : Option Bool} {dd : Option Addr} {k0 k1 k2 k3 k5 : Option Value}
    (F : Fr h₀ L s.heap m) (hC : s.heap.get? 38 = some (excClassObj nm q 38 N bs [.type "Exception", .type "BaseException", .type "object"] hdct sn sub ab col dd k0 k1 k2 k3 k5 "Exception.__new__"))
    (Nw : News h₀ L s.heap (pre ++ (e, excO t0 none) :: post)) (h1 : ∀ p ∈ pre, p.1 ≠ e) (h2 : ∀ p ∈ post, p.1 ≠ e)
    (h : ∀ h' t1, Fr h₀ L h' m → News h₀ L h' ((t1, tupO [x]) :: (pre ++ (e, excO t1 none) :: post)) → (∀ p ∈ pre ++ (e, excO t0 none) :: post, p.1 < t1) → Q .none { s with heap := h' }) :
    wpAny (model prog w) A (call (.builtin "Exception.__init__") [.ref e, x]) Q E s := by
  have Fx := PySem.F.excBase_Exception
  have he := (Nw (e, excO t0 none) (by simp)).1
  have lt : ∀ p ∈ pre ++ (e, excO t0 none) :: post, p.1 < s.heap.objs.size := fun p hp => Heap.lt_size (Nw p hp).1
  have hes : e < s.heap.objs.size := lt (e, excO t0 none) (by simp)
  obtain ⟨F1, N1⟩ := news_upd (d := e) (f := Obj.mapFields (·.setIfInBounds 0 (.ref s.heap.objs.size))) (o' := excO s.heap.objs.size none) (pre := (s.heap.objs.size, tupO [x]) :: pre) (F.push (tupO [x])) (Nw.push F (tupO [x]))
    (fun p hp => by
      rcases List.mem_cons.mp hp with rfl | hp
      · exact Nat.ne_of_gt hes
      · exact h1 p hp) h2 rfl rfl
  have fin := h _ _ F1 N1 lt
  obtain ⟨hp, g, d, t, os⟩ := s
  refine wpAny_call (codeAny_call_builtin Fx.init.plain Fx.initEntry (wpAny_check_init_sub Fx hC he rfl ?_))
  dsimp only at he
  unfold excO at he
  wp_walk
  exact fin
end

def strKey (e : DictEntry) : Bool := match e.key with | .str _ _ => true | _ => false
/-- the class C and its __init__, as K has them -/
inductive ExcOk (K : Frag) (C fI : Addr) : Prop
  | mk : ∀ {nm qn N bs hdct sn sub ab col dd k0 k1 k2 k3 k5 co cd es n cs}, K.lookup C = some (excClassObj nm qn C N bs [.type "Exception", .type "BaseException", .type "object"] hdct sn sub ab col dd k0 k1 k2 k3 k5 "Exception.__new__") →
      K.lookup N = some ⟨co, cd, .dict es n, cs⟩ → es.toList.all strKey = true → nsFind es "__init__" = some (.ref fI) → ExcOk K C fI
inductive ExcCls (h : Heap) (C fI : Addr) : Prop
  | mk : ∀ nm qn N bs hdct sn sub ab col dd k0 k1 k2 k3 k5 mN, h.get? C = some (excClassObj nm qn C N bs [.type "Exception", .type "BaseException", .type "object"] hdct sn sub ab col dd k0 k1 k2 k3 k5 "Exception.__new__") → h.Ns N mN → mN "__init__" = some (.ref fI) → ExcCls h C fI
theorem exc_cls {K : Frag} {h : Heap} {C fI : Addr} (X : K.In h) (q : ExcOk K C fI) : ExcCls h C fI := by
  obtain ⟨ho, hn, ha, hi⟩ := q
  refine .mk _ _ _ _ _ _ _ _ _ _ _ _ _ _ _ (nsFind _) (X _ _ ho) ⟨_, _, _, X _ _ hn, rfl, fun e he => ?_, fun _ => rfl⟩ hi
  have := List.all_eq_true.mp ha e (Array.mem_toList_iff.mpr he)
  unfold strKey at this
  split at this
  · rename_i n t hk
    exact ⟨n, t, hk⟩
  · cases this

section
variable {w : World} {mean : ExcName → Option Value} {mg mb : Str → Option Value} {E : Value → Shared → Prop} {s : Shared}
/-- a raise of a class of one's own -/
def RaisableC (h₀ : Heap) (E : Value → Shared → Prop) (v : Value) (s₁ : Shared) : Prop :=
  ∃ e t dx, v = .ref e ∧ (∀ b o, h₀.get? b = some o → s₁.heap.get? b = some o) ∧ s₁.heap.get? e = some (excO t (some dx)) ∧ E (.ref e) s₁
theorem raise_own {M : Model} {A : Around} {h₀ : Heap} {K : Frag} {x : Expr} {pos : Pos} {env : Env} {Q : Flow → Shared → Prop} (X : K.In h₀) (q : ExcOk K 38 35) (hh : A.handled = none)
    (h : wpAny M A (eval x env) (RaisableC h₀ E) E s) : wpAny M A (exec (.Raise (some x) none pos) env) Q E s := by
  rw [arm_exec_Raise]
  refine wpAny_bind (wpAny_standAt ?_)
  simp only [evalOpt, Option.map]
  unfold raiseStmt
  refine wpAny_bind (wpAny_bind (wpAny_mono h (fun v s₁ h₁ => ?_) fun _ _ x => x))
  obtain ⟨e, t, dx, rfl, kp, he, hE⟩ := h₁
  obtain ⟨nm, qn, N, bs, hdct, sn, sub, ab, col, dd, k0, k1, k2, k3, k5, mN, hC, -, -⟩ := exc_cls (X.keeps kp) q
  have hcB : [Value.ref 38, Value.type "Exception", Value.type "BaseException", Value.type "object"].contains (.type "BaseException") = true := by decide
  unfold excO at he
  obtain ⟨hp, g, d, tk, os⟩ := s₁
  refine wpAny_bind (wpAny_standAt (wpAny_pure ?_))
  repeat (first | with_reducible refine wpAny_loadPart_at he ?_ | with_reducible refine wpAny_loadPart_at hC ?_ | (with_reducible refine wpAny_isSubtype_exc hC ?_; rw [hcB]) | wp_step)
  exact wpAny_raiseNew_none hh hE
end
end Mine
end
section
open PySem PySem.Calls PySem.W PyProof.Rows
set_option maxHeartbeats 4000000
namespace Mine
theorem rstQInit : True := by
  w_top off
  k_with_none
  trivial
theorem fillIt10 : PySem.Challenge.rw_no0070_01 = PySem.Challenge.rw_no0070_01 ∧ Mine.hd.heap_1 = Mine.hd.heap_1 := by
  k_fill
  exact ⟨rfl, rfl⟩

theorem exc_ok (w : World) : ExcOk (Mine.hd.heap_1 w.params) 38 35 := by
  refine' .mk ?a ?b ?c ?d
  case a => k_is
  case b => k_is
  case c => kernel_rfl
  case d => kernel_rfl
theorem exc_over (w : World) : excOver (Mine.hd.heap_1 w.params) 38 = true := by kernel_rfl
theorem typ_exc : typeOf (.type "Exception") = pure (.type "type") := by kernel_rfl
theorem einit_K {prog : Program} {w : World} {A : Around} {E : Value → Shared → Prop} {s : Shared} {K : Frag} {L : Addr} {h₀ : Heap} {m : Str → Option Value} {e t0 : Addr} {x : Value} {pre post : List (Addr × Obj)} {Q : Value → Shared → Prop}
    (F : Fr h₀ L s.heap m) (X : K.In h₀) (q : ExcOk K 38 35) (Nw : News h₀ L s.heap (pre ++ (e, excO t0 none) :: post)) (h1 : ∀ p ∈ pre, p.1 ≠ e) (h2 : ∀ p ∈ post, p.1 ≠ e)
    (h : ∀ h' t1, Fr h₀ L h' m → News h₀ L h' ((t1, tupO [x]) :: (pre ++ (e, excO t1 none) :: post)) → (∀ p ∈ pre ++ (e, excO t0 none) :: post, p.1 < t1) → Q .none { s with heap := h' }) :
    wpAny (model prog w) A (call (.builtin "Exception.__init__") [.ref e, x]) Q E s := by
  obtain ⟨nm, qn, N, bs, hdct, sn, sub, ab, col, dd, k0, k1, k2, k3, k5, mN, hC, -, -⟩ := exc_cls (X.keeps F.keep) q
  exact einit_call F hC Nw h1 h2 h
local macro_rules | `(tactic| walk_at "getMethod type:Exception") => `(tactic| (k_here; k_dflt (refine' method_type ?F ?X typ_exc (by decide +kernel) ?e ?h ?_; (case F => k_asm); (case X => k_asm); (case e => k_is); (case h => k_handed); k_whole)))
theorem init_spec {w : World} {mean : ExcName → Option Value} {mg mb : Str → Option Value} {e t0 : Addr} {tx : Str} {t u v : Tok} {rest : List Value} (hne : @Ne Nat e t0) (hlen : tx.length < 100) :
    Spec w mean mg mb 35 [.ref e, .int 3 t, .int 8 u, .str tx v] 4 (fun _ => True) [(e, excO t0 none), (t0, tupO rest)]
      (fun _ rv foot' => rv = .none ∧ ∃ t1 dx h1 h2 h3 k1 k2 k3 n, foot' = [(e, excO t1 (some dx)), (dx, dictOf [⟨h1, .str "code" k1, .int 3 t⟩, ⟨h2, .str "frame_type" k2, .int 8 u⟩, ⟨h3, .str "text" k3, .str tx v⟩] n)]) := by

  rintro dp un gd base outer A₀ g ⟨hp0, gn0, dr0, tk0, os0⟩ R B X T hPre O hdp hun hret
  refine' enterC (binds := [(Str.ofString "self", .ref e), (Str.ofString "code", .int 3 t), (Str.ofString "frame_type", .int 8 u), (Str.ofString "text", .str tx v)]) B rfl O X (Top.nolimit T) ?k6 ?k7 ?k8 ?k9 ?kB ?_ ?c2 ?c3 ?c4 ?c5
  case k6 => k_is
  case k7 => k_is
  case k8 => ktr_room
  case k9 => exact BindsTo.of_eq rfl
  case kB => exact locs rfl
  case c2 => exact rfl
  case c3 => exact rfl
  case c4 => exact rfl
  case c5 => decide
  intro L' h₁ F' N' B' hlt
  (try k_lt hlt)
  (try dsimp only)
  (try k_fold)
  k_steps
  refine' einit_K (pre := []) (post := [(t0, tupO rest)]) (by assumption) X (exc_ok w) (by assumption) (List.forall_mem_nil _) ?q2 ?_
  case q2 =>
    intro p hp
    rw [List.mem_singleton] at hp
    subst hp
    exact fun z => hne z.symm
  intro h9 t9 F9 N9 lt9
  have g1 : e < t9 := lt9 (e, _) (.head _)
  have g2 : t0 < t9 := lt9 (t0, _) (.tail _ (.head _))
  clear lt9
  simp only [List.nil_append] at N9
  k_sweep
  dsimp only
  k_steps
  refine' set_firstE (K := Mine.hd.heap_1 w.params) (C := 38) (pre := [(t9, _)]) (post := [(t0, tupO rest)]) (by assumption) X (by assumption) rfl rfl rfl rfl ?a1 (exc_over w) ?a3 ?a4 ?a5 ?a6 ?_
  case a1 => k_is
  case a3 => k_is
  case a4 => k_is
  case a5 =>
    intro p hp
    rw [List.mem_singleton] at hp
    subst hp
    exact Nat.ne_of_gt g1
  case a6 =>
    intro p hp
    rw [List.mem_singleton] at hp
    subst hp
    exact fun z => hne z.symm
  intro dx h8 tk8 F8 N8 lt8
  have g3 : t9 < dx := lt8 (t9, _) (.head _)
  have g4 : e < dx := lt8 (e, _) (.tail _ (.head _))
  have g5 : t0 < dx := lt8 (t0, _) (.tail _ (.tail _ (.head _)))
  clear lt8
  simp only [List.cons_append, List.nil_append] at N8
  k_sweep
  dsimp only
  k_steps
  refine' set_dictE (K := Mine.hd.heap_1 w.params) (C := 38) (dx := dx) (ox := excO t9 (some dx)) (pre := []) (by assumption) X N8 (N8 (e, _) (.tail _ (.tail _ (.head _)))).1 rfl rfl rfl ?a1 (exc_over w) ?a3 ?a4 rfl rfl (List.forall_mem_nil _) ?a7 (Nat.le_of_ble_eq_true rfl) ?_
  case a1 => k_is
  case a3 => k_is
  case a4 => k_is
  case a7 =>
    intro p hp
    simp only [List.mem_cons, List.not_mem_nil, or_false] at hp
    rcases hp with rfl | rfl | rfl
    · exact Nat.ne_of_lt g3
    · exact Nat.ne_of_lt g4
    · exact Nat.ne_of_lt g5
  intro h7 F7 N7
  simp only [List.nil_append] at N7
  k_sweep
  dsimp only
  k_steps
  refine' set_dictE (K := Mine.hd.heap_1 w.params) (C := 38) (dx := dx) (ox := excO t9 (some dx)) (pre := []) (by assumption) X N7 (N7 (e, _) (.tail _ (.tail _ (.head _)))).1 rfl rfl rfl ?a1 (exc_over w) ?a3 ?a4 rfl rfl (List.forall_mem_nil _) ?a7 (Nat.le_of_ble_eq_true rfl) ?_
  case a1 => k_is
  case a3 => k_is
  case a4 => k_is
  case a7 =>
    intro p hp
    simp only [List.mem_cons, List.not_mem_nil, or_false] at hp
    rcases hp with rfl | rfl | rfl
    · exact Nat.ne_of_lt g3
    · exact Nat.ne_of_lt g4
    · exact Nat.ne_of_lt g5
  intro h6 F6 N6
  simp only [List.nil_append] at N6
  k_sweep
  dsimp only
  k_steps
  exact hret _ _ _ _ (Own.of (by assumption) N6 (fun p hp => by
    rcases List.mem_cons.mp hp with rfl | hp
    · exact .tail _ (.tail _ (.head _))
    · rw [List.mem_singleton] at hp
      subst hp
      exact .head _)) ⟨rfl, _, _, _, _, _, _, _, _, _, rfl⟩
end Mine
end
section
open PySem PySem.Calls PySem.W PyProof.Rows
set_option maxHeartbeats 4000000
namespace Mine
theorem rstFly : True := by
  w_top off
  k_with_none
  trivial
theorem dict_mapFields (o : Obj) (f) : (o.mapFields f).dict = o.dict := by
  obtain ⟨c, d, dt, sl⟩ := o
  cases dt <;> rfl

/-- an exception of the own class with its attributes and a way behind it -/
inductive TrD (h base : Heap) (e : Addr) (od : Option Addr) (fl : Value) : Prop
  | mk : ∀ oe vs T oT ts, h.get? e = some oe → oe.cls = .ref 38 → oe.dict = od → oe.data = .fields vs → vs[1]? = some (.ref T) → base.get? T = none → T ≠ e → h.get? T = some oT → oT.data = .fields ts → ts[3]? = some fl → TrD h base e od fl
structure FlyD (base : Heap) (l : List Env) (e : Addr) (od : Option Addr) (fl : Value) (h : Heap) : Prop where
  stays : base.StaysIn h
  new : base.get? e = none
  frames : h.FunFrames base l
  tr : TrD h base e od fl
theorem FlyD.obj {base h : Heap} {l : List Env} {e : Addr} {od : Option Addr} {fl : Value} (x : FlyD base l e od fl h) : ∃ oe vs, h.get? e = some oe ∧ oe.cls = .ref 38 ∧ oe.dict = od ∧ oe.data = .fields vs := by
  obtain ⟨oe, vs, _, _, _, a, b, c, d, _, _, _, _, _, _⟩ := x.tr
  exact ⟨oe, vs, a, b, c, d⟩

section
variable {M : Model} {A : Around} {E : Value → Shared → Prop} {s : Shared} {base : Heap} {env : Env} {outer l : List Env} {L e : Addr} {od : Option Addr} {Q : Unit → Shared → Prop}

theorem entryD {oe : Obj} {vs : Array Value} {head : Value} {hadNext : Bool} (hfr : A.frames = some (env :: outer)) (hl : s.heap.FunFrames base (env :: outer)) (hf : env.frame = some L) (hkb : base.StaysIn s.heap) (hen : base.get? e = none)
    (he : s.heap.get? e = some oe) (hc : oe.cls = .ref 38) (ho : oe.dict = od) (hd : oe.data = .fields vs) (hsz : 1 < vs.size)
    (h : ∀ h', FlyD base (env :: outer) e od (rawInt L) h' → s.heap.UpToSlots h' → Q () { s with heap := h' }) :
    wpAny M A (do let a ← frameOf env; let pl ← entryPlaceOf L hadNext; let b ← EntryCells.newEntry head a .none (rawInt L) .none pl; setField (.ref e) 1 b) Q E s := by
  have hene : e ∉ (env :: outer).filterMap (·.frame) := fun hm => by
    obtain ⟨_, o, q, hnf⟩ := hl.mem hm
    rw [he] at q
    cases q
    exact hnf vs hd
  refine wpAny_bind (wpAny_frameOf_fun hfr hl hf fun h₁ hs₁ => wpAny_bind (wpAny_entryPlaceOf fun pl hpl => ?_))
  unfold EntryCells.newEntry newFields
  refine wpAny_bind (wpAny_newObj_type ?_ (hpl.sizeOk5 _ _ _ _ _))
  have e1 : h₁.get? e = some oe := (hs₁.2.1 e hene).trans he
  have kb1 : base.StaysIn h₁ := fun b o q => (hs₁.2.1 b fun hm => by rw [(hl.mem hm).1] at q; cases q).trans (hkb b o q)
  generalize hto : ({ cls := .type "traceback", dict := none, data := .fields ([head, .ref L, .none, rawInt L, .none] ++ (if pl.isEmpty then List.replicate 6 Value.none else pl)).toArray } : Obj) = oT
  have hTf : oT.isFreed = false := by subst hto; rfl
  have hTd : ∃ ts, oT.data = .fields ts ∧ ts[3]? = some (rawInt L) := by
    subst hto
    refine ⟨_, rfl, ?_⟩
    rcases hpl with rfl | ⟨_, _, _, _, _, _, _, rfl⟩ <;> simp
  have e2 := Heap.get?_push_of_some (h := h₁) oT e1
  refine wpAny_setField (s := { s with heap := h₁.push oT }) e2 hd hsz (h _ ?_ ?_)
  · have hne : h₁.objs.size ≠ e := Nat.ne_of_gt (Heap.lt_size e1)
    have d3 := Obj.data_mapFields hd (·.setIfInBounds 1 (Value.ref h₁.objs.size))
    have keep : ∀ b o, b ≠ e → h₁.get? b = some o → ((h₁.push oT).update e (Obj.mapFields (·.setIfInBounds 1 (Value.ref h₁.objs.size)))).get? b = some o := fun b o hb q => by
      rw [Heap.get?_update_other _ _ (Ne.symm hb)]
      exact Heap.get?_push_of_some _ q
    refine ⟨fun b o q => keep b o (fun z => by rw [z, hen] at q; cases q) (kb1 b o q), hen, hl.of_keeps fun b o q hnf => ?_, ?_⟩
    · obtain ⟨sl, hs⟩ := hs₁.2.2 b o q
      exact ⟨_, keep b _ (fun z => by rw [z, he] at q; cases q; exact hnf vs hd) hs, rfl⟩
    · obtain ⟨ts, t1, t2⟩ := hTd
      refine ⟨_, _, h₁.objs.size, oT, ts, Heap.get?_update_self _ e2 (Obj.isFreed_of_fields d3), (Obj.cls_mapFields _ _).trans hc, (dict_mapFields _ _).trans ho, d3, by simp [hsz], kb1.fresh, hne, ?_, t1, t2⟩
      rw [Heap.get?_update_other _ _ (Ne.symm hne)]
      exact Heap.get?_push_size h₁ hTf
  · intro b o q hnf
    obtain ⟨sl, hs⟩ := hs₁.2.2 b o q
    refine ⟨sl, ?_⟩
    show ((h₁.push oT).update e _).get? b = _
    rw [Heap.get?_update_other _ _ (fun z => by rw [← z, he] at q; cases q; exact hnf vs hd)]
    exact Heap.get?_push_of_some _ hs

theorem noteD_first {oe : Obj} {vs : Array Value} (hfr : A.frames = some (env :: outer)) (hl : s.heap.FunFrames base (env :: outer)) (hf : env.frame = some L) (hkb : base.StaysIn s.heap) (hen : base.get? e = none)
    (he : s.heap.get? e = some oe) (hc : oe.cls = .ref 38) (ho : oe.dict = od) (hd : oe.data = .fields vs) (h1 : vs[1]? = some .none)
    (h : ∀ h', FlyD base (env :: outer) e od (rawInt L) h' → s.heap.UpToSlots h' → Q () { s with heap := h' }) : wpAny M A (noteFrame (.ref e) env) Q E s := by
  unfold noteFrame
  simp only [hf]
  refine wpAny_bind (wpAny_field he hd h1 ?_)
  rw [if_neg (by decide)]
  exact entryD hfr hl hf hkb hen he hc ho hd (Array.getElem?_eq_some_iff.mp h1).1 h

theorem upT {T : Addr} {oT : Obj} {ts : Array Value} {f : Array Value → Array Value} {h : Heap} (hT : h.get? T = some oT) (hd : oT.data = .fields ts) : h.UpToSlots (h.update T (Obj.mapFields f)) := fun b o q hnf =>
  ⟨o.slots, (Heap.get?_update_other _ _ (fun z => by rw [z] at hT; rw [hT] at q; cases q; exact hnf ts hd)).trans q⟩

inductive FlyT (h base : Heap) (l : List Env) (e : Addr) (od : Option Addr) (fl fl' : Value) : Prop
  | mk : ∀ T oT ts, h.get? T = some oT → oT.data = .fields ts → 3 < ts.size → ts[3]? = some fl → (∃ oe vs, h.get? e = some oe ∧ oe.data = .fields vs ∧ vs[1]? = some (.ref T)) →
    FlyD base l e od fl' (h.update T (Obj.mapFields (·.setIfInBounds 3 fl'))) → h.UpToSlots (h.update T (Obj.mapFields (·.setIfInBounds 3 fl'))) → FlyT h base l e od fl fl'
theorem flyT {fl fl' : Value} (x : FlyD base l e od fl s.heap) : FlyT s.heap base l e od fl fl' := by
  obtain ⟨x1, x2, x3, oe, vs, T, oT, ts, a1, a2, a3, a4, a5, a6, a7, a8, a9, a10⟩ := x
  have hsz : 3 < ts.size := (Array.getElem?_eq_some_iff.mp a10).1
  have other : ∀ b, b ≠ T → (s.heap.update T (Obj.mapFields (·.setIfInBounds 3 fl'))).get? b = s.heap.get? b := fun b hb => Heap.get?_update_other _ _ (Ne.symm hb)
  refine ⟨T, oT, ts, a8, a9, hsz, a10, ⟨oe, vs, a1, a4, a5⟩, ⟨fun b o q => (other b fun z => by rw [z, a6] at q; cases q).trans (x1 b o q), x2, x3.of_keeps fun b o q hnf => ⟨o, (other b fun z => ?_).trans q, rfl⟩, ?_⟩, upT a8 a9⟩
  · rw [z, a8] at q
    cases q
    exact hnf ts a9
  · exact ⟨oe, vs, T, _, _, (other e (Ne.symm a7)).trans a1, a2, a3, a4, a5, a6, a7, Heap.get?_update_self _ a8 (Obj.isFreed_of_fields (Obj.data_mapFields a9 _)), Obj.data_mapFields a9 _, by simp [hsz]⟩

theorem flightD {fl : Value} (x : FlyD base l e od fl s.heap) (h : ∀ h', FlyD base l e od .none h' → s.heap.UpToSlots h' → Q () { s with heap := h' }) : wpAny M A (setFlight (.ref e) none) Q E s := by
  obtain ⟨T, oT, ts, hT, hd, hsz, h3, ⟨oe, vs, he, hde, h1⟩, F, U⟩ := flyT (fl' := .none) x
  unfold setFlight
  refine wpAny_bind (wpAny_field he hde h1 ?_)
  rw [if_pos (show (Value.ref T != Value.none) = true from by simp)]
  exact wpAny_setField hT hd hsz (h _ F U)

theorem noteD_next (hfr : A.frames = some (env :: outer)) (hf : env.frame = some L) (x : FlyD base (env :: outer) e od .none s.heap)
    (h : ∀ h', FlyD base (env :: outer) e od (rawInt L) h' → s.heap.UpToSlots h' → Q () { s with heap := h' }) : wpAny M A (noteFrame (.ref e) env) Q E s := by
  obtain ⟨T, oT, ts, hT, hd, hsz, h3, ⟨oe, vs, he, hde, h1⟩, F, U⟩ := flyT (fl' := .none) x
  unfold noteFrame
  simp only [hf]
  refine wpAny_bind (wpAny_field he hde h1 ?_)
  rw [if_pos (show (Value.ref T != Value.none) = true from by simp)]
  refine wpAny_bind (wpAny_field hT hd h3 ?_)
  rw [if_neg (show ¬ ((Value.none == rawInt L) = true) from by simp [rawInt])]
  refine wpAny_bind (wpAny_setField hT hd hsz ?_)
  obtain ⟨x1, x2, x3, oe', vs', T', oT', ts', b1, b2, b3, b4, b5, _, _, _, _, _⟩ := F
  exact entryD (s := { s with heap := s.heap.update T (Obj.mapFields (·.setIfInBounds 3 Value.none)) }) hfr x3 hf x1 x2 b1 b2 b3 b4 (Array.getElem?_eq_some_iff.mp b5).1 fun h' F' U' => h h' F' (U.trans U')

theorem FlyD.out {fl : Value} {h : Heap} (x : FlyD base (env :: outer) e od fl h) : FlyD base outer e od fl h := ⟨x.stays, x.new, x.frames.2.2, x.tr⟩
theorem leaveD_first {oe : Obj} {vs : Array Value} (hfr : A.frames = some (env :: outer)) (hl : s.heap.FunFrames base (env :: outer)) (hf : env.frame = some L) (hkb : base.StaysIn s.heap) (hen : base.get? e = none)
    (he : s.heap.get? e = some oe) (hc : oe.cls = .ref 38) (ho : oe.dict = od) (hd : oe.data = .fields vs) (h1 : vs[1]? = some .none)
    (h : ∀ h', FlyD base outer e od .none h' → s.heap.UpToSlots h' → Q () { s with heap := h' }) : wpAny M A (leaving env (.ref e)) Q E s := by
  unfold leaving
  refine wpAny_bind (noteD_first hfr hl hf hkb hen he hc ho hd h1 fun h₁ F U => ?_)
  exact flightD (s := { s with heap := h₁ }) F fun h₂ F' U' => h h₂ F'.out (U.trans U')
theorem leaveD_next (hfr : A.frames = some (env :: outer)) (hf : env.frame = some L) (x : FlyD base (env :: outer) e od .none s.heap)
    (h : ∀ h', FlyD base outer e od .none h' → s.heap.UpToSlots h' → Q () { s with heap := h' }) : wpAny M A (leaving env (.ref e)) Q E s := by
  unfold leaving
  refine wpAny_bind (noteD_next hfr hf x fun h₁ F U => ?_)
  exact flightD (s := { s with heap := h₁ }) F fun h₂ F' U' => h h₂ F'.out (U.trans U')
end

/-- an exception on its way through the frames l; G is the heap that the caller lent, news what stands beside -/
def RaisedD (base G : Heap) (l : List Env) (e dx : Addr) (news : List (Addr × Obj)) (h : Heap) : Prop :=
  ∃ B, base.StaysIn B ∧ (∀ b o, G.get? b = some o → b ∉ l.filterMap (·.frame) → B.get? b = some o) ∧ (∀ q ∈ news, B.get? q.1 = some q.2 ∧ G.get? q.1 = none ∧ base.get? q.1 = none) ∧ FlyD B l e (some dx) .none h

section
variable {M : Model} {A : Around} {E : Value → Shared → Prop} {s' : Shared} {base g g₂ : Heap} {outer : List Env} {L a e dx t : Addr} {m : Str → Option Value} {name : Str} {scope : Scope} {cd : Value} {Q : Unit → Shared → Prop} {news : List (Addr × Obj)}

theorem leave_first (K : Below A base outer g) (F : Fr g L s'.heap m) (N : News g L s'.heap news) (he : s'.heap.get? e = some (excO t (some dx))) (hen : g.get? e = none) (hne : ∀ q ∈ news, q.1 ≠ e)
    (hQ : ∀ h', RaisedD base g outer e dx news h' → g.UpToSlots h' → Q () { s' with heap := h' }) (hk : scope.kind = .function := by rfl) :
    wpAny M (A.deeper (envOf name scope L a cd)) (leaving (envOf name scope L a cd) (.ref e)) Q E s' := by
  have K' := K.push (name := name) (a := a) (cd := cd) F hk
  have hin : ∀ env ∈ (envOf name scope L a cd :: outer), ∀ b, env.frame = some b → b ∈ e :: (envOf name scope L a cd :: outer).filterMap (·.frame) := fun env he b hb => .tail _ (List.mem_filterMap.mpr ⟨env, he, hb⟩)
  have st : base.StaysIn (hideAll s'.heap (e :: (envOf name scope L a cd :: outer).filterMap (·.frame))) := fun b o q => hideAll_get _ (K'.stays b o q) fun hm => by
    rcases List.mem_cons.mp hm with z | hm
    · have := K.stays b o q
      rw [z, hen] at this
      cases this
    · rw [(K'.frames.mem hm).1] at q; cases q
  refine leaveD_first K'.stack (funFrames_hide K'.frames hin) rfl (fun b o q => of_hideAll _ q) (hideAll_none _ (.head _)) he rfl rfl rfl rfl fun h' X U => ?_
  refine hQ h' ⟨_, st, fun b o q nm => hideAll_get _ (F.keep b o q) fun hm => ?_, fun q hq => ⟨hideAll_get _ (N q hq).1 fun hm => ?_, (N q hq).2.2, kts_none K.stays (N q hq).2.2⟩, X⟩ ((Heap.UpToSlots.of_keeps F.keep).trans U)
  · rcases List.mem_cons.mp hm with z | hm
    · rw [z, hen] at q
      cases q
    · rcases kts_mem hm with z | z
      · rw [z, kts_self F] at q
        cases q
      · exact nm z
  · rcases List.mem_cons.mp hm with z | hm
    · exact hne q hq z
    · obtain ⟨env, he', hf⟩ := List.mem_filterMap.mp hm
      rcases List.mem_cons.mp he' with rfl | he'
      · exact (N q hq).2.1 (Option.some.inj hf).symm
      · obtain ⟨o, ho, _⟩ := (K.frames.mem (List.mem_filterMap.mpr ⟨env, he', hf⟩)).2
        rw [(N q hq).2.2] at ho; cases ho

theorem leave_next (K : Below A base outer g) (F : Fr g L g₂ m) (R : RaisedD base g₂ (envOf name scope L a cd :: outer) e dx news s'.heap) (hsm : g₂.UpToSlots s'.heap)
    (hQ : ∀ h', RaisedD base g outer e dx news h' → g.UpToSlots h' → Q () { s' with heap := h' }) :
    wpAny M (A.deeper (envOf name scope L a cd)) (leaving (envOf name scope L a cd) (.ref e)) Q E s' := by
  obtain ⟨B, hB, hBG, hl, hfl⟩ := R
  refine leaveD_next (Around.frames_deeper K.stack) rfl hfl fun h' X U => ?_
  refine hQ h' ⟨B, hB, fun b o q nm => hBG b o (F.keep b o q) fun hm => ?_, fun q hq => ⟨(hl q hq).1, kts_none F.keep (hl q hq).2.1, (hl q hq).2.2⟩, X⟩ ((Heap.UpToSlots.of_keeps F.keep).trans (hsm.trans U))
  rcases kts_mem hm with z | z
  · rw [z, kts_self F] at q
    cases q
  · exact nm z
end

section
variable {prog : Program} {w : World} {A₀ : Around} {E : Value → Shared → Prop} {s' : Shared} {base g G : Heap} {outer : List Env} {L a e dx : Addr} {m : Str → Option Value} {name : Str} {scope : Scope} {cd : Value}
  {n : Str} {b₀ : Stmt} {suite : List Stmt} {pos np : Pos} {rest : List ExceptHandler} {Q : Flow → Shared → Prop} {news : List (Addr × Obj)} {KF : Frag}
  {p : Program} {loose : List Str} {mean : ExcName → Option Value} {mg mb : Str → Option Value} {x : Str}

inductive ClsK (h : Heap) : Prop
  | mk : ∀ nm qn N bs bm hdct sn sub ab col dd k0 k1 k2 k3 k5 newId, h.get? 38 = some (excClassObj nm qn 38 N bs bm hdct sn sub ab col dd k0 k1 k2 k3 k5 newId) → bm.contains (.type "BaseException") = true → ClsK h
theorem clsK {K : Frag} {h : Heap} (X : K.In h) (q : ktsIn K 38 "BaseException" = true) : ClsK h := by
  obtain ⟨nm, q', N, bs, bm, hdct, sn, sub, ab, col, dd, k0, k1, k2, k3, k5, newId, hC, hbase, -⟩ := kts_cls X q
  exact .mk _ _ _ _ _ _ _ _ _ _ _ _ _ _ _ _ _ hC hbase
/-- the exception as it is held by a name -/
def EObj (dx : Addr) (oe : Obj) : Prop := oe.cls = .ref 38 ∧ oe.dict = some dx ∧ ∃ vs, oe.data = .fields vs
theorem caughtD (R : RaisedD base G (envOf name scope L a cd :: outer) e dx news s'.heap) (F : Fr g L G m) (K : Below A₀ base outer g) (hsm : G.UpToSlots s'.heap) (XB : KF.In base) (TB : Top p loose mean mg mb base)
    (D : KtsDicts (outer.filterMap (·.frame)) g)
    (ex : nsIn KF mainGlobals x = some (some (.ref 38))) (q : ktsIn KF 38 "BaseException" = true)
    (k : ∀ h' g' oe tk, EObj dx oe → KtsTurn (outer.filterMap (·.frame)) g g' → Fr g' L h' (fun y => if y = n then some (.ref e) else m y) → News g' L h' ((e, oe) :: news) → Below A₀ base outer g' → KF.In g' → Top p loose mean mg mb g' → KtsDicts (outer.filterMap (·.frame)) g' →
      wpAny (model prog w) ((A₀.deeper (envOf name scope L a cd)).mark (some (.ref e))) (execs (b₀ :: suite) (envOf name scope L a cd))
        (fun f s₄ => wpAny (model prog w) (A₀.deeper (envOf name scope L a cd)) (do bindName (envOf name scope L a cd) n .none; unbindBehindTheSuite (envOf name scope L a cd) n pos) (fun _ s₅ => Q f s₅) E s₄)
        (AsSuiteRaised (model prog w) ((A₀.deeper (envOf name scope L a cd)).mark (some (.ref e))) (envOf name scope L a cd) n pos (notedBy (model prog w) ((A₀.deeper (envOf name scope L a cd)).mark (some (.ref e))) (envOf name scope L a cd) (cameBackBy (model prog w) (A₀.deeper (envOf name scope L a cd)) (envOf name scope L a cd) E)))
        { s' with heap := h', toks := tk })
    (hk : scope.kind = .function := by rfl) (hlo : (envOf name scope L a cd).kindOf n = some .local := by rfl) (hx : (envOf name scope L a cd).kindOf x = some .globalImplicit := by rfl) (hd : (x == ("__debug__" : Str)) = false := by decide) :
    wpAny (model prog w) (A₀.deeper (envOf name scope L a cd)) (noteFrame (.ref e) (envOf name scope L a cd))
      (fun _ s₂ => wpAny (model prog w) (A₀.deeper (envOf name scope L a cd)) (setFlight (.ref e) none) (fun _ s₃ =>
        wpAny (model prog w) (A₀.deeper (envOf name scope L a cd)) (handleBy (.ref e) (envOf name scope L a cd) (.ExceptHandler (some (.Name x np)) (some n) (b₀ :: suite) pos :: rest)) Q E s₃) E s₂) E s' := by
  obtain ⟨B, hB, hBG, hl, hfl⟩ := R
  have hL : B.get? L = none := by
    obtain ⟨_, ⟨L', _, hf, hn', _⟩, _⟩ := hfl.frames
    obtain rfl : L = L' := Option.some.inj hf
    exact hn'
  refine noteD_next (Around.frames_deeper K.stack) rfl hfl fun h₄ X₄ U₄ => ?_
  refine flightD (s := { s' with heap := h₄ }) X₄ fun h₅ X₅ U₅ => ?_
  have sm5 := hsm.trans (U₄.trans U₅)
  obtain ⟨g₅, T₅, F₅, K₅⟩ := kts_ground K F hBG X₅.stays sm5
  have I₅ : KF.In g₅ := XB.keeps K₅.stays
  have P₅ : TopRead p loose mg mb g₅ := topRead_of (TB.keeps K₅.stays)
  obtain ⟨ob, vo, hob, hobc, -, -⟩ := X₅.obj
  obtain ⟨nm, q', N, bs, bm, hdct, sn, sub, ab, col, dd, k0, k1, k2, k3, k5, newId, hC, hbase⟩ := clsK I₅ q
  refine wpAny_handleBy_cons (codeAny_handlers_test (name_K F₅ I₅ P₅ ex ?_ hk hx hd)) (by intro q; cases q)
  refine wpAny_excMatches_sub_self (F₅.keep _ _ hC) hob hobc hbase (codeAny_handlers_suite_as ?_)
  refine flightD (s := ⟨h₅, _, _, _, _⟩) X₅ fun h₆ X₆ U₆ => ?_
  obtain ⟨g₆, T₆, F₆, K₆⟩ := kts_ground K F hBG X₆.stays (sm5.trans U₆)
  obtain ⟨oe, vo6, hoe, hoec, hoed, hoef⟩ := X₆.obj
  have ne6 : g₆.get? e = none := T₆.none_ _ (kts_fresh F hBG X₆.new fun o ho hm => by
    obtain ⟨_, o', ho', hd'⟩ := K.frames.mem hm
    rw [ho] at ho'
    cases ho'
    obtain ⟨sl, hs⟩ := (sm5.trans U₆) _ _ (F.keep _ _ ho) hd'
    rw [hoe] at hs
    cases hs
    exact hd' _ hoef)
  have heL : e ≠ L := fun z => by
    obtain ⟨_, ⟨L', o, hf, _, ho, hd'⟩, _⟩ := X₅.frames
    obtain rfl : L = L' := Option.some.inj hf
    obtain ⟨ob', vo', hob', -, -, hof'⟩ := X₅.obj
    rw [z, ho] at hob'
    cases hob'
    exact hd' _ hof'
  have Nl : News g₆ L h₆ ((e, oe) :: news) := fun q hq => by
    rcases List.mem_cons.mp hq with rfl | hq
    · exact ⟨hoe, heL, ne6⟩
    · exact ⟨X₆.stays _ _ (hl q hq).1, (fun z => by have := (hl q hq).1; rw [z, hL] at this; cases this), T₆.none_ _ (kts_none F.keep (hl q hq).2.1)⟩
  have I₆ : KF.In g₆ := XB.keeps K₆.stays
  have P₆ : Top p loose mean mg mb g₆ := TB.keeps K₆.stays
  refine stN (s := ⟨h₆, _, _, _, _⟩) F₆ Nl (fun h₇ F₇ N₇ => ?_) hk hlo
  exact k h₇ g₆ oe _ ⟨hoec, hoed, vo6, hoef⟩ T₆ F₇ N₇ K₆ I₆ P₆ (D.turn T₆)
end
end Mine
end
section
open PySem PySem.Calls PySem.W PyProof.Rows
set_option maxHeartbeats 4000000
namespace Mine
local macro_rules | `(tactic| walk_at "Never0") => `(tactic| fail)
local macro_rules | `(tactic| walk_at "Never1") => `(tactic| fail)
theorem rstRaise : True := by
  w_top off
  k_with_none
  trivial
theorem fillIt11 : PySem.Challenge.rw_no0070_01 = PySem.Challenge.rw_no0070_01 ∧ Mine.hd.heap_1 = Mine.hd.heap_1 := by
  k_fill
  exact ⟨rfl, rfl⟩

/-- the attributes of the exception -/
inductive QDict (o : Obj) : Prop
  | mk : ∀ h1 h2 h3 k1 k2 k3 tc v2 v3 n, o = dictOf [⟨h1, .str (Str.ofString "code") k1, .int 3 tc⟩, ⟨h2, .str (Str.ofString "frame_type") k2, v2⟩, ⟨h3, .str (Str.ofString "text") k3, v3⟩] n → QDict o
/-- a promise to raise -/
def SpecR (w : World) (mean : ExcName → Option Value) (mg mb : Str → Option Value) (f : Addr) (args : List Value) (dpt : Nat) (foot : List (Addr × Obj)) : Prop :=
  ∀ (dp un : Nat) (gd : Option (List Code)) (base : Heap) (outer : List Env) (A₀ : Around) (g : Heap) (s : Shared) (R : Result → Shared → Prop),
    Below A₀ base outer g → (Mine.hd.heap_1 w.params).In g → Top VW (looseW VW []) mean mg mb g → Own g s.heap foot → dp + dpt < recursionLimit → un + 8 * dpt < cLine →
    (∀ e dx qd h' tk', QDict qd → RaisedD base g outer e dx ((dx, qd) :: foot) h' → g.UpToSlots h' → R (.error (.ref e)) { s with heap := h', toks := tk' }) →
    codeAny (model PG w) (arnd dp un gd outer) (.call (.ref f) ⟨args, []⟩) R s
def fnAt (K : Frag) (f : Addr) : Bool := match K.lookup f with
  | some ⟨.type n, _, _, _⟩ => n == "function"
  | _ => false
theorem fnAt_get {K : Frag} {h : Heap} {f : Addr} (X : K.In h) (q : fnAt K f = true) : ∃ o, h.get? f = some o ∧ o.cls = .type "function" := by
  unfold fnAt at q
  split at q
  · rename_i n d dt sl ho
    obtain rfl := beq_iff_eq.mp q
    exact ⟨_, X _ _ ho, rfl⟩
  · cases q
theorem fn35 (w : World) : fnAt (Mine.hd.heap_1 w.params) 35 = true := by kernel_rfl
theorem own38 (w : World) : ktsIn (Mine.hd.heap_1 w.params) 38 "BaseException" = true := by kernel_rfl
theorem under_new {dp un : Nat} {gd : Option (List Code)} {cn : Str} {cs : Scope} {a L : Addr} {ccd : Value} {cl : List (Str × Addr)} {outer : List Env} {rest : List Value} :
    (ktrTop dp un gd cn cs L a ccd cl outer).under (.builtin "type.__call__" ⟨.ref 38 :: rest, []⟩) = ktrTop (dp + 1) (un + 1) gd cn cs L a ccd cl outer := rfl

section
variable {w : World} {mean : ExcName → Option Value} {mg mb : Str → Option Value} {dp un : Nat} {gd : Option (List Code)} {cn : Str} {cs : Scope} {a : Addr} {ccd : Value} {cl : List (Str × Addr)} {outer : List Env} {A₀ : Around} {base h₀ : Heap} {L : Addr} {m : Str → Option Value} {s : Shared} {news : List (Addr × Obj)}
  {E : Value → Shared → Prop}
theorem newOwn {tx : Str} {t u v : Tok} {Q : Value → Shared → Prop} (B : Below A₀ base outer h₀) (F : Fr h₀ L s.heap m) (KX : (Mine.hd.heap_1 w.params).In h₀) (T : Top VW (looseW VW []) mean mg mb h₀) (N : News h₀ L s.heap news) (hk : cs.kind = .function)
    (hlen : tx.length < 100) (hdp : dp + 5 < recursionLimit) (hun : un + 8 * 5 < cLine)
    (ret : ∀ e t1 dx qd h' tk', QDict qd → Fr h₀ L h' m → News h₀ L h' ((e, excO t1 (some dx)) :: (dx, qd) :: news) → (∀ p ∈ (dx, qd) :: news, p.1 ≠ e) → Q (.ref e) { s with heap := h', toks := tk' }) :
    wpAny (model PG w) (ktrTop dp un gd cn cs L a ccd cl outer) (call (.ref 38) [.int 3 t, .int 8 u, .str tx v]) Q E s := by
  obtain ⟨nm, qn, Nn, bs, hdct, sn, sub, ab, col, dd, k0, k1, k2, k3, k5, mN, hC, hN, hi⟩ := exc_cls (KX.keeps F.keep) (exc_ok w)
  obtain ⟨oI, hoI, hfc⟩ := fnAt_get (KX.keeps F.keep) (fn35 w)
  refine wpAny_call_exc_init PySem.F.excBase_Exception hC hN hi hoI hfc (fun h' e hm => ?_) (by rw [sizeLine_eq]; exact Nat.le_of_ble_eq_true rfl)
  obtain ⟨hkeep, hnew, t0, he, ht0, hto⟩ := hm
  have hne : e ≠ t0 := fun z => by
    rw [z, hto] at he
    cases he
  rw [under_new]
  have none' : ∀ b, s.heap.get? b = none → h₀.get? b = none := fun b q => kts_none F.keep q
  have neL : ∀ b, s.heap.get? b = none → b ≠ L := fun b q z => by
    obtain ⟨oL, es, ep, hL, _⟩ := F.ns
    rw [z, hL] at q
    cases q
  have N' : News h₀ L h' ((e, excO t0 none) :: (t0, tupO [.int 3 t, .int 8 u, .str tx v]) :: news) := fun p hp => by
    rcases List.mem_cons.mp hp with rfl | hp
    · exact ⟨he, neL _ hnew, none' _ hnew⟩
    · rcases List.mem_cons.mp hp with rfl | hp
      · exact ⟨hto, neL _ ht0, none' _ ht0⟩
      · exact ⟨hkeep _ _ (N p hp).1, (N p hp).2⟩
  have ne : ∀ p ∈ news, p.1 ≠ e ∧ p.1 ≠ t0 := fun p hp => ⟨fun z => (by have q := (N p hp).1; rw [z, hnew] at q; cases q), fun z => (by have q := (N p hp).1; rw [z, ht0] at q; cases q)⟩
  refine Spec.use (s := ⟨h', _, _, _, _⟩) (foot := [(e, excO t0 none), (t0, tupO [.int 3 t, .int 8 u, .str tx v])]) (init_spec hne hlen) B (F.keeps hkeep) KX T N' hk (Sel.cons .head (Sel.cons .head Sel.nil)) (fun p hp q hq => ?_) (fun _ _ _ => trivial) (by omega) (by omega) fun r foot' h'' tk' F' N'' x P => ?_
  · rcases List.mem_cons.mp hq with rfl | hq
    · exact (ne p hp).1
    · rw [List.mem_singleton] at hq
      subst hq
      exact (ne p hp).2
  · obtain ⟨rfl, t1, dx, q1, q2, q3, i1, i2, i3, n, rfl⟩ := P
    have hdx : dx ≠ e := fun z => by
      have a1 := (N'' (dx, _) (.tail _ (.head _))).1
      have a2 := (N'' (e, _) (.head _)).1
      rw [z] at a1
      dsimp only at a1 a2
      rw [a1] at a2
      cases a2
    refine ⟨rfl, ret e t1 dx _ h'' tk' ⟨_, _, _, _, _, _, _, _, _, _, rfl⟩ F' N'' fun p hp => ?_⟩
    rcases List.mem_cons.mp hp with rfl | hp
    · exact hdx
    · exact (ne p hp).1
end

local macro_rules | `(tactic| walk_at "exec Raise some none") => `(tactic| (k_here; k_dflt (refine' raise_own ?k0 (exc_ok _) ?k1 ?_; (case k0 => k_asm); (case k1 => exact rfl); k_whole)))
theorem raisable {h₀ : Heap} {E : Value → Shared → Prop} {L : Addr} {m : Str → Option Value} {news : List (Addr × Obj)} {e t dx : Addr} {s₁ : Shared} (F : Fr h₀ L s₁.heap m) (N : News h₀ L s₁.heap ((e, excO t (some dx)) :: news)) (h : E (.ref e) s₁) : RaisableC h₀ E (.ref e) s₁ :=
  ⟨e, t, dx, rfl, F.keep, (N _ (.head _)).1, h⟩

theorem check_raise {w : World} {mean : ExcName → Option Value} {mg mb : Str → Option Value} {part dx : Addr} {od : Obj} {lim : Int} {st : Str} {pl : Addr} {r H n e : Nat} {fin isEnd : Bool} {t u : Tok} {tl : List (Addr × Obj)}
    (hP : PartOk lim st pl r H fin n od) (hne : @Ne Nat part dx) (h1 : e ≤ n) (h2 : isEnd = true → e = n) (h3 : H ≤ n) (h4 : lim < (e : Int)) :
    SpecR w mean mg mb 88 [.ref part, .int (e : Nat) t, .bool isEnd, .int 8 u] 8 ((part, instObj 154 dx) :: (dx, od) :: tl) := by
  obtain ⟨a1, a2, a3, a4, a5, a6, a7, a8, k1, k2, k3, k4, k5, k6, k7, k8, t1, t2, t4, t5, fv, nn, rfl, hf⟩ := hP
  unfold partD

  rintro dp un gd base outer A₀ g ⟨hp0, gn0, dr0, tk0, os0⟩ R B X T O hdp hun hret
  refine' enterC (binds := [(Str.ofString "self", .ref part), (Str.ofString "end", .int (e : Nat) t), (Str.ofString "is_final", .bool isEnd), (Str.ofString "frame_type", .int 8 u)]) B rfl O X (Top.nolimit T) ?k6 ?k7 ?k8 ?k9 ?kB ?_ ?c2 ?c3 ?c4 ?c5
  case k6 => k_is
  case k7 => k_is
  case k8 => ktr_room
  case k9 => exact BindsTo.of_eq rfl
  case kB => exact locs rfl
  case c2 => exact rfl
  case c3 => exact rfl
  case c4 => exact rfl
  case c5 => decide
  intro L' h₁ F' N' B' hlt
  (try k_lt hlt)
  (try dsimp only)
  (try k_fold)
  cases fin
  · simp only [Bool.false_eq_true, if_false] at hf
    subst hf
    cases isEnd
    · k_steps
      all_goals first
      | (exfalso; omega)
      | (refine' newOwn B' (by assumption) X T (by assumption) rfl ?q1 ?q2 ?q3 ?_
         case q1 => decide
         case q2 => ktr_room
         case q3 => ktr_units
         intro e9 t9 dx9 qd9 h9 tk9 hq9 F9 N9 ne9
         refine raisable (s₁ := ⟨h9, _, _, _, _⟩) F9 N9 ?_
         refine leave_first (s' := ⟨h9, _, _, _, _⟩) B' F9 (News.drop N9) (N9 _ (.head _)).1 (N9 _ (.head _)).2.2 ne9 fun h8 R8 U8 => ?_
         exact hret e9 dx9 qd9 h8 _ hq9 R8 U8)
    · have h2' := h2 rfl
      k_steps
      all_goals first
      | (exfalso; omega)
      | (refine' newOwn B' (by assumption) X T (by assumption) rfl ?q1 ?q2 ?q3 ?_
         case q1 => decide
         case q2 => ktr_room
         case q3 => ktr_units
         intro e9 t9 dx9 qd9 h9 tk9 hq9 F9 N9 ne9
         refine raisable (s₁ := ⟨h9, _, _, _, _⟩) F9 N9 ?_
         refine leave_first (s' := ⟨h9, _, _, _, _⟩) B' F9 (News.drop N9) (N9 _ (.head _)).1 (N9 _ (.head _)).2.2 ne9 fun h8 R8 U8 => ?_
         exact hret e9 dx9 qd9 h8 _ hq9 R8 U8)
  · simp only [if_true] at hf
    obtain ⟨t6, rfl⟩ := hf
    cases isEnd
    · k_steps
      all_goals first
      | (exfalso; omega)
      | (refine' newOwn B' (by assumption) X T (by assumption) rfl ?q1 ?q2 ?q3 ?_
         case q1 => decide
         case q2 => ktr_room
         case q3 => ktr_units
         intro e9 t9 dx9 qd9 h9 tk9 hq9 F9 N9 ne9
         refine raisable (s₁ := ⟨h9, _, _, _, _⟩) F9 N9 ?_
         refine leave_first (s' := ⟨h9, _, _, _, _⟩) B' F9 (News.drop N9) (N9 _ (.head _)).1 (N9 _ (.head _)).2.2 ne9 fun h8 R8 U8 => ?_
         exact hret e9 dx9 qd9 h8 _ hq9 R8 U8)
    · have h2' := h2 rfl
      k_steps
      all_goals first
      | (exfalso; omega)
      | (refine' newOwn B' (by assumption) X T (by assumption) rfl ?q1 ?q2 ?q3 ?_
         case q1 => decide
         case q2 => ktr_room
         case q3 => ktr_units
         intro e9 t9 dx9 qd9 h9 tk9 hq9 F9 N9 ne9
         refine raisable (s₁ := ⟨h9, _, _, _, _⟩) F9 N9 ?_
         refine leave_first (s' := ⟨h9, _, _, _, _⟩) B' F9 (News.drop N9) (N9 _ (.head _)).1 (N9 _ (.head _)).2.2 ne9 fun h8 R8 U8 => ?_
         exact hret e9 dx9 qd9 h8 _ hq9 R8 U8)
end Mine
end
section
open PySem PySem.Calls PySem.W PyProof.Rows
set_option maxHeartbeats 400000
namespace Mine
theorem rstExg : True := by
  w_top off
  k_with_none
  trivial
section
variable {prog : Program} {w : World} {A : Around} {E : Value → Shared → Prop} {s : Shared} {K : Frag} {x C : Addr} {name : Str} {v : Value} {ox od : Obj}
theorem getB_code {tk : Tok} {R : Result → Shared → Prop} (X : K.In s.heap) (I : InstAt s.heap x ox C (some od)) (hp : excOver K C = true) (hf : findObj K C (some od) name = some (.value v)) (h : R (.ok (.ret v)) s) :
    codeAny (model prog w) A (.call (.builtin "BaseException.__getattribute__") ⟨[.ref x, .str name tk], []⟩) R s := by
  obtain ⟨cd, hc, ho⟩ := any_some hp
  have ho' : cd.mro = excMro C := beq_iff_eq.mp ho
  have ne : cd.mro.isEmpty = false := by rw [ho']; rfl
  have has : cd.mro.contains (.type "BaseException") = true := by
    rw [ho']
    simp [excMro]
  have sub : Looks (model prog w) s.heap (isInstance (.ref x) (.type "BaseException")) true := I.type.andThen (looks_mroIn X (by unfold mroIn; rw [hc, Option.bind_some, if_neg (by rw [ne]; decide), has]))
  have pl := PySem.F.attr_Exception.ga.plain
  have hk : builtinKind "BaseException.__getattribute__" = some .slot := by decide +kernel
  have hs : splitId "BaseException.__getattribute__" = some ("BaseException", "__getattribute__") := by decide +kernel
  refine codeAny_call_builtin pl PySem.F.entry_bexc_ga ?_
  refine @check_slot (model prog w) _ _ s "BaseException.__getattribute__" "BaseException" "__getattribute__" (.ref x) [.str name tk] [] _ hk hs sub (PySem.F.args_bexc_ga (.ref x) (.str name tk)) ?_
  obtain ⟨hh, g, d, t, os⟩ := s
  have L0 := I.type (M := model prog w)
  have L1 := looks_find (M := model prog w) X I hf
  unfold Builtin.«object.__getattribute__»
  refine wpAny_bind (m := slotArgs "__getattribute__" 1 _) (wpAny_pure ?_)
  refine (wpAny_bind (wpAny_pure (wpAny_bind (L0.at (wpAny_bind (L1.at ?_))))))
  exact wpAny_pure h
theorem getE {expr : Bool} {Q : Value → Shared → Prop} (X : K.In s.heap) (I : InstAt s.heap x ox C (some od)) (hp : excOver K C = true) (hga : findIn K (.ref C) "__getattribute__" = some (some (.builtin "BaseException.__getattribute__"))) (hgn : findIn K (.ref C) "__getattr__" = some none)
    (hf : findObj K C (some od) name = some (Builtin.ObjectAttr.Found.value v)) (hh : handedIn v = true) (h : Q v { s with toks := s.toks + 1 }) : wpAny (model prog w) A (getAttr (.ref x) name expr) Q E s := by
  have c1 := getB_code (prog := prog) (w := w) (A := A) (tk := s.toks) (R := fun r s' => match r with | .ok (.ret v) => wpAny (model prog w) A (handedOut v) Q E s' | _ => False) (s := { s with toks := s.toks + 1 }) X I hp hf (by
    show wpAny _ _ (handedOut v) _ _ _
    rw [handedOut_of hh]; exact wpAny_pure h)
  obtain ⟨hp0, g, d, t, os⟩ := s
  have L0 := I.type (M := model prog w)
  have L1 := looks_findIn (M := model prog w) X hga
  have L2 := looks_findIn (M := model prog w) X hgn
  unfold getAttr getAttrBy
  refine wpAny_bind (wpAny_mkText (wpAny_holding (wpAny_bind (L0.at (wpAny_bind (L1.at ?_))))))
  show wpAny _ _ (getAttrByItsOwn _ _ _ _ _ _) _ _ _
  unfold getAttrByItsOwn hookBefore
  have on : onTheHeap (.ref C) = true := rfl
  rw [on]
  refine wpAny_bind (L2.at ?_)
  unfold callGetattribute
  have hx0 : (expr && onTheHeap (Value.builtin "BaseException.__getattribute__")) = false := by cases expr <;> rfl
  rw [hx0]
  have f3 := PySem.F.attr_Exception.ga.bind (.ref x)
  unfold boundAndCalled
  refine wpAny_bind (wpAny_attempt (wpAny_holding (wpAny_bind (wpAny_of_eq f3 ?_))))
  refine wpAny_call (codeAny_mono c1 fun r s' z => ?_)
  match r, z with
  | .ok (.ret v), z => exact z

theorem get_exc {L dx : Addr} {h₀ : Heap} {m : Str → Option Value} {news : List (Addr × Obj)} {es : List DictEntry} {n : Nat} {attr : Option Value} {vs : Array Value} {expr : Bool} {Q : Value → Shared → Prop} (F : Fr h₀ L s.heap m) (X₀ : K.In h₀) (N : News h₀ L s.heap news) (hx : (x, ox) ∈ news) (hcl : ox.cls = .ref C) (hfl : ox.data = .fields vs) (hd : ox.dict = some dx) (hm : (dx, dictOf es n) ∈ news)
    (hp : excOver K C = true) (hga : findIn K (.ref C) "__getattribute__" = some (some (.builtin "BaseException.__getattribute__"))) (hgn : findIn K (.ref C) "__getattr__" = some none)
    (hh : hasDictIn K C = true) (ha : findIn K (.ref C) name = some attr) (hn : noGet K attr = true) (hl : getL name es = some (some v)) (hv : handedIn v = true) (h : Q v { s with toks := s.toks + 1 }) : wpAny (model prog w) A (getAttr (.ref x) name expr) Q E s := by
  have I : InstAt s.heap x ox C (some (dictOf es n)) := ⟨(N _ hx).1, hcl, by unfold notCls; rw [hfl], by rw [hd]; exact (N _ hm).1⟩
  exact getE (X₀.keeps F.keep) I hp hga hgn (findObj_own hh ha hn hl) hv h
end
end Mine
end
section
open PySem PySem.Calls PySem.W PyProof.Rows
set_option maxHeartbeats 4000000
namespace Mine
theorem rstRaise2 : True := by
  w_top off
  k_with_none
  trivial
theorem fillIt12 : PySem.Challenge.rw_no0070_01 = PySem.Challenge.rw_no0070_01 ∧ Mine.hd.heap_1 = Mine.hd.heap_1 := by
  k_fill
  exact ⟨rfl, rfl⟩

section
variable {w : World} {mean : ExcName → Option Value} {mg mb : Str → Option Value} {dp un : Nat} {gd : Option (List Code)} {cn : Str} {cs : Scope} {a : Addr} {ccd : Value} {cl : List (Str × Addr)} {outer : List Env} {A₀ : Around} {base h₀ : Heap} {L : Addr} {m : Str → Option Value} {s : Shared} {news foot : List (Addr × Obj)}
  {E : Value → Shared → Prop} {f : Addr} {args : List Value} {dpt : Nat}
theorem frHide {rest : List (Addr × Obj)} (B : Below A₀ base outer h₀) (F : Fr h₀ L s.heap m) (N : News h₀ L s.heap news) (hs : Sel foot news rest) : Fr h₀ L (hideAll s.heap (foot.map (·.1))) m := by
  have nm : ∀ b o, h₀.get? b = some o → b ∉ foot.map (·.1) := fun b o e q => by
    obtain ⟨p, hp, rfl⟩ := List.mem_map.mp q
    rw [(N p (hs.mem.1 p hp)).2.2] at e; cases e
  have nL : L ∉ foot.map (·.1) := fun q => by
    obtain ⟨p, hp, e⟩ := List.mem_map.mp q
    exact (N p (hs.mem.1 p hp)).2.1 e
  obtain ⟨oL, es, ep, hL, hLd, hLk, hLf⟩ := F.ns
  exact ⟨⟨oL, es, ep, hideAll_get _ hL nL, hLd, hLk, hLf⟩, fun b o e => hideAll_get _ (F.keep b o e) (nm b o e), F.above⟩
theorem SpecR.cast {args' : List Value} (S : SpecR w mean mg mb f args dpt foot) (e : args = args') : SpecR w mean mg mb f args' dpt foot := e ▸ S
theorem SpecR.use {Q : Value → Shared → Prop} (S : SpecR w mean mg mb f args dpt foot) (B : Below A₀ base outer h₀) (F : Fr h₀ L s.heap m) (X : (Mine.hd.heap_1 w.params).In h₀) (T : Top VW (looseW VW []) mean mg mb h₀) (N : News h₀ L s.heap foot) (hk : cs.kind = .function)
    (hdp : dp + dpt < recursionLimit) (hun : un + 8 * dpt < cLine)
    (exc : ∀ e dx qd G h' tk', QDict qd → Fr h₀ L G m → RaisedD base G (envX cn cs L a ccd cl :: outer) e dx ((dx, qd) :: foot) h' → G.UpToSlots h' → E (.ref e) { s with heap := h', toks := tk' }) :
    wpAny (model PG w) (ktrTop dp un gd cn cs L a ccd cl outer) (call (.ref f) args) Q E s := by
  have G := Below.ground (A := ktrTop dp un gd cn cs L a ccd cl outer) (env := envX cn cs L a ccd cl) B F N Sel.whole rfl rfl hk
  refine wpAny_call ?_
  refine S dp un gd base (envX cn cs L a ccd cl :: outer) _ (hideAll s.heap (foot.map (·.1))) s _ G.1 (fun a o e => G.2 a o (X a o e)) (T.keeps G.2) (Own.start N Sel.whole) hdp hun (fun e dx qd h' tk' hq R' U' => ?_)
  exact exc e dx qd _ h' tk' hq (frHide B F N Sel.whole) R' U'
end

theorem onStream_raise {w : World} {mean : ExcName → Option Value} {mg mb : Str → Option Value} {part dx : Addr} {od : Obj} {oc : List UInt8} {tl : List (Addr × Obj)} {lim : Int} {st : Str} {pl : Addr} {r H o e : Nat} {fin isEnd : Bool} {t u : Tok}
    (hP : PartOk lim st pl r H fin oc.length od) (hoff : OwnOff tl [part, dx]) (hH : H ≤ oc.length) (hne : @Ne Nat part dx) (hoc : oc.length ≤ 13) (h1 : o ≤ e) (h2 : e ≤ oc.length) (h3 : isEnd = true → e = oc.length) (h4 : lim < (e : Int)) :
    SpecR w mean mg mb 102 [.ref part, .int (o : Nat) t, .bytes (seg oc o e) u, .bool isEnd] 12 ((part, instObj 154 dx) :: (dx, od) :: tl) := by
  have hP0 := hP
  obtain ⟨a1, a2, a3, a4, a5, a6, a7, a8, k1, k2, k3, k4, k5, k6, k7, k8, t1, t2, t4, t5, fv, nn, rfl, hf⟩ := hP
  unfold partD at *
  have hoc' : oc.length < 1000 := by omega

  rintro dp un gd base outer A₀ g ⟨hp0, gn0, dr0, tk0, os0⟩ R B X T O hdp hun hret
  refine' enterC (binds := [(Str.ofString "self", .ref part), (Str.ofString "offset", .int (o : Nat) t), (Str.ofString "data", .bytes (seg oc o e) u), (Str.ofString "is_end", .bool isEnd)]) B rfl O X (Top.nolimit T) ?k6 ?k7 ?k8 ?k9 ?kB ?_ ?c2 ?c3 ?c4 ?c5
  case k6 => k_is
  case k7 => k_is
  case k8 => ktr_room
  case k9 => exact BindsTo.of_eq rfl
  case kB => exact locs rfl
  case c2 => exact rfl
  case c3 => exact rfl
  case c4 => exact rfl
  case c5 => decide
  intro L' h₁ F' N' B' hlt
  (try k_lt hlt)
  (try dsimp only)
  (try k_fold)
  k_steps
  refine' SpecR.use (SpecR.cast (check_raise hP0 hne h2 h3 hH h4) ?ca) B' (by assumption) X T (by assumption) rfl ?uh ?uu ?_
  case ca => exact args4 (by omega)
  case uh => ktr_room
  case uu => ktr_units
  intro e9 dx9 qd9 G9 h9 tk9 hq9 F9 R9 U9
  refine leave_next (s' := ⟨h9, _, _, _, _⟩) B' F9 R9 U9 fun h8 R8 U8 => ?_
  exact hret e9 dx9 qd9 h8 _ hq9 R8 U8

theorem sub3 {α : Type} {a b c : α} {l : List α} : ∀ p ∈ a :: l, p ∈ a :: b :: c :: l := fun p hp => by
  rcases List.mem_cons.mp hp with rfl | q
  · exact .head _
  · exact .tail _ (.tail _ (.tail _ q))
/-- a promise to end over a ground whose frames may have been turned -/
def SpecT (w : World) (mean : ExcName → Option Value) (mg mb : Str → Option Value) (f : Addr) (args : List Value) (dpt : Nat) (foot : List (Addr × Obj)) (Post : Value → List (Addr × Obj) → Prop) : Prop :=
  ∀ (dp un : Nat) (gd : Option (List Code)) (base : Heap) (outer : List Env) (A₀ : Around) (g : Heap) (s : Shared) (R : Result → Shared → Prop),
    Below A₀ base outer g → (Mine.hd.heap_1 w.params).In base → Top VW (looseW VW []) mean mg mb base → KtsDicts (outer.filterMap (·.frame)) g → Own g s.heap foot → dp + dpt < recursionLimit → un + 8 * dpt < cLine →
    (∀ g' r foot' h' tk', KtsTurn (outer.filterMap (·.frame)) g g' → Own g' h' foot' → Post r foot' → R (.ok (.ret r)) { s with heap := h', toks := tk' }) →
    codeAny (model PG w) (arnd dp un gd outer) (.call (.ref f) ⟨args, []⟩) R s
theorem Spec.toT {w : World} {mean : ExcName → Option Value} {mg mb : Str → Option Value} {f : Addr} {args : List Value} {dpt : Nat} {foot : List (Addr × Obj)} {Post : Value → List (Addr × Obj) → Prop} (S : Spec w mean mg mb f args dpt (fun _ => True) foot (fun _ r foot' => Post r foot')) :
    SpecT w mean mg mb f args dpt foot Post := fun dp un gd base outer A₀ g s R B X T D O hdp hun ret =>
  S dp un gd base outer A₀ g s R B (X.keeps B.stays) (T.keeps B.stays) trivial O hdp hun fun r foot' h' tk' O' P => ret g r foot' h' tk' .refl O' P

theorem given_raise {w : World} {mean : ExcName → Option Value} {mg mb : Str → Option Value} {part dx : Addr} {od : Obj} {oc : List UInt8} {tl : List (Addr × Obj)} {lim : Int} {st : Str} {pl : Addr} {r H o e : Nat} {fin isEnd : Bool} {t u : Tok}
    (hP : PartOk lim st pl r H fin oc.length od) (hoff : OwnOff tl [part, dx]) (hH : H ≤ oc.length) (hne : @Ne Nat part dx) (hoc : oc.length ≤ 13) (h1 : o ≤ e) (h2 : e ≤ oc.length) (h3 : isEnd = true → e = oc.length) (h4 : lim < (e : Int)) :
    SpecT w mean mg mb 179 [.ref part, .int (o : Nat) t, .bytes (seg oc o e) u, .bool isEnd] 16 ((part, instObj 154 dx) :: (dx, od) :: tl)
      (fun v foot' => ∃ T tk tc n, v = .ref T ∧ foot' = (T, { cls := .type "tuple", data := .seq #[.str (Str.ofString "refused") tk, .int 3 tc] n }) :: (part, instObj 154 dx) :: (dx, od) :: tl) := by
  have hP0 := hP
  obtain ⟨a1, a2, a3, a4, a5, a6, a7, a8, k1, k2, k3, k4, k5, k6, k7, k8, t1, t2, t4, t5, fv, nn, rfl, hf⟩ := hP
  unfold partD at *

  rintro dp un gd base outer A₀ g ⟨hp0, gn0, dr0, tk0, os0⟩ R B XB TB D O hdp hun hret
  have X := XB.keeps B.stays
  have T := TB.keeps B.stays
  refine' enterC (binds := [(Str.ofString "part", .ref part), (Str.ofString "offset", .int (o : Nat) t), (Str.ofString "data", .bytes (seg oc o e) u), (Str.ofString "is_end", .bool isEnd)]) B rfl O X (Top.nolimit T) ?k6 ?k7 ?k8 ?k9 ?kB ?_ ?c2 ?c3 ?c4 ?c5
  case k6 => k_is
  case k7 => k_is
  case k8 => ktr_room
  case k9 => exact BindsTo.of_eq rfl
  case kB => exact locs rfl
  case c2 => exact rfl
  case c3 => exact rfl
  case c4 => exact rfl
  case c5 => decide
  intro L' h₁ F' N' B' hlt
  (try k_lt hlt)
  (try dsimp only)
  (try k_fold)
  k_steps
  refine' SpecR.use (onStream_raise hP0 hoff hH hne hoc h1 h2 h3 h4) B' (by assumption) X T (by assumption) rfl ?uh ?uu ?_
  case uh => ktr_room
  case uu => ktr_units
  intro e9 dx9 qd9 G9 h9 tk9 hq9 F9 R9 U9
  dsimp only
  refine' caughtD (s' := ⟨h9, _, _, _, _⟩) (KF := Mine.hd.heap_1 w.params) R9 F9 (show Below (arnd dp un gd outer) base outer g from B') U9 XB TB D ?ex (own38 w) ?_
  case ex => k_is
  intro h8 g8 oe8 tk8 hoe T8 F8 N8 B8 X8 P8 D8
  clear F' N' B' X T hlt B D O F9
  obtain ⟨q1, q2, q3, i1, i2, i3, tc, v2, v3, n9, rfl⟩ := hq9
  obtain ⟨hoc8, hod8, vs8, hof8⟩ := hoe
  dsimp only
  k_steps
  refine' get_exc (K := Mine.hd.heap_1 w.params) (C := 38) F8 X8 N8 (.head _) hoc8 hof8 hod8 (.tail _ (.head _)) (exc_over w) ?k1 ?k2 ?k3 ?k4 ?k5 ?k6 ?k7 ?_
  case k1 => k_is
  case k2 => k_is
  case k3 => k_is
  case k4 => k_is
  case k5 => k_is
  case k6 => k_get
  case k7 => k_handed
  k_steps
  exact hret g8 _ _ _ _ T8 (Own.of (by assumption) (by assumption) sub3) ⟨_, _, _, _, rfl, rfl⟩
end Mine
end
section
open PySem PySem.Calls PySem.W PyProof.Rows
set_option maxHeartbeats 4000000
namespace Mine
local macro_rules | `(tactic| walk_at "Never0") => `(tactic| fail)
theorem rstRead : True := by
  w_top off
  k_with_none
  trivial
theorem fillIt13 : PySem.Challenge.rw_no0070_01 = PySem.Challenge.rw_no0070_01 ∧ Mine.hd.heap_1 = Mine.hd.heap_1 := by
  k_fill
  exact ⟨rfl, rfl⟩

theorem given_ok {w : World} {mean : ExcName → Option Value} {mg mb : Str → Option Value} {part dx : Addr} {od : Obj} {oc : List UInt8} {tl : List (Addr × Obj)} {lim : Int} {r H o e : Nat} {fin done isEnd : Bool} {C : Nat → Prop} {t u : Tok}
    (P : PInv oc part dx od tl lim r H fin done C) (hne : @Ne Nat part dx) (hoc : oc.length ≤ 13) (h1 : o ≤ e) (h2 : e ≤ oc.length) (h3 : isEnd = true → e = oc.length) (h4 : (e : Int) ≤ lim) :
    Spec w mean mg mb 179 [.ref part, .int (o : Nat) t, .bytes (seg oc o e) u, .bool isEnd] 16 (fun _ => True) ((part, instObj 154 dx) :: (dx, od) :: tl)
      (fun _ v foot' => ∃ tk od' tl', v = .int ((e - H : Nat) : Int) tk ∧ foot' = (part, instObj 154 dx) :: (dx, od') :: tl' ∧ PInv oc part dx od' tl' lim r (max H e) (fin || isEnd) done (fun k => C k ∨ (o ≤ k ∧ k < e))) := by
  have P0 := P
  obtain ⟨pl, refs, c, ps, hP, -, -, -, -, -, hoff, -, -, -, -⟩ := P
  obtain ⟨a1, a2, a3, a4, a5, a6, a7, a8, k1, k2, k3, k4, k5, k6, k7, k8, t1, t2, t4, t5, fv, nn, rfl, hf⟩ := hP
  unfold partD at *

  rintro dp un gd base outer A₀ g ⟨hp0, gn0, dr0, tk0, os0⟩ R B X T hPre O hdp hun hret
  refine' enterC (binds := [(Str.ofString "part", .ref part), (Str.ofString "offset", .int (o : Nat) t), (Str.ofString "data", .bytes (seg oc o e) u), (Str.ofString "is_end", .bool isEnd)]) B rfl O X (Top.nolimit T) ?k6 ?k7 ?k8 ?k9 ?kB ?_ ?c2 ?c3 ?c4 ?c5
  case k6 => k_is
  case k7 => k_is
  case k8 => ktr_room
  case k9 => exact BindsTo.of_eq rfl
  case kB => exact locs rfl
  case c2 => exact rfl
  case c3 => exact rfl
  case c4 => exact rfl
  case c5 => decide
  intro L' h₁ F' N' B' hlt
  (try k_lt hlt)
  (try dsimp only)
  (try k_fold)
  k_steps
  refine' Spec.use (rest := []) (onStream_spec P0 hne hoc h1 h2 h3 h4) B' (by assumption) X T (by assumption) rfl Sel.whole (fun _ h => (nomatch h)) (fun _ _ _ => trivial) ?uh ?uu ?_
  case uh => ktr_room
  case uu => ktr_units
  rintro v9 f9 h9 tk9 F9 N9 x9 ⟨tkv, od9, tl9, rfl, rfl, P9⟩
  rw [List.append_nil] at N9
  clear P0 F' N'
  dsimp only
  k_steps
  exact hret _ _ _ _ (Own.of (by assumption) (by assumption) (fun _ h => h)) ⟨_, _, _, rfl, rfl, P9⟩

theorem limit_spec {w : World} {mean : ExcName → Option Value} {mg mb : Str → Option Value} {part dx : Addr} {od : Obj} {oc : List UInt8} {tl : List (Addr × Obj)} {lim x : Int} {r H : Nat} {fin done : Bool} {C : Nat → Prop} {t : Tok}
    (P : PInv oc part dx od tl lim r H fin done C) (hne : @Ne Nat part dx) :
    Spec w mean mg mb 137 [.ref part, .int x t] 3 (fun _ => True) ((part, instObj 154 dx) :: (dx, od) :: tl)
      (fun _ v foot' => ∃ od', v = .none ∧ foot' = (part, instObj 154 dx) :: (dx, od') :: tl ∧ PInv oc part dx od' tl (max lim x) r H fin done C) := by
  obtain ⟨pl, refs, c, ps, hP, hm, hps, S, hb, hC, hoff, hdone, hr, hH, hfin⟩ := P
  obtain ⟨a1, a2, a3, a4, a5, a6, a7, a8, k1, k2, k3, k4, k5, k6, k7, k8, t1, t2, t4, t5, fv, nn, rfl, hf⟩ := hP
  unfold partD at *

  rintro dp un gd base outer A₀ g ⟨hp0, gn0, dr0, tk0, os0⟩ R B X T hPre O hdp hun hret
  refine' enterC (binds := [(Str.ofString "self", .ref part), (Str.ofString "limit", .int x t)]) B rfl O X (Top.nolimit T) ?k6 ?k7 ?k8 ?k9 ?kB ?_ ?c2 ?c3 ?c4 ?c5
  case k6 => k_is
  case k7 => k_is
  case k8 => ktr_room
  case k9 => exact BindsTo.of_eq rfl
  case kB => exact locs rfl
  case c2 => exact rfl
  case c3 => exact rfl
  case c4 => exact rfl
  case c5 => decide
  intro L' h₁ F' N' B' hlt
  (try k_lt hlt)
  (try dsimp only)
  (try k_fold)
  k_steps
  all_goals (try dsimp only)
  exact hret _ _ _ _ (Own.of (by assumption) (by assumption) (fun _ h => h)) ⟨_, rfl, rfl, _, _, _, _, PartOk.intro (by first | rfl | exact maxIfZ | (split <;> omega)) rfl rfl rfl hf, hm, hps, S, hb, hC, hoff, hdone, hr, hH, hfin⟩

section
variable {w : World} {mean : ExcName → Option Value} {mg mb : Str → Option Value} {dp un : Nat} {gd : Option (List Code)} {cn : Str} {cs : Scope} {a : Addr} {ccd : Value} {cl : List (Str × Addr)} {outer : List Env} {A₀ : Around} {base h₀ : Heap} {L : Addr} {m : Str → Option Value} {news rest : List (Addr × Obj)}
  {h : Heap} {gens : Array GenState} {drawn : Drawn} {tk : Nat} {os : OsState} {Q E : Value → Shared → Prop}
theorem limitUse {part dx : Addr} {od : Obj} {oc : List UInt8} {tl : List (Addr × Obj)} {lim : Int} {r H : Nat} {fin done : Bool} {C : Nat → Prop} {x : Int} {t : Tok} (P : PInv oc part dx od tl lim r H fin done C) (hne : @Ne Nat part dx) (B : Below A₀ base outer h₀) (F : Fr h₀ L h m) (X : (Mine.hd.heap_1 w.params).In h₀) (T : Top VW (looseW VW []) mean mg mb h₀) (N : News h₀ L h news) (hk : cs.kind = .function)
    (hs : Sel ((part, instObj 154 dx) :: (dx, od) :: tl) news rest) (hd : ∀ p ∈ rest, ∀ q ∈ ((part, instObj 154 dx) :: (dx, od) :: tl), p.1 ≠ q.1) (hdp : dp + 3 < recursionLimit) (hun : un + 8 * 3 < cLine)
    (ret : ∀ od' h' tk', PInv oc part dx od' tl (max lim x) r H fin done C → Fr h₀ L h' m → News h₀ L h' (rest ++ (part, instObj 154 dx) :: (dx, od') :: tl) → Q (.none) ⟨h', gens, drawn, tk', os⟩) :
    wpAny (model PG w) (ktrTop dp un gd cn cs L a ccd cl outer) (call (.ref 137) [.ref part, .int x t]) Q E ⟨h, gens, drawn, tk, os⟩ := by
  refine Spec.useR (limit_spec P hne) B F X T N hk hs hd (fun _ _ _ => trivial) hdp hun fun r f h' tk' F' N' _ P => ?_
  obtain ⟨od', rfl, rfl, P'⟩ := P
  exact ret od' h' tk' P' F' N'
theorem givenUse {part dx : Addr} {od : Obj} {oc : List UInt8} {tl : List (Addr × Obj)} {lim : Int} {r H : Nat} {fin done : Bool} {C : Nat → Prop} {o e : Nat} {x : Int} {y : Array UInt8} {isEnd : Bool} {t u : Tok} (P : PInv oc part dx od tl lim r H fin done C) (hne : @Ne Nat part dx) (hoc : oc.length ≤ 13) (h1 : o ≤ e) (h2 : e ≤ oc.length) (h3 : isEnd = true → e = oc.length) (h4 : (e : Int) ≤ lim) (hx : x = (o : Nat)) (hy : y = seg oc o e) (B : Below A₀ base outer h₀) (F : Fr h₀ L h m) (X : (Mine.hd.heap_1 w.params).In h₀) (T : Top VW (looseW VW []) mean mg mb h₀) (N : News h₀ L h news) (hk : cs.kind = .function)
    (hs : Sel ((part, instObj 154 dx) :: (dx, od) :: tl) news rest) (hd : ∀ p ∈ rest, ∀ q ∈ ((part, instObj 154 dx) :: (dx, od) :: tl), p.1 ≠ q.1) (hdp : dp + 16 < recursionLimit) (hun : un + 8 * 16 < cLine)
    (ret : ∀ t' od' tl' h' tk', PInv oc part dx od' tl' lim r (max H e) (fin || isEnd) done (fun k => C k ∨ (o ≤ k ∧ k < e)) → (∀ p ∈ (part, instObj 154 dx) :: (dx, od') :: tl', ∀ q ∈ rest, p.1 ≠ q.1) → Fr h₀ L h' m → News h₀ L h' (rest ++ (part, instObj 154 dx) :: (dx, od') :: tl') → Q (.int ((e - H : Nat) : Int) t') ⟨h', gens, drawn, tk', os⟩) :
    wpAny (model PG w) (ktrTop dp un gd cn cs L a ccd cl outer) (call (.ref 179) [.ref part, .int x t, .bytes y u, .bool isEnd]) Q E ⟨h, gens, drawn, tk, os⟩ := by
  subst hx hy
  refine Spec.useR (given_ok P hne hoc h1 h2 h3 h4) B F X T N hk hs hd (fun _ _ _ => trivial) hdp hun fun r f h' tk' F' N' x' P => ?_
  obtain ⟨t', od', tl', rfl, rfl, P'⟩ := P
  exact ret t' od' tl' h' tk' P' x' F' N'
end
theorem foundEnd_none {r : Nat} : ∀ {ps : List (Nat × Nat)} {e : Nat}, (∀ p ∈ ps, r < p.1) → ps.foldl (fun e p => if p.1 ≤ r ∧ r < p.2 then p.2 else e) e = e
  | [], _, _ => rfl
  | p :: ps, e, h => by
    rw [List.foldl_cons, if_neg (by have := h p (.head _); omega)]
    exact foundEnd_none fun q hq => h q (.tail _ hq)
theorem filter_all {r : Nat} {ps : List (Nat × Nat)} (h : ∀ p ∈ ps, r < p.1) : (ps.filter fun p => decide (r < p.1)) = ps := by
  rw [List.filter_eq_self]
  exact fun p hp => decide_eq_true (h p hp)
theorem Cov.cons {p : Nat × Nat} {ps : List (Nat × Nat)} {k : Nat} : Cov (p :: ps) k ↔ (p.1 ≤ k ∧ k < p.2) ∨ Cov ps k := by
  unfold Cov
  constructor
  · rintro ⟨q, hq, h⟩
    rcases List.mem_cons.mp hq with rfl | hq
    · exact .inl h
    · exact .inr ⟨q, hq, h⟩
  · rintro (h | ⟨q, hq, h⟩)
    · exact ⟨p, .head _, h⟩
    · exact ⟨q, .tail _ hq, h⟩
theorem found_spec {n r : Nat} {ps : List (Nat × Nat)} (S : Sep ps) (hb : ∀ p ∈ ps, r ≤ p.1 ∧ p.2 ≤ n) (hr : r ≤ n) :
    r ≤ foundEnd r ps ∧ foundEnd r ps ≤ n ∧ (∀ p ∈ ps.filter (fun p => decide (r < p.1)), foundEnd r ps < p.1) ∧ ∀ k, r ≤ k → (Cov ps k ↔ (k < foundEnd r ps ∨ Cov (ps.filter fun p => decide (r < p.1)) k)) := by
  have len := foundEnd_le hr fun p hp => (hb p hp).2
  refine ⟨len.1, len.2, ?_⟩
  cases ps with
  | nil =>
    refine ⟨fun _ h => (nomatch h), fun k hk => ?_⟩
    have e : foundEnd r [] = r := rfl
    rw [e]
    constructor
    · exact .inr
    · rintro (h | h)
      · omega
      · exact h
  | cons p qs =>
    have hp := hb p (.head _)
    have hpl := S.2 p (.head _)
    have hq : ∀ q ∈ qs, p.2 < q.1 := (List.pairwise_cons.mp S.1).1
    have hq' : ∀ q ∈ qs, r < q.1 := fun q h => by have := hq q h; omega
    by_cases h : p.1 = r
    · have e : foundEnd r (p :: qs) = p.2 := by
        unfold foundEnd
        rw [List.foldl_cons, if_pos (by omega)]
        exact foundEnd_none hq'
      have ef : ((p :: qs).filter fun p => decide (r < p.1)) = qs := by
        rw [List.filter_cons, if_neg (by simp only [decide_eq_true_eq]; omega)]
        exact filter_all hq'
      rw [e, ef]
      refine ⟨hq, fun k hk => ?_⟩
      rw [Cov.cons]
      constructor
      · rintro (z | z)
        · exact .inl z.2
        · exact .inr z
      · rintro (z | z)
        · exact .inl ⟨by omega, z⟩
        · exact .inr z
    · have hall : ∀ q ∈ p :: qs, r < q.1 := fun q hm => by
        rcases List.mem_cons.mp hm with rfl | hm
        · omega
        · exact hq' q hm
      have e : foundEnd r (p :: qs) = r := foundEnd_none hall
      rw [e, filter_all hall]
      refine ⟨hall, fun k hk => ?_⟩
      constructor
      · exact .inr
      · rintro (z | z)
        · omega
        · exact z
/-- what a read gives, in plain words -/
structure RdP (n r most : Nat) (C : Nat → Prop) (ps : List (Nat × Nat)) (r' : Nat) (ps' : List (Nat × Nat)) : Prop where
  lo : r ≤ r'
  hi : r' ≤ r + most
  le : r' ≤ n
  got : ∀ k, r ≤ k → k < r' → C k
  stop : r' < r + most → ¬ C r'
  sep : Sep ps'
  bnd : ∀ p ∈ ps', r' ≤ p.1 ∧ p.2 ≤ n
  cov : ∀ k, r' ≤ k → (C k ↔ Cov ps' k)
  all : allB n r' ps' = allB n r ps
  full : r' = n → allB n r ps = true
theorem all_same {n r r' : Nat} {C : Nat → Prop} {ps ps' : List (Nat × Nat)} (S : Sep ps) (S' : Sep ps') (hC : ∀ k, r ≤ k → (C k ↔ Cov ps k)) (hC' : ∀ k, r' ≤ k → (C k ↔ Cov ps' k)) (lo : r ≤ r') (got : ∀ k, r ≤ k → k < r' → C k) : allB n r' ps' = allB n r ps := by
  rw [Bool.eq_iff_iff, all_iff S, all_iff S']
  constructor
  · intro h k h1 h2
    by_cases q : k < r'
    · exact (hC k h1).mp (got k h1 q)
    · exact (hC k h1).mp ((hC' k (by omega)).mpr (h k (by omega) h2))
  · intro h k h1 h2
    exact (hC' k h1).mp ((hC k (by omega)).mpr (h k (by omega) h2))
theorem rd_whole {n r most : Nat} {C : Nat → Prop} {ps : List (Nat × Nat)} (S : Sep ps) (hb : ∀ p ∈ ps, r ≤ p.1 ∧ p.2 ≤ n) (hr : r ≤ n) (hC : ∀ k, r ≤ k → (C k ↔ Cov ps k)) (h : foundEnd r ps ≤ r + most) :
    RdP n r most C ps (foundEnd r ps) (ps.filter fun p => decide (r < p.1)) := by
  obtain ⟨f1, f2, f3, f4⟩ := found_spec S hb hr
  have S' : Sep (ps.filter fun p => decide (r < p.1)) := sep_of_sublist S List.filter_sublist
  have got : ∀ k, r ≤ k → k < foundEnd r ps → C k := fun k h1 h2 => (hC k h1).mpr ((f4 k h1).mpr (.inl h2))
  have cov : ∀ k, foundEnd r ps ≤ k → (C k ↔ Cov (ps.filter fun p => decide (r < p.1)) k) := fun k h1 => by
    rw [hC k (by omega), f4 k (by omega)]
    constructor
    · rintro (z | z)
      · omega
      · exact z
    · exact .inr
  refine ⟨f1, h, f2, got, fun _ hc => ?_, S', fun p hp => ⟨Nat.le_of_lt (f3 p hp), (hb p (List.mem_filter.mp hp).1).2⟩, cov, all_same S S' hC cov f1 got, fun e => ?_⟩
  · obtain ⟨p, hp, h1, h2⟩ := (cov _ (Nat.le_refl _)).mp hc
    have := f3 p hp
    omega
  · rw [all_iff S]
    exact fun k h1 h2 => (f4 k h1).mpr (.inl (by omega))
theorem rd_cut {n r most : Nat} {C : Nat → Prop} {ps : List (Nat × Nat)} (S : Sep ps) (hb : ∀ p ∈ ps, r ≤ p.1 ∧ p.2 ≤ n) (hr : r ≤ n) (hC : ∀ k, r ≤ k → (C k ↔ Cov ps k)) (h : r + most < foundEnd r ps) :
    RdP n r most C ps (r + most) ((r + most, foundEnd r ps) :: ps.filter fun p => decide (r < p.1)) := by
  obtain ⟨f1, f2, f3, f4⟩ := found_spec S hb hr
  have S1 : Sep (ps.filter fun p => decide (r < p.1)) := sep_of_sublist S List.filter_sublist
  have S' : Sep ((r + most, foundEnd r ps) :: ps.filter fun p => decide (r < p.1)) := ⟨List.pairwise_cons.mpr ⟨f3, S1.1⟩, fun p hp => by
    rcases List.mem_cons.mp hp with rfl | hp
    · exact h
    · exact S1.2 p hp⟩
  have got : ∀ k, r ≤ k → k < r + most → C k := fun k h1 h2 => (hC k h1).mpr ((f4 k h1).mpr (.inl (by omega)))
  have cov : ∀ k, r + most ≤ k → (C k ↔ Cov ((r + most, foundEnd r ps) :: ps.filter fun p => decide (r < p.1)) k) := fun k h1 => by
    rw [hC k (by omega), f4 k (by omega), Cov.cons]
    constructor
    · rintro (z | z)
      · exact .inl ⟨h1, z⟩
      · exact .inr z
    · rintro (z | z)
      · exact .inl z.2
      · exact .inr z
  refine ⟨by omega, Nat.le_refl _, by omega, got, fun h => absurd h (Nat.lt_irrefl _), S', fun p hp => ?_, cov, all_same S S' hC cov (by omega) got, fun e => by omega⟩
  rcases List.mem_cons.mp hp with rfl | hp
  · exact ⟨Nat.le_refl _, f2⟩
  · have := f3 p hp
    exact ⟨by omega, (hb p (List.mem_filter.mp hp).1).2⟩

theorem foundEnd_ge {r : Nat} {ps : List (Nat × Nat)} : r ≤ foundEnd r ps := by
  unfold foundEnd
  suffices h : ∀ e, r ≤ e → r ≤ ps.foldl (fun e p => if p.1 ≤ r ∧ r < p.2 then p.2 else e) e from h r (Nat.le_refl _)
  induction ps with
  | nil => exact fun e h => h
  | cons p ps ih =>
    intro e h
    rw [List.foldl_cons]
    refine ih _ ?_
    split <;> omega
section
variable {w : World} {mean : ExcName → Option Value} {mg mb : Str → Option Value} {dp un : Nat} {gd : Option (List Code)} {cn : Str} {cs : Scope} {a : Addr} {ccd : Value} {cl : List (Str × Addr)} {outer : List Env} {A₀ : Around} {base h₀ : Heap} {L : Addr} {m : Str → Option Value} {hh : Heap} {gens : Array GenState} {drawn : Drawn} {tk : Nat} {os : OsState}
  {Q E : Value → Shared → Prop} {part dx pl : Addr} {od : Obj} {refs : List Value} {c : Nat} {ps : List (Nat × Nat)} {oc : List UInt8} {tl : List (Addr × Obj)}
theorem takenUse {r : Nat} {t : Tok} (B : Below A₀ base outer h₀) (F : Fr h₀ L hh m) (KX : (Mine.hd.heap_1 w.params).In h₀) (T : Top VW (looseW VW []) mean mg mb h₀) (N : News h₀ L hh ((part, instObj 154 dx) :: (dx, od) :: tl)) (hk : cs.kind = .function)
    (hoff : OwnOff tl [part, dx]) (hm : (pl, listOf refs.toArray c) ∈ tl) (hps : Pcs oc (fun a o => (a, o) ∈ tl) refs ps) (hin : InB oc ps) (hlen : ps.length < 1000) (hoc : oc.length < 1000) (hr : r ≤ oc.length) (hdp : dp + 4 < recursionLimit) (hun : un + 8 * 4 < cLine)
    (ret : ∀ T tf nT left refs' c' tl2 h' tk', Fr h₀ L h' m → News h₀ L h' ((T, ({ cls := .type "tuple", data := .seq #[.bytes (seg oc r (foundEnd r ps)) tf, .ref left] nT } : Obj)) :: (left, listOf refs'.toArray c') :: (part, instObj 154 dx) :: (dx, od) :: tl2) →
      @Ne Nat T part → @Ne Nat T dx → @Ne Nat left part → @Ne Nat left dx → OwnOff tl2 [part, dx] → (left, listOf refs'.toArray c') ∈ tl2 → Pcs oc (fun a o => (a, o) ∈ tl2) refs' (ps.filter fun p => decide (r < p.1)) → refs'.length ≤ ps.length → Q (.ref T) ⟨h', gens, drawn, tk', os⟩) :
    wpAny (model PG w) (ktrTop dp un gd cn cs L a ccd cl outer) (call (.ref 55) [.ref pl, .int (r : Nat) t]) Q E ⟨hh, gens, drawn, tk, os⟩ := by
  refine Spec.useR (foot := []) (taken_spec (refs := refs) (c := c) hin hoc hlen hr) B F KX T N hk Sel.nil (fun _ _ _ h => (nomatch h))
      (fun g _ hr => ⟨hr _ (.tail _ (.tail _ hm)), Pcs.mono hps fun _ _ h => hr _ (.tail _ (.tail _ h))⟩) hdp hun fun v f' h' tk' F' N' x' P' => ?_
  obtain ⟨T', tf, nT, left, refs', c', rfl, hT, hl, hp⟩ := P'
  have off' : OwnOff f' [part, dx] := offL (ex := [(part, instObj 154 dx), (dx, od)]) (fun p hp q hq => x' p hp q (by
        rcases List.mem_cons.mp hq with rfl | hq
        · exact .head _
        · rw [List.mem_singleton] at hq; subst hq; exact .tail _ (.head _))) rfl
  refine ret T' tf nT left refs' c' (tl ++ f') h' tk' F' (fun p hp => ?_) (off' _ hT _ (.head _)) (off' _ hT _ (.tail _ (.head _))) (off' _ hl _ (.head _)) (off' _ hl _ (.tail _ (.head _))) (fun p hp => ?_) (List.mem_append_right _ hl) (Pcs.mono hp fun _ _ h => List.mem_append_right _ h) ?_
  · simp only [List.cons_append] at N'
    rcases List.mem_cons.mp hp with rfl | hp
    · exact N' _ (.tail _ (.tail _ (List.mem_append_right _ hT)))
    · rcases List.mem_cons.mp hp with rfl | hp
      · exact N' _ (.tail _ (.tail _ (List.mem_append_right _ hl)))
      · exact N' p hp
  · rcases List.mem_append.mp hp with hp | hp
    · exact hoff p hp
    · exact off' p hp
  · rw [hp.length]
    exact List.length_filter_le _ _
end

local macro_rules | `(tactic| walk_at "binaryOp Add ref ref") => `(tactic| (k_here; (with_reducible show wpAny _ _ (binaryOp _ (Value.ref _) (Value.ref _)) _ _ _); k_dflt (refine' kmk_add_lit ?F ?N ?a ?b ?e ?_ ?z; (case F => k_asm); (case N => k_asm); (case a => kmk_list); (case b => kmk_list); (case e => exact rfl); (case z => (rw [sizeLine_eq]; simp only [List.length_cons, List.length_nil]; omega))); intro D' h' F' N' l1; (try k_lt l1); (try k_sweep)))

theorem pcHead {oc : List UInt8} {D : Addr} {x : Int} {t t' : Tok} {y : Array UInt8} {n a b : Nat} {tl : List (Addr × Obj)} (hm : (D, ({ cls := .type "tuple", data := .seq #[.int x t, .bytes y t'] n } : Obj)) ∈ tl) (hx : x = (a : Nat)) (hy : y = seg oc a b) :
    ∃ T t t' n, Value.ref D = .ref T ∧ (T, ({ cls := .type "tuple", data := .seq #[.int ((a, b).1 : Nat) t, .bytes (seg oc (a, b).1 (a, b).2) t'] n } : Obj)) ∈ tl := by
  subst hx hy
  exact ⟨D, _, _, _, rfl, hm⟩

def RdPost (oc : List UInt8) (part dx : Addr) (lim : Int) (r H most : Nat) (fin : Bool) (C : Nat → Prop) (v : Value) (foot' : List (Addr × Obj)) : Prop :=
  ∃ r' T tf nT od' tl' fb bb, r ≤ r' ∧ r' ≤ r + most ∧ (∀ k, r ≤ k → k < r' → C k) ∧ (r' < r + most → ¬ C r') ∧ fb = seg oc r r' ∧ bb = (fin && decide (r' = oc.length)) ∧ v = .ref T ∧
        foot' = (T, ({ cls := .type "tuple", data := .seq #[.bytes fb tf, .bool bb] nT } : Obj)) :: (part, instObj 154 dx) :: (dx, od') :: tl' ∧
        PInv oc part dx od' tl' lim r' H fin (fin && decide (r' = oc.length)) C
section
variable {oc : List UInt8} {part dx : Addr} {lim : Int} {r H most n0 : Nat} {fin : Bool} {C : Nat → Prop} {g h' : Heap} {L' D0 T9 left : Addr} {m : Str → Option Value} {fb : Array UInt8} {tf : Tok} {bb : Bool} {o9 ol9 od' : Obj} {tl9 : List (Addr × Obj)} {refs9 : List Value} {ps : List (Nat × Nat)}
theorem doneOf {a b : Nat} : (fin && decide (a = b)) = true → fin = true ∧ a = b := fun h => by
  rw [Bool.and_eq_true, decide_eq_true_eq] at h
  exact h
end

/-- what has been found and what is left, as the part will hold it -/
inductive RdJ (oc : List UInt8) (part dx : Addr) (r most : Nat) (C : Nat → Prop) (ps : List (Nat × Nat)) (pl2 : Addr) (r2 : Nat) (tl2 : List (Addr × Obj)) : Prop
  | mk : ∀ refs c ps2, (pl2, listOf refs.toArray c) ∈ tl2 → Pcs oc (fun a o => (a, o) ∈ tl2) refs ps2 → OwnOff tl2 [part, dx] → RdP oc.length r most C ps r2 ps2 → RdJ oc part dx r most C ps pl2 r2 tl2
section
variable {h₀ h : Heap} {L : Addr} {m₀ : Str → Option Value} {part dx : Addr} {od : Obj} {oc : List UInt8} {r most : Nat} {C : Nat → Prop} {ps : List (Nat × Nat)} {gens : Array GenState} {drawn : Drawn} {os : OsState} {q : Flow → Shared → Prop}
theorem tailR {vl vf : Value} {x y : Addr × Obj} {rest : List (Addr × Obj)} (_F : Fr h₀ L h (fun z => if z = Str.ofString "left" then some vl else if z = Str.ofString "found" then some vf else m₀ z)) (_N : News h₀ L h (x :: y :: (part, instObj 154 dx) :: (dx, od) :: rest))
    (H : ∀ pl2 r2 tf2 tl2 h' tk', RdJ oc part dx r most C ps pl2 r2 tl2 → Fr h₀ L h' (fun z => if z = Str.ofString "left" then some (.ref pl2) else if z = Str.ofString "found" then some (.bytes (seg oc r r2) tf2) else m₀ z) → News h₀ L h' ((part, instObj 154 dx) :: (dx, od) :: tl2) → q .next ⟨h', gens, drawn, tk', os⟩) :
    ∀ pl2 r2 tf2 tl2 h' tk', RdJ oc part dx r most C ps pl2 r2 tl2 → Fr h₀ L h' (fun z => if z = Str.ofString "left" then some (.ref pl2) else if z = Str.ofString "found" then some (.bytes (seg oc r r2) tf2) else m₀ z) → News h₀ L h' ((part, instObj 154 dx) :: (dx, od) :: tl2) → q .next ⟨h', gens, drawn, tk', os⟩ := H
theorem frTwo {v1 v2 a b : Option Value} {f l : Str} (hfl : l ≠ f) (F : Fr h₀ L h (fun y => if y = f then v2 else if y = l then v1 else if y = l then a else if y = f then b else m₀ y)) : Fr h₀ L h (fun y => if y = l then v1 else if y = f then v2 else m₀ y) := by
  have e : (fun y => if y = f then v2 else if y = l then v1 else if y = l then a else if y = f then b else m₀ y) = (fun y => if y = l then v1 else if y = f then v2 else m₀ y) := by
    funext y
    by_cases q1 : y = f
    · have q2 : ¬ y = l := fun z => hfl (z.symm.trans q1)
      rw [if_pos q1, if_neg q2, if_pos q1]
    · rw [if_neg q1]
      by_cases q2 : y = l
      · rw [if_pos q2, if_pos q2]
      · rw [if_neg q2, if_neg q2, if_neg q1, if_neg q2, if_neg q1]
  exact e ▸ F
theorem rdJ_cut {oc : List UInt8} {D1 D2 : Addr} {refs9 : List Value} {c1 n2 : Nat} {x : Int} {t t' : Tok} {yy : Array UInt8} {tl9 : List (Addr × Obj)} (e1 : @Ne Nat D1 part) (e2 : @Ne Nat D1 dx) (e3 : @Ne Nat D2 part) (e4 : @Ne Nat D2 dx) (off9 : OwnOff tl9 [part, dx]) (hp9 : Pcs oc (fun a o => (a, o) ∈ tl9) refs9 (ps.filter fun p => decide (r < p.1)))
    (Rd : RdP oc.length r most C ps (r + most) ((r + most, foundEnd r ps) :: ps.filter fun p => decide (r < p.1))) (hx : x = ((r + most : Nat) : Int)) (hy : yy = seg oc (r + most) (foundEnd r ps)) :
    RdJ oc part dx r most C ps D1 (r + most) ((D1, listOf (Value.ref D2 :: refs9).toArray c1) :: (D2, ({ cls := .type "tuple", data := .seq #[.int x t, .bytes yy t'] n2 } : Obj)) :: tl9) := by
  refine .mk _ c1 _ (.head _) (.cons (pcHead (.tail _ (.head _)) hx hy) (Pcs.mono hp9 fun _ _ h => List.Mem.tail _ (List.Mem.tail _ h))) ?_ Rd
  intro p hp b hb'
  have hb2 : b = part ∨ b = dx := by simpa using hb'
  rcases List.mem_cons.mp hp with rfl | hp
  · rcases hb2 with rfl | rfl
    · exact e1
    · exact e2
  rcases List.mem_cons.mp hp with rfl | hp
  · rcases hb2 with rfl | rfl
    · exact e3
    · exact e4
  · exact off9 p hp b hb'
end
theorem stRead {fin done all : Bool} {r r2 n : Nat} (hdone : done = true → fin = true ∧ r = n) (lo : r ≤ r2) (le : r2 ≤ n) (full : r2 = n → all = true) (hn : ¬ (fin = true ∧ done = false ∧ all = true)) :
    stOf fin done all = stOf fin (fin && decide (r2 = n)) all ∧ (stOf fin done all == Str.ofString "data_read") = (fin && decide (r2 = n)) := by
  cases fin
  · exact ⟨rfl, (by decide : (Str.ofString "recv" == Str.ofString "data_read") = false)⟩
  · cases done
    · cases all
      · have ne : ¬ r2 = n := fun z => Bool.noConfusion (full z)
        rw [decide_eq_false ne]; exact ⟨rfl, by decide⟩
      · exact absurd ⟨rfl, rfl, rfl⟩ hn
    · rw [decide_eq_true (Nat.le_antisymm le ((hdone rfl).2 ▸ lo))]
      cases all <;> exact ⟨rfl, by decide⟩
def Stop3 (p : Prop) : Prop := p
theorem Stop3.out {p : Prop} (h : Stop3 p) : p := h
theorem Stop3.mk {p : Prop} (h : p) : Stop3 p := h
local macro_rules | `(tactic| walk_at "exec If") => `(tactic| (first | (with_reducible show wpAny _ _ (exec (Stmt.If (Expr.Compare (Expr.Call _ _ _ _) _ _ _) _ _ _) _) _ _ _) | (with_reducible show wpAny _ _ (exec (Stmt.If (Expr.BoolOp _ _ _) _ _ _) _) _ _ _)); (refine Stop3.out ?_))
theorem read_spec {w : World} {mean : ExcName → Option Value} {mg mb : Str → Option Value} {part dx : Addr} {od : Obj} {oc : List UInt8} {tl : List (Addr × Obj)} {lim : Int} {r H most : Nat} {fin done : Bool} {C : Nat → Prop} {t : Tok}
    (P : PInv oc part dx od tl lim r H fin done C) (hne : @Ne Nat part dx) (hoc : oc.length ≤ 13) :
    Spec w mean mg mb 123 [.ref part, .int (most : Nat) t] 8 (fun _ => True) ((part, instObj 154 dx) :: (dx, od) :: tl) (fun _ v foot' => RdPost oc part dx lim r H most fin C v foot') := by
  obtain ⟨pl, refs, c, ps, hP, hm, hps, S, hb, hC, hoff, hdone, hr, hH, hfin⟩ := P
  have hL := sep_length S hb
  have hin : InB oc ps := fun p hp => ⟨S.2 p hp, (hb p hp).2⟩
  have hfe := foundEnd_ge (r := r) (ps := ps)
  have hfe2 := (foundEnd_le hr (fun p hp => (hb p hp).2)).2
  obtain ⟨a1, a2, a3, a4, a5, a6, a7, a8, k1, k2, k3, k4, k5, k6, k7, k8, t1, t2, t4, t5, fv, nn, rfl, hf⟩ := hP
  unfold partD at *
  have hoc' : oc.length < 1000 := Nat.lt_of_le_of_lt hoc (by decide)

  rintro dp un gd base outer A₀ g ⟨hp0, gn0, dr0, tk0, os0⟩ R B X T hPre O hdp hun hret
  refine' enterC (binds := [(Str.ofString "self", .ref part), (Str.ofString "most", .int (most : Nat) t)]) B rfl O X (Top.nolimit T) ?k6 ?k7 ?k8 ?k9 ?kB ?_ ?c2 ?c3 ?c4 ?c5
  case k6 => k_is
  case k7 => k_is
  case k8 => ktr_room
  case k9 => exact BindsTo.of_eq rfl
  case kB => exact locs rfl
  case c2 => exact rfl
  case c3 => exact rfl
  case c4 => exact rfl
  case c5 => decide
  intro L' h₁ F' N' B' hlt
  (try k_lt hlt)
  (try dsimp only)
  (try k_fold)
  clear hPre
  have s1 : (stOf fin done (allB oc.length r ps) == Str.ofString "reset_recvd") = false := by
    rcases stCases (all := allB oc.length r ps) (fun h => (hdone h).1) with h | h | h | h <;> (rw [h.1]; decide)
  have s2 : (stOf fin done (allB oc.length r ps) == Str.ofString "reset_read") = false := by
    rcases stCases (all := allB oc.length r ps) (fun h => (hdone h).1) with h | h | h | h <;> (rw [h.1]; decide)
  obtain ⟨st, hst⟩ : ∃ st, st = stOf fin done (allB oc.length r ps) := ⟨_, rfl⟩
  rw [← hst] at N' s1 s2
  k_steps
  refine' takenUse B' (by assumption) X T (by assumption) rfl hoff hm hps hin ?q1 hoc' hr ?q2 ?q3 ?_
  case q1 => exact len_of hL hoc (by decide)
  case q2 => ktr_room
  case q3 => ktr_units
  intro T9 tf9 nT9 left refs9 c9 tl9 h9 tk9 F9 N9 n1 n2 n3 n4 off9 hl9 hp9 hlen9
  clear F' N' s1 s2
  have hlen9' : refs9.length < 900 := Nat.lt_of_le_of_lt hlen9 (len_of hL hoc (by decide))
  (try dsimp only)
  k_steps
  refine Stop3.mk ?_
  k_fold
  with_reducible rename Fr _ _ _ _ => F9
  with_reducible rename News _ _ _ _ => N9
  have tR := tailR (oc := oc) (r := r) (most := most) (C := C) (ps := ps) (gens := gn0) (drawn := dr0) (os := os0) (q := qk) F9 N9 (by
    intro pl2 r2 tf2 tl2 h8 tk8 J2 F8 N8
    clear F9 N9 n1 n2 n3 n4
    obtain ⟨refs2, c2, ps2, hm2, hps2, off2, Rd⟩ := J2
    have lo2 := Rd.lo
    have le2 := Rd.le
    k_steps
    refine Stop3.mk ?_
    by_cases hdr : fin = true ∧ done = false ∧ allB oc.length r ps = true
    · have hs : st = Str.ofString "data_recvd" := by rw [hst, hdr.1, hdr.2.1, hdr.2.2]; rfl
      with_reducible rename News _ _ _ _ => NN
      rw [hs] at NN
      rw [if_pos hdr.1] at hf
      obtain ⟨t6, rfl⟩ := hf
      refine wpAny_If ?_
      k_steps
      all_goals (try dsimp only)
      · have e : r2 = oc.length := by omega
        exact hret _ _ _ _ (Own.of (by assumption) (by assumption) (fun _ h => h)) ⟨r2, _, _, _, _, tl2, _, _, Rd.lo, Rd.hi, Rd.got, Rd.stop, rfl, (by rw [decide_eq_true e, hdr.1]; rfl), rfl, rfl, ⟨pl2, refs2, c2, ps2, PartOk.intro rfl (by rw [decide_eq_true e, hdr.1]; rfl) subAdd rfl (finEq hdr.1 rfl), hm2, hps2, Rd.sep, Rd.bnd, Rd.cov, off2, doneOf, Rd.le, hH, hfin⟩⟩
      · have e : ¬ r2 = oc.length := by omega
        exact hret _ _ _ _ (Own.of (by assumption) (by assumption) (fun _ h => h)) ⟨r2, _, _, _, _, tl2, _, _, Rd.lo, Rd.hi, Rd.got, Rd.stop, rfl, (by rw [decide_eq_false e, hdr.1]; rfl), rfl, rfl, ⟨pl2, refs2, c2, ps2, PartOk.intro rfl (by rw [decide_eq_false e, hdr.1, Rd.all, hdr.2.2]; rfl) subAdd rfl (finEq hdr.1 rfl), hm2, hps2, Rd.sep, Rd.bnd, Rd.cov, off2, doneOf, Rd.le, hH, hfin⟩⟩
    · have hs := stRead hdone lo2 le2 Rd.full hdr
      have n3 : (st == Str.ofString "data_recvd") = false := by
        rw [hst]
        rcases stCases (all := allB oc.length r ps) (fun h => (hdone h).1) with h | h | h | h
        · rw [h.1]; decide
        · rw [h.1]; decide
        · refine absurd ⟨h.2.1, ?_, h.2.2⟩ hdr
          cases hd : done
          · rfl
          · have := h.1
            rw [h.2.1, hd] at this
            exact absurd this (by rw [h.2.2]; decide)
        · rw [h.1]; decide
      refine wpAny_If ?_
      k_steps
      exact hret _ _ _ _ (Own.of (by assumption) (by assumption) (fun _ h => h)) ⟨r2, _, _, _, _, tl2, _, _, Rd.lo, Rd.hi, Rd.got, Rd.stop, rfl, (by rw [hst]; exact hs.2), rfl, rfl, ⟨pl2, refs2, c2, ps2, PartOk.intro rfl (by rw [hst, Rd.all]; exact hs.1) subAdd rfl hf, hm2, hps2, Rd.sep, Rd.bnd, Rd.cov, off2, doneOf, Rd.le, hH, hfin⟩⟩)
  clear_value qk
  refine wpAny_If ?_
  k_steps
  · have hcut : r + most < foundEnd r ps := by first | exact cutLt (by assumption) | omega
    have Rd := rd_cut (most := most) S hb hr hC hcut
    with_reducible rename Fr _ _ _ _ => F5
    with_reducible rename News _ _ _ _ => N5
    rw [show min (r + ((most : Nat) : Int).toNat) (foundEnd r ps) = r + most from Nat.min_eq_left (Nat.le_of_lt hcut)] at F5
    exact tR _ _ _ _ _ _ (rdJ_cut (by omega) (by omega) (by omega) (by omega) off9 hp9 Rd rfl rfl) (frTwo (by decide) F5) (News.pick N5 7 [5, 6, 0, 2])
  · have Rd := rd_whole (most := most) S hb hr hC (by first | exact cutLe (by assumption) | omega)
    exact tR left _ _ tl9 _ _ (.mk _ _ _ hl9 hp9 off9 Rd) (by assumption) (News.pick (by assumption) 4 [2, 3])

section
variable {w : World} {mean : ExcName → Option Value} {mg mb : Str → Option Value} {dp un : Nat} {gd : Option (List Code)} {cn : Str} {cs : Scope} {a : Addr} {ccd : Value} {cl : List (Str × Addr)} {outer : List Env} {A₀ : Around} {base h₀ : Heap} {L : Addr} {m : Str → Option Value} {news rest : List (Addr × Obj)}
  {h : Heap} {gens : Array GenState} {drawn : Drawn} {tk : Nat} {os : OsState} {Q E : Value → Shared → Prop}
theorem readUse {part dx : Addr} {od : Obj} {oc : List UInt8} {tl : List (Addr × Obj)} {lim : Int} {r H : Nat} {fin done : Bool} {C : Nat → Prop} {most : Nat} {t : Tok} (P : PInv oc part dx od tl lim r H fin done C) (hne : @Ne Nat part dx) (hoc : oc.length ≤ 13) (B : Below A₀ base outer h₀) (F : Fr h₀ L h m) (X : (Mine.hd.heap_1 w.params).In h₀) (T : Top VW (looseW VW []) mean mg mb h₀) (N : News h₀ L h news) (hk : cs.kind = .function)
    (hs : Sel ((part, instObj 154 dx) :: (dx, od) :: tl) news rest) (hd : ∀ p ∈ rest, ∀ q ∈ ((part, instObj 154 dx) :: (dx, od) :: tl), p.1 ≠ q.1) (hdp : dp + 8 < recursionLimit) (hun : un + 8 * 8 < cLine)
    (ret : ∀ r' T8 tf n8 od' tl' h' tk', r ≤ r' → r' ≤ r + most → (∀ k, r ≤ k → k < r' → C k) → (r' < r + most → ¬ C r') → PInv oc part dx od' tl' lim r' H fin (fin && decide (r' = oc.length)) C → (∀ p ∈ (T8, ({ cls := .type "tuple", data := .seq #[.bytes (seg oc r r') tf, .bool (fin && decide (r' = oc.length))] n8 } : Obj)) :: (part, instObj 154 dx) :: (dx, od') :: tl', ∀ q ∈ rest, p.1 ≠ q.1) → Fr h₀ L h' m → News h₀ L h' (rest ++ (T8, ({ cls := .type "tuple", data := .seq #[.bytes (seg oc r r') tf, .bool (fin && decide (r' = oc.length))] n8 } : Obj)) :: (part, instObj 154 dx) :: (dx, od') :: tl') → Q (.ref T8) ⟨h', gens, drawn, tk', os⟩) :
    wpAny (model PG w) (ktrTop dp un gd cn cs L a ccd cl outer) (call (.ref 123) [.ref part, .int (most : Nat) t]) Q E ⟨h, gens, drawn, tk, os⟩ := by
  refine Spec.useR (read_spec P hne hoc) B F X T N hk hs hd (fun _ _ _ => trivial) hdp hun fun v f h' tk' F' N' x' P => ?_
  obtain ⟨r', T8, tf, n8, od', tl', fb, bb, lo, hi, got, stop, rfl, rfl, rfl, rfl, P'⟩ := P
  exact ret r' T8 tf n8 od' tl' h' tk' lo hi got stop P' x' F' N'
theorem readEndUse {part dx : Addr} {od : Obj} {oc : List UInt8} {tl : List (Addr × Obj)} {lim : Int} {r H : Nat} {fin done : Bool} {C : Nat → Prop} {most : Nat} {t : Tok} (P : PInv oc part dx od tl lim r H fin done C) (hne : @Ne Nat part dx) (hoc : oc.length ≤ 13) (hf : fin = true) (hend : ∀ r', r ≤ r' → r' ≤ oc.length → (r' < r + most → ¬ C r') → r' = oc.length) (B : Below A₀ base outer h₀) (F : Fr h₀ L h m) (X : (Mine.hd.heap_1 w.params).In h₀) (T : Top VW (looseW VW []) mean mg mb h₀) (N : News h₀ L h news) (hk : cs.kind = .function)
    (hs : Sel ((part, instObj 154 dx) :: (dx, od) :: tl) news rest) (hd : ∀ p ∈ rest, ∀ q ∈ ((part, instObj 154 dx) :: (dx, od) :: tl), p.1 ≠ q.1) (hdp : dp + 8 < recursionLimit) (hun : un + 8 * 8 < cLine)
    (ret : ∀ T8 tf n8 od' tl' h' tk', PInv oc part dx od' tl' lim oc.length H true true C → (∀ p ∈ (T8, ({ cls := .type "tuple", data := .seq #[.bytes (seg oc r oc.length) tf, .bool true] n8 } : Obj)) :: (part, instObj 154 dx) :: (dx, od') :: tl', ∀ q ∈ rest, p.1 ≠ q.1) → Fr h₀ L h' m → News h₀ L h' (rest ++ (T8, ({ cls := .type "tuple", data := .seq #[.bytes (seg oc r oc.length) tf, .bool true] n8 } : Obj)) :: (part, instObj 154 dx) :: (dx, od') :: tl') → Q (.ref T8) ⟨h', gens, drawn, tk', os⟩) :
    wpAny (model PG w) (ktrTop dp un gd cn cs L a ccd cl outer) (call (.ref 123) [.ref part, .int (most : Nat) t]) Q E ⟨h, gens, drawn, tk, os⟩ := by
  subst hf
  refine readUse P hne hoc B F X T N hk hs hd hdp hun fun r' T8 tf n8 od' tl' h' tk' lo hi got stop P' x' F' N' => ?_
  have e := hend r' lo P'.hr stop
  subst e
  rw [decide_eq_true rfl] at P' x' N'
  exact ret T8 tf n8 od' tl' h' tk' P' x' F' N'
end
end Mine
end
end
section
open PySem PySem.Calls PySem.W PyProof.Rows
set_option maxHeartbeats 4000000
namespace Mine
theorem rstLaw1 : True := by
  w_top off
  k_with_none
  trivial
theorem fillIt14 : PySem.Challenge.rw_no0070_01 = PySem.Challenge.rw_no0070_01 ∧ Mine.hd.heap_1 = Mine.hd.heap_1 := by
  k_fill
  exact ⟨rfl, rfl⟩

section
variable {w : World} {mean : ExcName → Option Value} {mg mb : Str → Option Value} {dp un : Nat} {gd : Option (List Code)} {cn : Str} {cs : Scope} {a : Addr} {ccd : Value} {cl : List (Str × Addr)} {outer : List Env} {A₀ : Around} {base h₀ : Heap} {L : Addr} {m : Str → Option Value} {s : Shared} {news foot rest : List (Addr × Obj)}
  {Q E : Value → Shared → Prop} {f : Addr} {args : List Value} {dpt : Nat} {Post : Value → List (Addr × Obj) → Prop}
theorem SpecT.cast {args' : List Value} (S : SpecT w mean mg mb f args dpt foot Post) (e : args = args') : SpecT w mean mg mb f args' dpt foot Post := e ▸ S
theorem SpecT.use (S : SpecT w mean mg mb f args dpt foot Post) (B : Below A₀ base outer h₀) (F : Fr h₀ L s.heap m) (XB : (Mine.hd.heap_1 w.params).In base) (TB : Top VW (looseW VW []) mean mg mb base) (D : KtsDicts (outer.filterMap (·.frame)) h₀) (N : News h₀ L s.heap news) (hk : cs.kind = .function)
    (hs : Sel foot news rest) (hd : ∀ p ∈ rest, ∀ q ∈ foot, p.1 ≠ q.1) (hdp : dp + dpt < recursionLimit) (hun : un + 8 * dpt < cLine)
    (ret : ∀ h₀' r foot' h' tk', KtsTurn (outer.filterMap (·.frame)) h₀ h₀' → Below A₀ base outer h₀' → KtsDicts (outer.filterMap (·.frame)) h₀' → Fr h₀' L h' m → News h₀' L h' (foot' ++ rest) → (∀ p ∈ foot', ∀ q ∈ rest, p.1 ≠ q.1) → Post r foot' → Q r { s with heap := h', toks := tk' }) :
    wpAny (model PG w) (ktrTop dp un gd cn cs L a ccd cl outer) (call (.ref f) args) Q E s := by
  have G := Below.ground (A := ktrTop dp un gd cn cs L a ccd cl outer) (env := envX cn cs L a ccd cl) B F N hs rfl rfl hk
  have FG := frHide B F N hs
  have nL₀ : h₀.get? L = none := kts_self F
  have hrest : ∀ p ∈ rest, (hideAll s.heap (foot.map (·.1))).get? p.1 = some p.2 := fun p hp => hideAll_get _ (N p (hs.mem.2 p hp)).1 fun q => by
    obtain ⟨x, hx, e⟩ := List.mem_map.mp q
    exact hd p hp x hx e.symm
  obtain ⟨oL, es, ep, hL, hLd, hLk, hLf⟩ := FG.ns
  refine wpAny_call ?_
  refine S dp un gd base (envX cn cs L a ccd cl :: outer) _ (hideAll s.heap (foot.map (·.1))) s _ G.1 XB TB (fun b hb => ?_) (Own.start N hs) hdp hun (fun g' r foot' h' tk' T' O' P' => ?_)
  · rcases (show b = L ∨ b ∈ outer.filterMap (·.frame) by simpa using hb) with rfl | hb
    · exact ⟨oL, es, ep, hL, hLd⟩
    · obtain ⟨o, es', n', ho', hd'⟩ := D b hb
      exact ⟨o, es', n', G.2 b o ho', hd'⟩
  have memE : ∀ b, b ∈ (envX cn cs L a ccd cl :: outer).filterMap (·.frame) → b = L ∨ b ∈ outer.filterMap (·.frame) := fun b hb => by simpa using hb
  have keep1 : ∀ b o, h₀.get? b = some o → b ∉ outer.filterMap (·.frame) → g'.get? b = some o := fun b o e nm => T'.other b o (G.2 b o e) fun q => by
    rcases memE b q with z | z
    · rw [z, nL₀] at e; cases e
    · exact nm z
  obtain ⟨T₁, S₁⟩ := kts_turn_at (h := h') (fs := outer.filterMap (·.frame)) (g := h₀)
    (fun b hb => by
      obtain ⟨_, o, ho', _⟩ := B.frames.mem hb
      exact ⟨o, ho'⟩)
    (fun b o e nm => O'.sub b o (keep1 b o e nm))
    (fun b o e hm => by
      obtain ⟨sl', hs'⟩ := T'.up (G.2 b o e)
      exact ⟨sl', O'.sub _ _ hs'⟩)
  have B₃ : Below A₀ base outer (ktsHeap h' (outer.filterMap (·.frame)) h₀) := ⟨B.stack, fun b o e => T₁.other b o (B.stays b o e) (fun hm => by
    rw [(B.frames.mem hm).1] at e
    cases e), B.frames.of_keeps fun b o e _ => by
    obtain ⟨sl', hs'⟩ := T₁.up e
    exact ⟨_, hs', rfl⟩⟩
  obtain ⟨sl, hsl⟩ := T'.up hL
  have hsl' := O'.sub _ _ hsl
  have hr' : ∀ p ∈ rest, g'.get? p.1 = some p.2 := fun p hp => T'.other _ _ (hrest p hp) fun q => by
    have n := N p (hs.mem.2 p hp)
    rcases memE _ q with z | z
    · exact n.2.1 z
    · obtain ⟨_, o, ho', _⟩ := B.frames.mem z
      rw [n.2.2] at ho'; cases ho'
  refine ret _ r foot' h' tk' T₁ B₃ (D.turn T₁) ⟨⟨_, es, ep, hsl', hLd, hLk, hLf⟩, S₁, by rw [T₁.size]; exact F.above⟩ (fun p hp => ?_) (fun p hp q hq e => ?_) P'
  · rcases List.mem_append.mp hp with hp | hp
    · refine ⟨(O'.foot p hp).1, fun e => ?_, T₁.none_ _ ?_⟩
      · have := (O'.foot p hp).2
        rw [e, hsl] at this; cases this
      · cases q : h₀.get? p.1 with
        | none => rfl
        | some o =>
          obtain ⟨sl', hs'⟩ := T'.up (G.2 _ _ q)
          have := (O'.foot p hp).2
          rw [hs'] at this; cases this
    · have n := N p (hs.mem.2 p hp)
      exact ⟨O'.sub _ _ (hr' p hp), n.2.1, T₁.none_ _ n.2.2⟩
  · have := (O'.foot p hp).2
    rw [e, hr' q hq] at this; cases this
end
end Mine
end
section
section
open PySem PySem.Calls PySem.W PyProof.Rows
set_option maxHeartbeats 4000000
namespace Mine
theorem rstPiece : True := by
  w_top off
  k_with_none
  trivial
theorem fillIt15 : PySem.Challenge.rw_no0070_01 = PySem.Challenge.rw_no0070_01 ∧ Mine.hd.heap_1 = Mine.hd.heap_1 := by
  k_fill
  exact ⟨rfl, rfl⟩

/-- what stands between two turns of the law -/
structure LInv (w : World) (oc : List UInt8) (inner box part dx hv hd : Addr) (ob oi od oh ohv : Obj) (kvs : List (Int × Value)) (tl : List (Addr × Obj)) (lim : Int) (r H : Nat) (fin told : Bool) (bnd : Nat) : Prop where
  pbox : BoxOk inner ob oi
  phere : HereOk w hv lim r H fin oc.length told oh
  have_ : ohv.IsDictOf (PySem.intKind PG w) kvs
  klen : kvs.length ≤ bnd
  ptop : ∀ k, Hv kvs k → k < oc.length
  ppart : PInv oc part dx od tl lim r H fin told (fun k => Hv kvs (k : Nat))
  poff : OwnOff tl [inner, box, part, dx, hv, hd]
def foot6 (inner box part dx hv hd : Addr) (ob oi od oh ohv : Obj) (tl : List (Addr × Obj)) : List (Addr × Obj) := (box, ob) :: (inner, oi) :: (hd, oh) :: (hv, ohv) :: (part, instObj 154 dx) :: (dx, od) :: tl

theorem apartS {tl foot : List (Addr × Obj)} {adr : List Addr} (h : OwnOff tl adr) (hs : ∀ q ∈ foot, q.1 ∈ adr) : ∀ p ∈ tl, ∀ q ∈ foot, p.1 ≠ q.1 := fun p hp q hq => h p hp q.1 (hs q hq)
theorem offS {tl : List (Addr × Obj)} {adr adr' : List Addr} (h : OwnOff tl adr) (hs : ∀ q ∈ adr', q ∈ adr) : OwnOff tl adr' := fun p hp b hb => h p hp b (hs b hb)
local macro_rules | `(tactic| walk_at "Apart") => `(tactic| first | exact List.forall_mem_nil _ | (exact apartS (by assumption) (by simp)) | (refine' List.forall_mem_cons.mpr ⟨?p1, ?p2⟩; (case p1 => (intro q hq; simp only [List.mem_cons, List.not_mem_nil, or_false] at hq; rcases hq with q1 | q1 <;> (subst q1; show @Ne Nat _ _; omega))); (case p2 => walk_at "Apart")))

section
variable {inner box part dx hv hd : Addr} {tl : List (Addr × Obj)} {ob oi oh ohv o1 o2 : Obj}
theorem apartQ (hoff : OwnOff tl [inner, box, part, dx, hv, hd]) (lt1 : @LT.lt Nat _ inner box) (lt2 : @LT.lt Nat _ box dx) (lt3 : @LT.lt Nat _ dx part) (lt4 : @LT.lt Nat _ part hd) (lt5 : @LT.lt Nat _ hd hv) :
    ∀ p ∈ [(box, ob), (inner, oi), (hd, oh), (hv, ohv)], ∀ q ∈ (part, o1) :: (dx, o2) :: tl, p.1 ≠ q.1 := by
  intro p hp q hq
  have hb : p.1 = box ∨ p.1 = inner ∨ p.1 = hd ∨ p.1 = hv := by
    simp only [List.mem_cons, List.not_mem_nil, or_false] at hp
    rcases hp with rfl | rfl | rfl | rfl <;> simp
  rcases List.mem_cons.mp hq with rfl | hq
  · rcases hb with e | e | e | e <;> (rw [e]; show @Ne Nat _ _; omega)
  rcases List.mem_cons.mp hq with rfl | hq
  · rcases hb with e | e | e | e <;> (rw [e]; show @Ne Nat _ _; omega)
  · exact fun e => hoff q hq p.1 (by rcases hb with e | e | e | e <;> simp [e]) e.symm
theorem offQ (x : ∀ p ∈ (part, o1) :: (dx, o2) :: tl, ∀ q ∈ [(box, ob), (inner, oi), (hd, oh), (hv, ohv)], p.1 ≠ q.1) (h : OwnOff tl [part, dx]) : OwnOff tl [inner, box, part, dx, hv, hd] := by
  intro p hp b hb
  have x' := x p (.tail _ (.tail _ hp))
  simp only [List.mem_cons, List.not_mem_nil, or_false] at hb
  rcases hb with rfl | rfl | rfl | rfl | rfl | rfl
  · exact x' (b, oi) (by simp)
  · exact x' (b, ob) (by simp)
  · exact h p hp _ (.head _)
  · exact h p hp _ (.tail _ (.head _))
  · exact x' (b, ohv) (by simp)
  · exact x' (b, oh) (by simp)
end
theorem hv_stored {kvs : List (Int × Value)} {k k' : Int} {v : Value} : Hv (stored kvs k v) k' ↔ Hv kvs k' ∨ k' = k := by
  unfold Hv
  rw [valueAt_isSome_eq_any, valueAt_isSome_eq_any]
  unfold stored
  split
  · rename_i h
    rw [List.any_map]
    have e : ((fun kv : Int × Value => decide (kv.1 = k')) ∘ fun kv => if kv.1 = k then (kv.1, v) else kv) = fun kv => decide (kv.1 = k') := by
      funext kv
      show decide ((if kv.1 = k then (kv.1, v) else kv).1 = k') = _
      split <;> rfl
    rw [e]
    constructor
    · exact .inl
    · rintro (z | rfl)
      · exact z
      · exact h
  · rw [List.any_append, Bool.or_eq_true]
    constructor
    · rintro (z | z)
      · exact .inl z
      · simp only [List.any_cons, List.any_nil, Bool.or_false, decide_eq_true_eq] at z
        exact .inr z.symm
    · rintro (z | rfl)
      · exact .inl z
      · right; simp
theorem PInv.congr {oc : List UInt8} {part dx : Addr} {od : Obj} {tl : List (Addr × Obj)} {lim : Int} {r H : Nat} {fin done : Bool} {C C' : Nat → Prop} (P : PInv oc part dx od tl lim r H fin done C) (h : ∀ k, r ≤ k → (C' k ↔ C k)) : PInv oc part dx od tl lim r H fin done C' := by
  obtain ⟨pl, refs, c, ps, a1, a2, a3, a4, a5, a6, b1, b2, b3, b4, b5⟩ := P
  exact ⟨pl, refs, c, ps, a1, a2, a3, a4, a5, fun k hk => (h k hk).trans (a6 k hk), b1, b2, b3, b4, b5⟩
theorem hereMk {w : World} {hv : Addr} {lim r H n a b c : Int} {fin told : Bool} {oh : Obj} {t1 t2 t3 : Tok} {ev : Value}
    (hI : oh.IsDictOf (PySem.strKind PG w) [(Str.ofString "limit", .int a t1), (Str.ofString "have", .ref hv), (Str.ofString "read", .int b t2), (Str.ofString "highest", .int c t3), (Str.ofString "end", ev), (Str.ofString "told", .bool told)])
    (h1 : a = lim) (h2 : b = r) (h3 : c = H) (h4 : if fin = true then ∃ t4, ev = .int n t4 else ev = .none) : HereOk w hv lim r H fin n told oh := by
  subst h1 h2 h3
  cases fin
  · rw [if_neg (by decide)] at h4
    subst h4
    exact ⟨t1, t2, t3, 0, hI⟩
  · rw [if_pos rfl] at h4
    obtain ⟨t4, rfl⟩ := h4
    exact ⟨t1, t2, t3, t4, hI⟩
theorem neUp {a b c : Addr × Obj} {hv J : Addr} {o o' : Obj} {l : List (Addr × Obj)} (h : ∀ p ∈ a :: b :: c :: (hv, o) :: l, @Ne Nat p.1 J) : ∀ p ∈ a :: b :: c :: (hv, o') :: l, @Ne Nat p.1 J := fun p hp => by
  rcases List.mem_cons.mp hp with rfl | hp
  · exact h _ (.head _)
  rcases List.mem_cons.mp hp with rfl | hp
  · exact h _ (.tail _ (.head _))
  rcases List.mem_cons.mp hp with rfl | hp
  · exact h _ (.tail _ (.tail _ (.head _)))
  rcases List.mem_cons.mp hp with rfl | hp
  · exact h (hv, o) (.tail _ (.tail _ (.tail _ (.head _))))
  · exact h p (.tail _ (.tail _ (.tail _ (.tail _ hp))))
theorem endKeep {fin : Bool} {n : Int} {y4 : Tok} : if (fin || false) = true then ∃ t4, (if fin = true then Value.int n y4 else .none) = .int n t4 else (if fin = true then Value.int n y4 else .none) = .none := by
  cases fin
  · rfl
  · exact ⟨y4, rfl⟩
theorem rot7 {h₀ h : Heap} {L : Addr} {t p d a b c e : Addr × Obj} {tl : List (Addr × Obj)} (N : News h₀ L h (t :: p :: d :: tl ++ [a, b, c, e])) : News h₀ L h (t :: a :: b :: c :: e :: p :: d :: tl) := fun q hq => by
  refine N q (List.mem_append.mpr ?_)
  rcases List.mem_append.mp (show q ∈ [t, a, b, c, e] ++ (p :: d :: tl) from hq) with z | z
  · rcases List.mem_cons.mp z with rfl | z
    · exact .inl (.head _)
    · exact .inr z
  · exact .inl (.tail _ z)
theorem rot6 {α : Type} {a b c d e f x : α} {l : List α} : ∀ p ∈ a :: b :: c :: d :: e :: f :: l, p ∈ x :: a :: b :: c :: d :: e :: f :: l := fun p hp => .tail _ hp
theorem argsG {a : Value} {x y : Int} {t : Tok} {b c : Array UInt8} {u : Tok} {v : Value} (h1 : x = y) (h2 : b = c) : [a, Value.int x t, Value.bytes b u, v] = [a, Value.int y t, Value.bytes c u, v] := by rw [h1, h2]

/-- the rest of the def, once for both ways to its word is_end -/
theorem tailIn {h₀ h : Heap} {L : Addr} {m : Str → Option Value} {rest : List (Addr × Obj)} {inner box : Addr} {x y : Addr × Obj} {E : Bool → Prop} {s : Shared} {q : Flow → Shared → Prop} (_F : Fr h₀ L h m) (_N : News h₀ L h (x :: y :: rest))
    (H : ∀ (be : Bool) (ob oi : Obj) h' tk, E be → BoxOk inner ob oi → Fr h₀ L h' (fun z => if z = Str.ofString "is_end" then some (.bool be) else m z) → News h₀ L h' ((box, ob) :: (inner, oi) :: rest) → q .next { s with heap := h', toks := tk }) :
    ∀ (be : Bool) (ob oi : Obj) h' tk, E be → BoxOk inner ob oi → Fr h₀ L h' (fun z => if z = Str.ofString "is_end" then some (.bool be) else m z) → News h₀ L h' ((box, ob) :: (inner, oi) :: rest) → q .next { s with heap := h', toks := tk } := H
def Stop1 (p : Prop) : Prop := p
theorem Stop1.out {p : Prop} (h : Stop1 p) : p := h
theorem Stop1.mk {p : Prop} (h : p) : Stop1 p := h
local macro_rules | `(tactic| walk_at "exec Assign") => `(tactic| ((with_reducible show wpAny _ _ (exec (Stmt.Assign _ (Expr.BoolOp _ _ _) _) _) _ _ _); (refine Stop1.out ?_)))
theorem piece_spec {w : World} {mean : ExcName → Option Value} {mg mb : Str → Option Value} {oc : List UInt8} {inner box part dx hv hd : Addr} {ob oi od oh ohv : Obj} {kvs : List (Int × Value)} {tl : List (Addr × Obj)} {lim : Int} {r H : Nat} {fin told : Bool} {bnd : Nat} {t : Tok}
    (I : LInv w oc inner box part dx hv hd ob oi od oh ohv kvs tl lim r H fin told bnd) (hbnd : bnd ≤ 1000) (hoc : oc.length ≤ 13) (lo : (hv == sysModules) = false) (lt1 : @LT.lt Nat _ inner box) (lt2 : @LT.lt Nat _ box dx) (lt3 : @LT.lt Nat _ dx part) (lt4 : @LT.lt Nat _ part hd) (lt5 : @LT.lt Nat _ hd hv) :
    SpecT w mean mg mb 200 [.ref box, .ref part, .ref hd, .bytes (seg oc 0 oc.length) t] 24 (foot6 inner box part dx hv hd ob oi od oh ohv tl)
      (fun v foot' => ∃ ob' oi' od' oh' ohv' kvs' tl' H' fin', v = .bool true ∧ foot' = foot6 inner box part dx hv hd ob' oi' od' oh' ohv' tl' ∧ LInv w oc inner box part dx hv hd ob' oi' od' oh' ohv' kvs' tl' lim r H' fin' told (bnd + 13)) := by
  obtain ⟨hB, ⟨y1, y2, y3, y4, hI⟩, hK, hKl, hTop, P, hoff⟩ := I
  unfold foot6
  have m1 : @LT.lt Nat _ inner dx := Nat.lt_trans lt1 lt2
  have m2 : @LT.lt Nat _ inner part := Nat.lt_trans m1 lt3
  have m3 : @LT.lt Nat _ inner hd := Nat.lt_trans m2 lt4
  have m4 : @LT.lt Nat _ inner hv := Nat.lt_trans m3 lt5
  have m5 : @LT.lt Nat _ box part := Nat.lt_trans lt2 lt3
  have m6 : @LT.lt Nat _ box hd := Nat.lt_trans m5 lt4
  have m7 : @LT.lt Nat _ box hv := Nat.lt_trans m6 lt5
  have m8 : @LT.lt Nat _ dx hd := Nat.lt_trans lt3 lt4
  have m9 : @LT.lt Nat _ dx hv := Nat.lt_trans m8 lt5
  have m10 : @LT.lt Nat _ part hv := Nat.lt_trans lt4 lt5

  rintro dp un gd base outer A₀ g ⟨hp0, gn0, dr0, tk0, os0⟩ R B XB TB D O hdp hun hret
  have X := XB.keeps B.stays
  have T := TB.keeps B.stays
  refine' enterC (binds := [(Str.ofString "box", .ref box), (Str.ofString "part", .ref part), (Str.ofString "here", .ref hd), (Str.ofString "octets", .bytes (seg oc 0 oc.length) t)]) B rfl O X (Top.nolimit T) ?k6 ?k7 ?k8 ?k9 ?kB ?_ ?c2 ?c3 ?c4 ?c5
  case k6 => k_is
  case k7 => k_is
  case k8 => ktr_room
  case k9 => exact BindsTo.of_eq rfl
  case kB => exact locs rfl
  case c2 => exact rfl
  case c3 => exact rfl
  case c4 => exact rfl
  case c5 => decide
  intro L' h₁ F' N' B' hlt
  (try k_lt hlt)
  (try dsimp only)
  (try k_fold)
  k_steps
  refine' takeUseN (by assumption) ?a2 ?a3 ?a4 B' ?uF X T ?uN rfl ?us ?ud ?uh ?uu ?_
  case a2 => omega
  case a3 => omega
  case a4 => omega
  case uF => k_asm
  case uN => k_asm
  case us => walk_at "Sel"
  case ud => walk_at "Apart"
  case uh => ktr_room
  case uu => ktr_units
  intro k1 t1 ob1 oi1 h9 tk9 kq1 hB1 F9 N9
  k_sweep
  (try dsimp only)
  k_steps
  refine' takeUseN (by assumption) ?a2 ?a3 ?a4 B' ?uF X T ?uN rfl ?us ?ud ?uh ?uu ?_
  case a2 => omega
  case a3 => omega
  case a4 => omega
  case uF => k_asm
  case uN => k_asm
  case us => walk_at "Sel"
  case ud => walk_at "Apart"
  case uh => ktr_room
  case uu => ktr_units
  intro k2 t2 ob2 oi2 h9 tk9 kq2 hB2 F9 N9
  k_sweep
  (try dsimp only)
  k_steps
  refine Stop1.mk ?_
  k_fold
  with_reducible rename Fr _ _ _ _ => F7
  with_reducible rename News _ _ _ _ => N7
  rw [show 0 + ((k1 : Nat) : Int).toNat = k1 from Nat.zero_add k1, show min (0 + (((k1 : Nat) : Int) + ((k2 : Nat) : Int)).toNat) oc.length = min (k1 + k2) oc.length from congrArg (min · oc.length) (Nat.zero_add (k1 + k2))] at F7
  obtain ⟨e, he⟩ : ∃ e, e = min (k1 + k2) oc.length := ⟨_, rfl⟩
  rw [← he] at F7
  have f1 : k1 ≤ e := by omega
  have f2 : e ≤ oc.length := by omega
  clear he
  rw [show ((k1 : Nat) : Int) + (((e : Nat) : Int) - ((k1 : Nat) : Int)) = ((e : Nat) : Int) from subAdd] at F7
  have tail := tailIn (box := box) (inner := inner) (s := ⟨hp0, gn0, dr0, tk0, os0⟩) (q := qk) (E := fun be => be = true → e = oc.length) F7 N7 (by
    rintro be ob3 oi3 h7 tk7 hE hB3 F9 N9
    clear F7 N7
    k_steps
    by_cases h4 : ((e : Nat) : Int) ≤ lim
    · refine' givenUse (rest := [(box, _), (inner, _), (hd, oh), (hv, ohv)]) (o := k1) (e := e) P (Nat.ne_of_gt lt3) hoc (by omega) f2 hE h4 ?ca rfl B' ?uF X T ?uN rfl ?us ?ud ?uh ?uu ?_
      case ca => exact rfl
      case uF => k_asm
      case uN => k_asm
      case us => exact .skip (.skip (.skip (.skip .whole)))
      case ud => exact apartQ hoff lt1 lt2 lt3 lt4 lt5
      case uh => ktr_room
      case uu => ktr_units
      intro tkv od9 tl9 h9 tk9 P9 x9 F9 N9
      replace hoff := offQ x9 P9.hoff
      clear x9 P
      simp only [List.cons_append, List.nil_append] at N9
      k_sweep
      (try dsimp only)
      k_steps
      have hrn := P9.hr
      have hst : (if ((r : Nat) : Int) > ((k1 : Nat) : Int) then ((r : Nat) : Int) else ((k1 : Nat) : Int)) = ((max k1 r : Nat) : Int) := maxIf
      with_reducible rename IsRange _ _ _ _ _ _ _ _ => hR
      with_reducible rename Obj.IsDictOf _ _ _ => hI2
      rename Obj => oh2
      rw [hst] at hR
      refine' rangeS (σ := Obj × List (Int × Value)) (fun c => (box, ob3) :: (inner, oi3) :: (hd, oh2) :: (hv, c.1) :: (part, instObj 154 dx) :: (dx, od9) :: tl9) (fun _ => []) [] (fun i c => c.1.IsDictOf (PySem.intKind PG w) c.2 ∧ (∀ k, Hv c.2 k ↔ (Hv kvs k ∨ (((max k1 r : Nat) : Int) ≤ k ∧ k < ((max k1 r : Nat) : Int) + i))) ∧ c.2.length ≤ bnd + i) ⟨ohv, kvs⟩
        rfl hR ?small (by assumption) (by assumption) (List.forall_mem_nil _) ⟨hK, ?h0, hKl⟩ ?turn ?done
      case small => exact smallNN (Nat.max_le.mpr ⟨Nat.le_trans (Nat.le_trans f1 f2) (Nat.le_trans hoc (by decide)), Nat.le_trans hrn (Nat.le_trans hoc (by decide))⟩) (Nat.le_trans f2 (Nat.le_trans hoc (by decide)))
      case h0 => exact fun k => ⟨.inl, fun h => h.elim id fun q => absurd q inv0⟩
      case turn =>
        rintro J - i t8 ⟨oc8, kc8⟩ u8 h8 tk8 oI8 hi8 ⟨hd8, hk8, hl8⟩ hne8 F8 N8
        dsimp only at hd8 hk8 hl8 hne8 F8 N8
        clear hR hK
        have j1 : @Ne Nat box J := hne8 (box, ob3) (by simp)
        have j2 : @Ne Nat inner J := hne8 (inner, oi3) (by simp)
        have j3 : @Ne Nat hd J := hne8 (hd, oh2) (by simp)
        have j4 : @Ne Nat hv J := hne8 (hv, oc8) (by simp)
        k_steps
        dsimp only
        refine' kda_set (knd := PySem.intKind PG w) (k := ((max k1 r : Nat) : Int) + (i : Int)) F8 N8 ?U hd8 (intKind_is _ _ _ _) ?hsz ?_
        case U => k_updF
        case hsz => (rw [sizeLine_eq]; exact szOk hl8 hbnd hi8 (Nat.le_trans f2 hoc))
        intro h5 o5 F5 N5 hd5
        dsimp only
        k_steps
        dsimp only [PairPost]
        refine pairEnd ⟨o5, stored kc8 (((max k1 r : Nat) : Int) + (i : Int)) (.bool true)⟩ F5 N5 (fun _ h => h) (neUp hne8) (List.forall_mem_nil _) (by walk_at "Same") ⟨hd5, ?_, ?_⟩
        · intro k
          rw [hv_stored, hk8 k]
          exact invS
        · have := stored_length_le kc8 (((max k1 r : Nat) : Int) + (i : Int)) (.bool true)
          exact Nat.le_trans this (Nat.succ_le_succ hl8)
      case done =>
        rintro ⟨oc8, kc8⟩ u8 h8 tk8 ⟨hd8, hk8, hl8⟩ F8 N8
        dsimp only at hd8 hk8 hl8 F8 N8
        clear hR hK
        have hcnt : (((e : Nat) : Int) - ((max k1 r : Nat) : Int)).toNat ≤ 13 := cntLe (Nat.le_trans f2 hoc)
        have hkc : ∀ k : Nat, r ≤ k → (Hv kc8 (k : Nat) ↔ (Hv kvs (k : Nat) ∨ k1 ≤ k ∧ k < e)) := fun k hk => by
          rw [hk8, invD hk]
        have htop : ∀ k, Hv kc8 k → k < (oc.length : Nat) := fun k hk => by
          rcases (hk8 k).mp hk with z | z
          · exact hTop k z
          · exact invT f2 z
        have P10 := P9.congr hkc
        cases be
        · k_steps
          all_goals dsimp only
          refine hret g _ _ _ _ .refl (Own.of (by assumption) (by assumption) (fun _ h => h)) ⟨ob3, oi3, od9, _, oc8, kc8, tl9, _, _, congrArg Value.bool ?_, rfl, ⟨hB3, hereMk hI2 rfl rfl ?_ ?_, hd8, by omega, htop, P10, hoff⟩⟩
          · rw [beq_iff_eq]; first | exact ifSub.symm | (split <;> omega)
          · first | exact ifAdd | (split <;> omega)
          · exact endKeep
        · k_steps
          all_goals dsimp only
          with_reducible rename Obj.IsDictOf (PySem.strKind PG w) _ _ => hI4
          refine hret g _ _ _ _ .refl (Own.of (by assumption) (by assumption) (fun _ h => h)) ⟨ob3, oi3, od9, _, oc8, kc8, tl9, _, _, congrArg Value.bool ?_, rfl, ⟨hB3, hereMk hI4 rfl rfl ?_ (finEq (by cases fin <;> rfl) (by omega)), hd8, by omega, htop, P10, hoff⟩⟩
          · rw [beq_iff_eq]; first | exact ifSub.symm | (split <;> omega)
          · first | exact ifAdd | (split <;> omega)
    · obtain ⟨pl, refs, c, ps, hP, -, -, -, -, -, -, -, -, hH, -⟩ := id P
      refine' SpecT.use (rest := [(box, _), (inner, _), (hd, oh), (hv, ohv)]) (SpecT.cast (given_raise (o := k1) (e := e) hP P.hoff hH (Nat.ne_of_gt lt3) hoc (by omega) f2 hE (by omega)) ?ca) B' ?uF XB TB D ?uN rfl ?us ?ud ?uh ?uu ?_
      case ca => exact rfl
      case uF => k_asm
      case uN => k_asm
      case us => exact .skip (.skip (.skip (.skip .whole)))
      case ud => exact apartQ hoff lt1 lt2 lt3 lt4 lt5
      case uh => ktr_room
      case uu => ktr_units
      rintro g9 v9 f9 h9 tk9 T9 B9 D9 F9 N9 x9 ⟨T8, tk8, tc8, n8, rfl, rfl⟩
      have nT1 : @Ne Nat T8 box := x9 _ (.head _) (box, _) (.head _)
      have nT2 : @Ne Nat T8 hd := x9 _ (.head _) (hd, _) (.tail _ (.tail _ (.head _)))
      have N10 := rot7 N9
      have X9 := XB.keeps B9.stays
      have T10 := TB.keeps B9.stays
      clear B' B X T O D x9 N9
      k_sweep
      (try dsimp only)
      k_steps
      exact hret g9 _ _ _ _ T9 (Own.of (by assumption) (by assumption) (fun _ h => .tail _ (.tail _ h))) ⟨ob3, oi3, od, oh, ohv, kvs, tl, H, fin, rfl, rfl, ⟨hB3, ⟨y1, y2, y3, y4, hI⟩, hK, by omega, hTop, P, hoff⟩⟩)
  clear_value qk
  refine wpAny_Assign_Name ?_
  k_steps
  · refine' takeUseN (by assumption) ?a2 ?a3 ?a4 B' ?uF X T ?uN rfl ?us ?ud ?uh ?uu ?_
    case a2 => omega
    case a3 => omega
    case a4 => omega
    case uF => k_asm
    case uN => k_asm
    case us => walk_at "Sel"
    case ud => walk_at "Apart"
    case uh => ktr_room
    case uu => ktr_units
    intro k3 t3 ob3 oi3 h9 tk9 kq3 hB3 F9 N9
    k_sweep
    (try dsimp only)
    k_steps
    exact tail _ _ _ _ _ (fun _ => by omega) (by assumption) (by assumption) (by assumption)
  · refine tail _ _ _ _ _ ?hb (by assumption) (by assumption) (by assumption)
    intro h
    have := beq_iff_eq.mp h
    omega

section
variable {w : World} {mean : ExcName → Option Value} {mg mb : Str → Option Value} {dp un : Nat} {gd : Option (List Code)} {cn : Str} {cs : Scope} {a : Addr} {ccd : Value} {cl : List (Str × Addr)} {outer : List Env} {A₀ : Around} {base h₀ : Heap} {L : Addr} {m : Str → Option Value} {news rest : List (Addr × Obj)}
  {h : Heap} {gens : Array GenState} {drawn : Drawn} {tk : Nat} {os : OsState} {Q E : Value → Shared → Prop}
theorem pieceUse {oc : List UInt8} {inner box part dx hv hd : Addr} {ob oi od oh ohv : Obj} {kvs : List (Int × Value)} {tl : List (Addr × Obj)} {lim : Int} {r H : Nat} {fin told : Bool} {bnd : Nat} {t : Tok} (I : LInv w oc inner box part dx hv hd ob oi od oh ohv kvs tl lim r H fin told bnd) (hbnd : bnd ≤ 1000) (hoc : oc.length ≤ 13) (lo : (hv == sysModules) = false) (lt1 : @LT.lt Nat _ inner box) (lt2 : @LT.lt Nat _ box dx) (lt3 : @LT.lt Nat _ dx part) (lt4 : @LT.lt Nat _ part hd) (lt5 : @LT.lt Nat _ hd hv) (B : Below A₀ base outer h₀) (F : Fr h₀ L h m) (XB : (Mine.hd.heap_1 w.params).In base) (TB : Top VW (looseW VW []) mean mg mb base) (D : KtsDicts (outer.filterMap (·.frame)) h₀) (N : News h₀ L h news) (hk : cs.kind = .function)
    (hs : Sel ((box, ob) :: (inner, oi) :: (hd, oh) :: (hv, ohv) :: (part, instObj 154 dx) :: (dx, od) :: tl) news rest) (hd' : ∀ p ∈ rest, ∀ q ∈ ((box, ob) :: (inner, oi) :: (hd, oh) :: (hv, ohv) :: (part, instObj 154 dx) :: (dx, od) :: tl), p.1 ≠ q.1) (hdp : dp + 24 < recursionLimit) (hun : un + 8 * 24 < cLine)
    (ret : ∀ h₀' ob' oi' od' oh' ohv' kvs' tl' H' fin' h' tk', LInv w oc inner box part dx hv hd ob' oi' od' oh' ohv' kvs' tl' lim r H' fin' told (bnd + 13) → (∀ p ∈ (box, ob') :: (inner, oi') :: (hd, oh') :: (hv, ohv') :: (part, instObj 154 dx) :: (dx, od') :: tl', ∀ q ∈ rest, p.1 ≠ q.1) → KtsTurn (outer.filterMap (·.frame)) h₀ h₀' → Fr h₀' L h' m → News h₀' L h' (rest ++ (box, ob') :: (inner, oi') :: (hd, oh') :: (hv, ohv') :: (part, instObj 154 dx) :: (dx, od') :: tl') → Q (.bool true) ⟨h', gens, drawn, tk', os⟩) :
    wpAny (model PG w) (ktrTop dp un gd cn cs L a ccd cl outer) (call (.ref 200) [.ref box, .ref part, .ref hd, .bytes (seg oc 0 oc.length) t]) Q E ⟨h, gens, drawn, tk, os⟩ := by
  refine SpecT.use (piece_spec I hbnd hoc lo lt1 lt2 lt3 lt4 lt5) B F XB TB D N hk hs hd' hdp hun fun h₀' v f h' tk' T' _ _ F' N' x' P => ?_
  obtain ⟨ob', oi', od', oh', ohv', kvs', tl', H', fin', rfl, rfl, I'⟩ := P
  exact ret h₀' ob' oi' od' oh' ohv' kvs' tl' H' fin' h' tk' I' x' T' F' fun p hp => N' p ((List.mem_append.mp hp).elim (fun q => List.mem_append_right _ q) fun q => List.mem_append_left _ q)
end
end Mine
end
local macro_rules | `(tactic| walk_at "Apart") => `(tactic| first | exact List.forall_mem_nil _ | (exact apartS (by assumption) (by simp)) | (refine' List.forall_mem_cons.mpr ⟨?p1, ?p2⟩; (case p1 => (intro q hq; simp only [List.mem_cons, List.not_mem_nil, or_false] at hq; rcases hq with q1 | q1 <;> (subst q1; show @Ne Nat _ _; omega))); (case p2 => walk_at "Apart")))
section
open PySem PySem.Calls PySem.W PyProof.Rows
set_option maxHeartbeats 4000000
namespace Mine
theorem rstLRead : True := by
  w_top off
  k_with_none
  trivial
theorem fillIt16 : PySem.Challenge.rw_no0070_01 = PySem.Challenge.rw_no0070_01 ∧ Mine.hd.heap_1 = Mine.hd.heap_1 := by
  k_fill
  exact ⟨rfl, rfl⟩

theorem apart1 {tl : List (Addr × Obj)} {hv : Addr} {o : Obj} {a b c d e : Addr × Obj} {adr : List Addr} (h : OwnOff tl adr) (hm : hv ∈ adr) (n1 : @Ne Nat a.1 hv) (n2 : @Ne Nat b.1 hv) (n3 : @Ne Nat c.1 hv) (n4 : @Ne Nat d.1 hv) (n5 : @Ne Nat e.1 hv) : ∀ p ∈ a :: b :: c :: d :: e :: tl, ∀ q ∈ [(hv, o)], p.1 ≠ q.1 := by
  intro p hp q hq
  rw [List.mem_singleton] at hq
  subst hq
  rcases List.mem_cons.mp hp with rfl | hp
  · exact n1
  rcases List.mem_cons.mp hp with rfl | hp
  · exact n2
  rcases List.mem_cons.mp hp with rfl | hp
  · exact n3
  rcases List.mem_cons.mp hp with rfl | hp
  · exact n4
  rcases List.mem_cons.mp hp with rfl | hp
  · exact n5
  · exact h p hp hv hm
theorem rot4 {h₀ h : Heap} {L : Addr} {a b c d : Addr × Obj} {l : List (Addr × Obj)} (N : News h₀ L h (a :: b :: c :: d :: l)) : News h₀ L h (c :: d :: a :: b :: l) := News.pick N 4 [2, 3, 0, 1]
theorem segE {oc : List UInt8} {a b a' b' : Nat} (h1 : a = a') (h2 : b = b') : seg oc a b = seg oc a' b' := by rw [h1, h2]
theorem endK {fin : Bool} {n : Int} {y4 : Tok} : if fin = true then ∃ t4, (if fin = true then Value.int n y4 else .none) = .int n t4 else (if fin = true then Value.int n y4 else .none) = .none := by
  cases fin
  · rfl
  · exact ⟨y4, rfl⟩
theorem told_in {fin e told b9 : Bool} (h : ([Str.ofString "data_recvd", Str.ofString "data_read"].any fun x => x == wordS fin e told b9) = true) : fin = true := by
  cases fin
  · revert h
    show ([Str.ofString "data_recvd", Str.ofString "data_read"].any fun x => x == Str.ofString "recv") = true → _
    decide
  · rfl
theorem told_stay {fin told b9 e : Bool} {r r' n : Nat} (hdn : told = true → fin = true ∧ r = n) (hlo : r ≤ r') (hrn' : r' ≤ n) (hall : r' = n → b9 = true) (h : ([Str.ofString "data_recvd", Str.ofString "data_read"].any fun x => x == wordS fin e told b9) = false ∨ r' ≠ n) : (fin && decide (r' = n)) = told := by
  cases told
  · cases fin
    · rfl
    · by_cases q : r' = n
      · exfalso
        rcases h with h | h
        · rw [hall q] at h
          revert h
          cases e <;> decide
        · exact h q
      · rw [decide_eq_false q]; rfl
  · obtain ⟨h1, h2⟩ := hdn rfl
    rw [h1, decide_eq_true (by omega)]; rfl
theorem fin6 {g h' : Heap} {L' inner box part dx hv hd : Addr} {ob oi od oh ohv : Obj} {tl : List (Addr × Obj)} {m : Str → Option Value} {x y : Addr × Obj} (F : Fr g L' h' m) (N : News g L' h' (x :: (box, ob) :: (inner, oi) :: (hd, oh) :: (hv, ohv) :: y :: (part, instObj 154 dx) :: (dx, od) :: tl)) : Own g h' (foot6 inner box part dx hv hd ob oi od oh ohv tl) :=
  Own.of F N (fun _ h => pickM 8 [1, 2, 3, 4, 6, 7] h)
theorem read_many {C : Nat → Prop} {r r' most m : Nat} (h1 : r ≤ r') (h2 : r' ≤ r + most) (got : ∀ k, r ≤ k → k < r' → C k) (stop : r' < r + most → ¬ C r') (g1 : ∀ i, i < m → C (r + i)) (g2 : ¬ C (r + m)) : r' = r + min most m := by
  by_cases q : most ≤ m
  · rw [Nat.min_eq_left q]
    false_or_by_contra
    have h3 : r' < r + most := by omega
    exact stop h3 (by have := g1 (r' - r) (by omega); rwa [show r + (r' - r) = r' by omega] at this)
  · rw [Nat.min_eq_right (by omega)]
    rcases Nat.lt_trichotomy r' (r + m) with z | z | z
    · exact absurd (by have := g1 (r' - r) (by omega); rwa [show r + (r' - r) = r' by omega] at this) (stop (by omega))
    · exact z
    · exact absurd (got (r + m) (by omega) z) g2

theorem lread_spec {w : World} {mean : ExcName → Option Value} {mg mb : Str → Option Value} {oc : List UInt8} {inner box part dx hv hd : Addr} {ob oi od oh ohv : Obj} {kvs : List (Int × Value)} {tl : List (Addr × Obj)} {lim : Int} {r H : Nat} {fin told : Bool} {bnd : Nat} {t : Tok}
    (I : LInv w oc inner box part dx hv hd ob oi od oh ohv kvs tl lim r H fin told bnd) (hbnd : bnd ≤ 1000) (hoc : oc.length ≤ 13) (lo : (hv == sysModules) = false) (lt1 : @LT.lt Nat _ inner box) (lt2 : @LT.lt Nat _ box dx) (lt3 : @LT.lt Nat _ dx part) (lt4 : @LT.lt Nat _ part hd) (lt5 : @LT.lt Nat _ hd hv) :
    Spec w mean mg mb 207 [.ref box, .ref part, .ref hd, .bytes (seg oc 0 oc.length) t] 24 (fun _ => True) (foot6 inner box part dx hv hd ob oi od oh ohv tl)
      (fun _ v foot' => ∃ ob' oi' od' oh' ohv' tl' r' told', v = .bool true ∧ foot' = foot6 inner box part dx hv hd ob' oi' od' oh' ohv' tl' ∧ LInv w oc inner box part dx hv hd ob' oi' od' oh' ohv' kvs tl' lim r' H fin told' bnd) := by
  obtain ⟨hB, hH0, hK, hKl, hTop, P, hoff⟩ := I
  obtain ⟨y1, y2, y3, y4, hI⟩ := id hH0
  have P0 := P
  obtain ⟨pl, refs, c, ps, hP, -, -, -, -, -, -, hdn, hrn, -, -⟩ := P
  obtain ⟨z1, z2, z3, z4, z5, z6, z7, z8, i1, i2, i3, i4, i5, i6, i7, i8, u1, u2, u4, u5, fv, nn, rfl, hf⟩ := hP
  unfold partD at *
  unfold foot6
  have m1 : @LT.lt Nat _ inner dx := Nat.lt_trans lt1 lt2
  have m2 : @LT.lt Nat _ inner part := Nat.lt_trans m1 lt3
  have m3 : @LT.lt Nat _ inner hd := Nat.lt_trans m2 lt4
  have m4 : @LT.lt Nat _ inner hv := Nat.lt_trans m3 lt5
  have m5 : @LT.lt Nat _ box part := Nat.lt_trans lt2 lt3
  have m6 : @LT.lt Nat _ box hd := Nat.lt_trans m5 lt4
  have m7 : @LT.lt Nat _ box hv := Nat.lt_trans m6 lt5
  have m8 : @LT.lt Nat _ dx hd := Nat.lt_trans lt3 lt4
  have m9 : @LT.lt Nat _ dx hv := Nat.lt_trans m8 lt5
  have m10 : @LT.lt Nat _ part hv := Nat.lt_trans lt4 lt5

  rintro dp un gd base outer A₀ g ⟨hp0, gn0, dr0, tk0, os0⟩ R B X T hPre O hdp hun hret
  refine' enterC (binds := [(Str.ofString "box", .ref box), (Str.ofString "part", .ref part), (Str.ofString "here", .ref hd), (Str.ofString "octets", .bytes (seg oc 0 oc.length) t)]) B rfl O X (Top.nolimit T) ?k6 ?k7 ?k8 ?k9 ?kB ?_ ?c2 ?c3 ?c4 ?c5
  case k6 => k_is
  case k7 => k_is
  case k8 => ktr_room
  case k9 => exact BindsTo.of_eq rfl
  case kB => exact locs rfl
  case c2 => exact rfl
  case c3 => exact rfl
  case c4 => exact rfl
  case c5 => decide
  intro L' h₁ F' N' B' hlt
  (try k_lt hlt)
  (try dsimp only)
  (try k_fold)
  k_steps
  refine' takeUseN (by assumption) ?a2 ?a3 ?a4 B' ?uF X T ?uN rfl ?us ?ud ?uh ?uu ?_
  case a2 => omega
  case a3 => omega
  case a4 => omega
  case uF => k_asm
  case uN => k_asm
  case us => walk_at "Sel"
  case ud => walk_at "Apart"
  case uh => ktr_room
  case uu => ktr_units
  intro k1 t1 ob1 oi1 h9 tk9 kq1 hB1 F9 N9
  k_sweep
  (try dsimp only)
  k_steps
  refine' readyUse (M := (oc.length : Nat)) hK lo hTop B' ?uF X T ?uN rfl ?us ?ud ?uh ?uu ?_
  case uF => k_asm
  case uN => k_asm
  case us => walk_at "Sel"
  case ud => exact apart1 hoff (by simp) (by show @Ne Nat _ _; omega) (by show @Ne Nat _ _; omega) (by show @Ne Nat _ _; omega) (by show @Ne Nat _ _; omega) (by show @Ne Nat _ _; omega)
  case uh => ktr_room
  case uu => ktr_units
  intro k2 t2 h9 tk9 hg1 hg2 F9 N9
  k_sweep
  (try dsimp only)
  k_steps
  have nhd : @Ne Nat hd hv := by omega
  rw [show ((oc.length : Nat) : Int) - ((0 : Nat) : Int) = ((oc.length : Nat) : Int) by omega]
  refine' wordUse hH0 hK lo hTop (Int.ofNat_le.mpr hrn) nhd B' ?uF X T ?uN rfl ?us ?ud ?uh ?uu ?_
  case uF => k_asm
  case uN => k_asm
  case us => walk_at "Sel"
  case ud => walk_at "Apart"
  case uh => ktr_room
  case uu => ktr_units
  intro b9 t9 h9 tk9 hb9 F9 N9
  k_sweep
  (try dsimp only)
  k_steps
  refine' readUse (rest := [(box, ob1), (inner, oi1), (hd, oh), (hv, ohv)]) (most := k1) P0 (Nat.ne_of_gt lt3) hoc B' ?uF X T (rot4 ?uN) rfl ?us ?ud ?uh ?uu ?_
  case uF => k_asm
  case uN => k_asm
  case us => exact .skip (.skip (.skip (.skip .whole)))
  case ud => exact apartQ hoff lt1 lt2 lt3 lt4 lt5
  case uh => ktr_room
  case uu => ktr_units
  intro r' T8 tf8 n8 od8 tl8 h9 tk9 hlo hhi hgot hstop P9 x9 F9 N9
  have nT1 : @Ne Nat T8 box := x9 _ (.head _) (box, _) (.head _)
  have nT2 : @Ne Nat T8 inner := x9 _ (.head _) (inner, _) (.tail _ (.head _))
  have nT3 : @Ne Nat T8 hd := x9 _ (.head _) (hd, _) (.tail _ (.tail _ (.head _)))
  have nT4 : @Ne Nat T8 hv := x9 _ (.head _) (hv, _) (.tail _ (.tail _ (.tail _ (.head _))))
  replace hoff := offQ (fun p hp => x9 p (.tail _ hp)) P9.hoff
  have hr' : r' = r + min k1 k2 := read_many hlo hhi hgot hstop (fun i hi => by have := hg1 i (by omega) (by omega); simpa using this) (by simpa using hg2)
  have hrn' := P9.hr
  clear x9 P0
  simp only [List.cons_append, List.nil_append] at N9
  k_sweep
  (try dsimp only)
  have hM : (if ((k2 : Nat) : Int) < ((k1 : Nat) : Int) then ((k2 : Nat) : Int) else ((k1 : Nat) : Int)) = ((min k1 k2 : Nat) : Int) := minIf
  have hall : r' = oc.length → b9 = true := fun e => hb9.mpr fun k ka kb => by
    have : Hv kvs ((k.toNat : Nat) : Int) := hgot k.toNat (by omega) (by omega)
    rwa [show ((k.toNat : Nat) : Int) = k by omega] at this
  k_steps
  all_goals dsimp only
  all_goals first
    | (exfalso
       rename ((_ : List UInt8) == _) = false => hq
       rw [beq_eq_false_iff_ne] at hq
       exact hq (congrArg Array.toList (segE (by first | rfl | omega) (by first | exact endEq hr' hrn' | omega))))
    | (rename (List.any _ _) = true => hw
       have e : (fin && decide (r' = oc.length)) = true := by rw [told_in hw, Bool.true_and]; exact decide_eq_true (by omega)
       rw [e] at P9
       with_reducible rename Obj.IsDictOf (PySem.strKind PG w) _ _ => hI4
       exact hret _ _ _ _ (fin6 (by assumption) (by assumption)) ⟨ob1, oi1, od8, _, ohv, tl8, r', true, congrArg Value.bool (by rw [e]; rfl), rfl, ⟨hB1, hereMk hI4 rfl (by first | exact sumEq hr' | omega) rfl endK, hK, hKl, hTop, P9, hoff⟩⟩)
    | (have e : (fin && decide (r' = oc.length)) = told := told_stay (b9 := b9) (e := decide (((r : Nat) : Int) = ((oc.length : Nat) : Int))) hdn hlo hrn' hall (by first | exact .inl (by assumption) | exact .inr (by omega))
       rw [e] at P9
       with_reducible rename Obj.IsDictOf (PySem.strKind PG w) _ _ => hI4
       exact hret _ _ _ _ (fin6 (by assumption) (by assumption)) ⟨ob1, oi1, od8, _, ohv, tl8, r', told, congrArg Value.bool (by rw [e]; exact beq_self_eq_true _), rfl, ⟨hB1, hereMk hI4 rfl (by first | exact sumEq hr' | omega) rfl endK, hK, hKl, hTop, P9, hoff⟩⟩)

section
variable {w : World} {mean : ExcName → Option Value} {mg mb : Str → Option Value} {dp un : Nat} {gd : Option (List Code)} {cn : Str} {cs : Scope} {a : Addr} {ccd : Value} {cl : List (Str × Addr)} {outer : List Env} {A₀ : Around} {base h₀ : Heap} {L : Addr} {m : Str → Option Value} {news rest : List (Addr × Obj)}
  {h : Heap} {gens : Array GenState} {drawn : Drawn} {tk : Nat} {os : OsState} {Q E : Value → Shared → Prop}
theorem lreadUse {oc : List UInt8} {inner box part dx hv hd : Addr} {ob oi od oh ohv : Obj} {kvs : List (Int × Value)} {tl : List (Addr × Obj)} {lim : Int} {r H : Nat} {fin told : Bool} {bnd : Nat} {t : Tok} (I : LInv w oc inner box part dx hv hd ob oi od oh ohv kvs tl lim r H fin told bnd) (hbnd : bnd ≤ 1000) (hoc : oc.length ≤ 13) (lo : (hv == sysModules) = false) (lt1 : @LT.lt Nat _ inner box) (lt2 : @LT.lt Nat _ box dx) (lt3 : @LT.lt Nat _ dx part) (lt4 : @LT.lt Nat _ part hd) (lt5 : @LT.lt Nat _ hd hv) (B : Below A₀ base outer h₀) (F : Fr h₀ L h m) (X : (Mine.hd.heap_1 w.params).In h₀) (T : Top VW (looseW VW []) mean mg mb h₀) (N : News h₀ L h news) (hk : cs.kind = .function)
    (hs : Sel ((box, ob) :: (inner, oi) :: (hd, oh) :: (hv, ohv) :: (part, instObj 154 dx) :: (dx, od) :: tl) news rest) (hd' : ∀ p ∈ rest, ∀ q ∈ ((box, ob) :: (inner, oi) :: (hd, oh) :: (hv, ohv) :: (part, instObj 154 dx) :: (dx, od) :: tl), p.1 ≠ q.1) (hdp : dp + 24 < recursionLimit) (hun : un + 8 * 24 < cLine)
    (ret : ∀ ob' oi' od' oh' ohv' tl' r' told' h' tk', LInv w oc inner box part dx hv hd ob' oi' od' oh' ohv' kvs tl' lim r' H fin told' bnd → (∀ p ∈ (box, ob') :: (inner, oi') :: (hd, oh') :: (hv, ohv') :: (part, instObj 154 dx) :: (dx, od') :: tl', ∀ q ∈ rest, p.1 ≠ q.1) → Fr h₀ L h' m → News h₀ L h' (rest ++ (box, ob') :: (inner, oi') :: (hd, oh') :: (hv, ohv') :: (part, instObj 154 dx) :: (dx, od') :: tl') → Q (.bool true) ⟨h', gens, drawn, tk', os⟩) :
    wpAny (model PG w) (ktrTop dp un gd cn cs L a ccd cl outer) (call (.ref 207) [.ref box, .ref part, .ref hd, .bytes (seg oc 0 oc.length) t]) Q E ⟨h, gens, drawn, tk, os⟩ := by
  refine Spec.useR (lread_spec I hbnd hoc lo lt1 lt2 lt3 lt4 lt5) B F X T N hk hs hd' (fun _ _ _ => trivial) hdp hun fun v f h' tk' F' N' x' P => ?_
  obtain ⟨ob', oi', od', oh', ohv', tl', r', told', rfl, rfl, I'⟩ := P
  exact ret ob' oi' od' oh' ohv' tl' r' told' h' tk' I' x' F' N'
end
end Mine
end
section
open PySem PySem.Calls PySem.W PyProof.Rows
set_option maxHeartbeats 4000000
namespace Mine
local macro_rules | `(tactic| walk_at "Never0") => `(tactic| fail)
theorem rstLaw : True := by
  w_top off
  k_with_none
  trivial
theorem fillIt18 : PySem.Challenge.rw_no0070_01 = PySem.Challenge.rw_no0070_01 ∧ Mine.hd.heap_1 = Mine.hd.heap_1 := by
  k_fill
  exact ⟨rfl, rfl⟩

def Stop (p : Prop) : Prop := p
theorem Stop.out {p : Prop} (h : Stop p) : p := h
theorem Stop.mk {p : Prop} (h : p) : Stop p := h
local macro_rules | `(tactic| walk_at "CompSrc") => `(tactic| (refine Stop.out ?_))
local macro_rules | `(tactic| walk_at "eval Dict nil nil") => `(tactic| (k_here; k_dflt (refine' newDict_K ?k1 ?k2 ?k3 ?_; (case k1 => k_asm); (case k2 => k_asm); (case k3 => first | exact Top.nolimit (by k_asm) | exact TopRead.nolimit (by k_asm)); k_whole); intro d' h' o' F' N' l1 lo' hs' fs' hi' fi'; (try k_lt l1); (try k_sweep)))
local macro_rules | `(tactic| walk_at "call type:bytes") => `(tactic| (refine Stop.out ?_))
theorem le40 {a b : Nat} (h : a = min 40 b) : a ≤ 40 := by omega
theorem fdivB {n : Nat} (h : n ≤ 40) : 0 ≤ Int.fdiv (n : Int) 2 ∧ Int.fdiv (n : Int) 2 ≤ 20 := by
  rw [Int.fdiv_eq_ediv_of_nonneg _ (by decide)]
  omega
theorem split0 {k : Int} (_h : k < 7) : (k == 0) = true ∨ (k == 0) = false := by cases (k == 0) <;> simp
theorem off3Split {I C D a b c : Addr} {oa ob oc : Obj} (h : LCg.Off3 I C D [(a, oa), (b, ob), (c, oc)]) : @Ne Nat a I ∧ @Ne Nat a C ∧ @Ne Nat a D ∧ @Ne Nat b I ∧ @Ne Nat b C ∧ @Ne Nat b D ∧ @Ne Nat c I ∧ @Ne Nat c C ∧ @Ne Nat c D :=
  ⟨h.1.1, h.1.2.1, h.1.2.2, h.2.1.1, h.2.1.2.1, h.2.1.2.2, h.2.2.1.1, h.2.2.1.2.1, h.2.2.1.2.2⟩
theorem ledIt {h₀ h : Heap} {L D D1 hv hd pl part dx box inner D2 : Addr} {oD oD1 ohv oh opl op od ob oi oD2 : Obj} {ce : Addr × Obj} (N : News h₀ L h [(D, oD), (D1, oD1), (hv, ohv), (hd, oh), (pl, opl), (part, op), (dx, od), (box, ob), (inner, oi), (D2, oD2), ce]) :
    News h₀ L h (ce :: (box, ob) :: (inner, oi) :: (hd, oh) :: (hv, ohv) :: (part, op) :: (dx, od) :: [(pl, opl)]) :=
  News.pick N 11 [10, 7, 8, 3, 2, 5, 6, 4]
theorem ne7 {J : Addr} {a b c d e f g : Addr × Obj} {tl : List (Addr × Obj)} (h : ∀ p ∈ a :: b :: c :: d :: e :: f :: g :: tl, @Ne Nat p.1 J) : @Ne Nat a.1 J ∧ @Ne Nat b.1 J ∧ @Ne Nat c.1 J ∧ @Ne Nat d.1 J ∧ @Ne Nat e.1 J ∧ @Ne Nat f.1 J ∧ @Ne Nat g.1 J ∧ ∀ p ∈ tl, @Ne Nat p.1 J :=
  ⟨h _ (by simp), h _ (by simp), h _ (by simp), h _ (by simp), h _ (by simp), h _ (by simp), h _ (by simp), fun p hp => h p (by simp [hp])⟩
theorem offPl {pl inner box part dx hv hd : Addr} {o : Obj} (h1 : @Ne Nat pl inner) (h2 : @Ne Nat pl box) (h3 : @Ne Nat pl part) (h4 : @Ne Nat pl dx) (h5 : @Ne Nat pl hv) (h6 : @Ne Nat pl hd) : OwnOff [(pl, o)] [inner, box, part, dx, hv, hd] := by
  intro p hp b hb
  rw [List.mem_singleton] at hp
  subst hp
  simp only [List.mem_cons, List.not_mem_nil, or_false] at hb
  rcases hb with rfl | rfl | rfl | rfl | rfl | rfl <;> assumption
theorem LInv.mono {w : World} {oc : List UInt8} {inner box part dx hv hd : Addr} {ob oi od oh ohv : Obj} {kvs : List (Int × Value)} {tl : List (Addr × Obj)} {lim : Int} {r H : Nat} {fin told : Bool} {b b' : Nat} (I : LInv w oc inner box part dx hv hd ob oi od oh ohv kvs tl lim r H fin told b) (h : b ≤ b') :
    LInv w oc inner box part dx hv hd ob oi od oh ohv kvs tl lim r H fin told b' := ⟨I.pbox, I.phere, I.have_, Nat.le_trans I.klen h, I.ptop, I.ppart, I.poff⟩
theorem wordEq {fin told b9 : Bool} {r n : Nat} {ps : List (Nat × Nat)} {kvs : List (Int × Value)} (hdn : told = true → fin = true ∧ r = n) (hb9 : b9 = true ↔ AllHv kvs (r : Nat) (n : Nat)) (S : Sep ps) (hC : ∀ k : Nat, r ≤ k → (Hv kvs (k : Nat) ↔ Cov ps k)) :
    wordS fin (decide (((r : Nat) : Int) = ((n : Nat) : Int))) told b9 = stOf fin told (allB n r ps) := by
  have e : b9 = allB n r ps := by
    rw [Bool.eq_iff_iff, hb9, all_iff S]
    constructor
    · intro h k h1 h2
      exact (hC k h1).mp (h (k : Nat) (by omega) (by omega))
    · intro h k h1 h2
      have := (hC k.toNat (by omega)).mpr (h k.toNat (by omega) (by omega))
      rwa [show ((k.toNat : Nat) : Int) = k by omega] at this
  rw [e]
  unfold stOf wordS
  cases told
  · simp
  · obtain ⟨h1, h2⟩ := hdn rfl
    rw [decide_eq_true (show ((r : Nat) : Int) = ((n : Nat) : Int) by omega)]
theorem apartW {rest tl : List (Addr × Obj)} {part dx : Addr} {o1 o2 : Obj} {adr : List Addr} (hoff : OwnOff tl adr) (h : ∀ p ∈ rest, @Ne Nat p.1 part ∧ @Ne Nat p.1 dx ∧ (p.1 ∈ adr ∨ ∀ q ∈ tl, @Ne Nat q.1 p.1)) : ∀ p ∈ rest, ∀ q ∈ (part, o1) :: (dx, o2) :: tl, p.1 ≠ q.1 := by
  intro p hp q hq
  obtain ⟨a, b, c⟩ := h p hp
  rcases List.mem_cons.mp hq with rfl | hq
  · exact a
  rcases List.mem_cons.mp hq with rfl | hq
  · exact b
  · rcases c with c | c
    · exact fun e => hoff q hq _ c e.symm
    · exact fun e => c q hq e.symm
theorem apartX {J c : Addr} {inner box part dx hv hd : Addr} {j1 j2 ob oi od oh ohv op : Obj} {tl : List (Addr × Obj)} (hJ : @Ne Nat box J ∧ @Ne Nat inner J ∧ @Ne Nat hd J ∧ @Ne Nat hv J ∧ @Ne Nat part J ∧ @Ne Nat dx J ∧ ∀ p ∈ tl, @Ne Nat p.1 J) (hC : @Ne Nat box c ∧ @Ne Nat inner c ∧ @Ne Nat hd c ∧ @Ne Nat hv c ∧ @Ne Nat part c ∧ @Ne Nat dx c ∧ ∀ p ∈ tl, @Ne Nat p.1 c) :
    ∀ p ∈ [(J, j1), (c, j2)], ∀ q ∈ (box, ob) :: (inner, oi) :: (hd, oh) :: (hv, ohv) :: (part, op) :: (dx, od) :: tl, p.1 ≠ q.1 := by
  have go : ∀ x : Addr, (@Ne Nat box x ∧ @Ne Nat inner x ∧ @Ne Nat hd x ∧ @Ne Nat hv x ∧ @Ne Nat part x ∧ @Ne Nat dx x ∧ ∀ p ∈ tl, @Ne Nat p.1 x) → ∀ q ∈ (box, ob) :: (inner, oi) :: (hd, oh) :: (hv, ohv) :: (part, op) :: (dx, od) :: tl, x ≠ q.1 := by
    rintro x ⟨a1, a2, a3, a4, a5, a6, a7⟩ q hq e
    simp only [List.mem_cons] at hq
    rcases hq with rfl | rfl | rfl | rfl | rfl | rfl | hq
    · exact a1 e.symm
    · exact a2 e.symm
    · exact a3 e.symm
    · exact a4 e.symm
    · exact a5 e.symm
    · exact a6 e.symm
    · exact a7 q hq e.symm
  intro p hp
  simp only [List.mem_cons, List.not_mem_nil, or_false] at hp
  rcases hp with rfl | rfl
  · exact go _ hJ
  · exact go _ hC
theorem offX {J c inner box part dx hv hd : Addr} {j1 j2 ob oi od oh ohv op : Obj} {tl : List (Addr × Obj)} (x : ∀ p ∈ (box, ob) :: (inner, oi) :: (hd, oh) :: (hv, ohv) :: (part, op) :: (dx, od) :: tl, ∀ q ∈ [(J, j1), (c, j2)], p.1 ≠ q.1) : (∀ p ∈ tl, @Ne Nat p.1 J) ∧ ∀ p ∈ tl, @Ne Nat p.1 c :=
  ⟨fun p hp => x p (by simp [hp]) _ (.head _), fun p hp => x p (by simp [hp]) _ (.tail _ (.head _))⟩
theorem turnFr {h₀ h₀' h : Heap} {L : Addr} {m : Str → Option Value} (T : KtsTurn (([] : List Env).filterMap (·.frame)) h₀ h₀') (F : Fr h₀' L h m) : Fr h₀ L h m :=
  ⟨F.ns, fun b o e => F.keep b o (T.other b o e (fun q => (nomatch q))), by rw [← T.size]; exact F.above⟩
theorem turnNews {h₀ h₀' h : Heap} {L : Addr} {news : List (Addr × Obj)} (T : KtsTurn (([] : List Env).filterMap (·.frame)) h₀ h₀') (N : News h₀' L h news) : News h₀ L h news := fun p hp => by
  have n := N p hp
  refine ⟨n.1, n.2.1, ?_⟩
  cases q : h₀.get? p.1 with
  | none => rfl
  | some o =>
    have e := T.other _ _ q (fun z => (nomatch z))
    rw [n.2.2] at e; cases e
theorem ne7i {J : Addr} {a b c d e f g : Addr × Obj} {tl : List (Addr × Obj)} (h1 : @Ne Nat a.1 J) (h2 : @Ne Nat b.1 J) (h3 : @Ne Nat c.1 J) (h4 : @Ne Nat d.1 J) (h5 : @Ne Nat e.1 J) (h6 : @Ne Nat f.1 J) (h7 : @Ne Nat g.1 J) (h8 : ∀ p ∈ tl, @Ne Nat p.1 J) : ∀ p ∈ a :: b :: c :: d :: e :: f :: g :: tl, @Ne Nat p.1 J := by
  intro p hp
  simp only [List.mem_cons] at hp
  rcases hp with rfl | rfl | rfl | rfl | rfl | rfl | rfl | hp
  · exact h1
  · exact h2
  · exact h3
  · exact h4
  · exact h5
  · exact h6
  · exact h7
  · exact h8 p hp
theorem apartV {hd hv : Addr} {o1 o2 : Obj} {a b c d e f : Addr × Obj} {tl : List (Addr × Obj)} {adr : List Addr} (hoff : OwnOff tl adr) (m1 : hd ∈ adr) (m2 : hv ∈ adr) (h1 : @Ne Nat a.1 hd ∧ @Ne Nat a.1 hv) (h2 : @Ne Nat b.1 hd ∧ @Ne Nat b.1 hv) (h3 : @Ne Nat c.1 hd ∧ @Ne Nat c.1 hv) (h4 : @Ne Nat d.1 hd ∧ @Ne Nat d.1 hv) (h5 : @Ne Nat e.1 hd ∧ @Ne Nat e.1 hv) (h6 : @Ne Nat f.1 hd ∧ @Ne Nat f.1 hv) :
    ∀ p ∈ a :: b :: c :: d :: e :: f :: tl, ∀ q ∈ [(hd, o1), (hv, o2)], p.1 ≠ q.1 := by
  intro p hp q hq
  have hp' : @Ne Nat p.1 hd ∧ @Ne Nat p.1 hv := by
    simp only [List.mem_cons] at hp
    rcases hp with rfl | rfl | rfl | rfl | rfl | rfl | hp
    · exact h1
    · exact h2
    · exact h3
    · exact h4
    · exact h5
    · exact h6
    · exact ⟨hoff p hp _ m1, hoff p hp _ m2⟩
  simp only [List.mem_cons, List.not_mem_nil, or_false] at hq
  rcases hq with rfl | rfl
  · exact hp'.1
  · exact hp'.2
/-- the state of the law's loop -/
structure LS where
  ob : Obj
  oi : Obj
  od : Obj
  oh : Obj
  ohv : Obj
  kvs : List (Int × Value)
  tl : List (Addr × Obj)
  lim : Int
  r : Nat
  H : Nat
  fin : Bool
  told : Bool
/-- what each way of the turn leaves: the turn's rest is walked once -/
theorem chkIn {h₀ h : Heap} {L : Addr} {m : Str → Option Value} {x y b a : Addr × Obj} {rest : List (Addr × Obj)} {inner box part dx hv hd : Addr} {I : LS → Prop} {s : Shared} {q : Flow → Shared → Prop} (_F : Fr h₀ L h m) (_N : News h₀ L h (b :: a :: x :: y :: rest))
    (H : ∀ (c : LS) h' tk, I c → Fr h₀ L h' m → News h₀ L h' (x :: y :: (box, c.ob) :: (inner, c.oi) :: (hd, c.oh) :: (hv, c.ohv) :: (part, instObj 154 dx) :: (dx, c.od) :: c.tl) → q .next { s with heap := h', toks := tk }) :
    ∀ (c : LS) h' tk, I c → Fr h₀ L h' m → News h₀ L h' (x :: y :: (box, c.ob) :: (inner, c.oi) :: (hd, c.oh) :: (hv, c.ohv) :: (part, instObj 154 dx) :: (dx, c.od) :: c.tl) → q .next { s with heap := h', toks := tk } := H
theorem neNat {a b : Addr} (h : a ≠ b) : @Ne Nat a b := h
local macro_rules | `(tactic| walk_at "call ref") => `(tactic| ((first | (with_reducible show wpAny _ _ (call (Value.ref 137) _) _ _ _) | (with_reducible show wpAny _ _ (call (Value.ref 207) _) _ _ _) | (with_reducible show wpAny _ _ (call (Value.ref 200) _) _ _ _) | (with_reducible show wpAny _ _ (call (Value.ref 193) _) _ _ _) | (with_reducible show wpAny _ _ (call (Value.ref 179) _) _ _ _) | (with_reducible show wpAny _ _ (call (Value.ref 123) _) _ _ _)); (refine Stop.out ?_)))
local macro_rules | `(tactic| walk_at "call ref") => `(tactic| (k_here; (with_reducible show wpAny _ _ (call (Value.ref 165) _) _ _ _); k_dflt (refine' boxUse (by assumption) ?a2 (by assumption) ?uB ?uF ?uX ?uT ?uN ?uk ?uh ?uu ?_; (case a2 => omega); (case uB => k_asm); (case uF => k_asm); (case uX => k_asm); (case uT => k_asm); (case uN => k_asm); (case uk => first | exact rfl | assumption); (case uh => decide); (case uu => decide); k_whole); (intro box inner ob oi h9 tk9 hB9 lt9 nb1 nb2 F9 N9); (replace nb1 := neNat (nb1 _ (List.Mem.head _))); (replace nb2 := neNat (nb2 _ (List.Mem.head _))); (dsimp only at nb1 nb2); (try k_sweep); (try dsimp only); (try k_fold)))
local macro_rules | `(tactic| walk_at "call ref") => `(tactic| (k_here; (with_reducible show wpAny _ _ (call (Value.ref 172) _) _ _ _); k_dflt (refine' takeUse (by assumption) ?a2 ?a3 ?a4 ?uB ?uF ?uX ?uT ?uN ?uk ?us ?ud ?uh ?uu ?_; (case a2 => omega); (case a3 => omega); (case a4 => omega); (case uB => k_asm); (case uF => k_asm); (case uX => k_asm); (case uT => k_asm); (case uN => k_asm); (case uk => first | exact rfl | assumption); (case us => walk_at "Sel"); (case ud => walk_at "Apart"); (case uh => decide); (case uu => decide); k_whole); (intro k9 t9 ob9 oi9 h9 tk9 kp9 kq9 hB9 F9 N9); (try k_sweep); (try dsimp only); (try k_fold)))
local macro_rules | `(tactic| walk_at "exec Return some") => `(tactic| ((with_reducible show wpAny _ _ (exec (Stmt.Return (some (Expr.BoolOp _ _ _)) _) _) _ _ _); (refine Stop.out ?_)))
local macro_rules | `(tactic| walk_at "compareOp Eq ref ref") => `(tactic| ((with_reducible show wpAny _ _ (compareOp CmpOp.Eq (Value.ref _) (Value.ref _)) _ _ _); (refine Stop.out ?_)))
local macro_rules | `(tactic| walk_at "eval Call Attribute") => `(tactic| (with_unfolding_all refine MethodCall_ ?_))
local macro_rules | `(tactic| walk_at "exec If") => `(tactic| ((with_reducible show wpAny _ _ (exec (Stmt.If _ _ (_ :: _) _) _) _ _ _); (refine Stop.out ?_)))
theorem law_holds : PySem.Challenge.rw_no0070_01.Holds := Mine.hd (by
  k_go0
  rename World => w
  rename Shared => s1
  (all_goals try k_fold)
  k_steps
  refine Stop.mk ?_
  with_reducible rename IsRange _ _ _ _ _ _ _ _ => hR
  with_reducible rename BoxOk _ _ _ => hB1
  with_reducible rename Fr _ _ _ _ => F1
  with_reducible rename News _ _ _ _ => N1
  rename Obj.data _ = Data.cell (some _) => hcell
  refine' compDraw rfl F1 N1 hB1 hR (by omega) (by omega) ?turn ?done
  case turn =>
    intro ob2 oi2 v2 I2 oI2 C2 oC2 D2 ys2 m2 h2 tk2 E2 hB2 hC2 hx2 F2 N2 off2 ne2
    clear F1 N1 hR hB1
    have q := off3Split off2
    have q1 := q.1
    have q2 := q.2.1
    have q3 := q.2.2.1
    have q4 := q.2.2.2.1
    have q5 := q.2.2.2.2.1
    have q6 := q.2.2.2.2.2.1
    have q7 := q.2.2.2.2.2.2.1
    have q8 := q.2.2.2.2.2.2.2.1
    have q9 := q.2.2.2.2.2.2.2.2
    have r1 := ne2.1
    have r2 := ne2.2.1
    have r3 := ne2.2.2
    clear q off2 ne2
    k_steps
    assumption
  case done =>
    intro D2 h2 tk2 ys2 ns2 ob2 oi2 F2 N2 e1 e2 e3 hB2 hi2 hl2 hr2
    clear F1 N1 hR hB1
    (try dsimp only)
    k_steps
    refine Stop.mk ?_
    refine' make_oct F2 N2 rfl (.head _) hi2 hl2 hr2 ?_
    intro oc h3 t3 tk3 hoc F3 N3
    clear F2 N2 hi2 hr2 hl2
    (try dsimp only)
    k_steps
    with_reducible rename IsRange _ _ _ _ _ _ _ _ => hR
    with_reducible rename Fr _ _ _ _ => F4
    with_reducible rename News _ _ _ _ => N4
    with_reducible rename BoxOk _ _ _ => hB4
    rename List.length (List.take 40 _) = min 40 _ => hC4
    have hfd := fdivB (le40 hC4)
    rename_i box inner _ _ _ _ _ _ _ _ _ _ _ _ _ _ _ _ _ _ _ _ _ _ _ _ _ _ _ _ _ _ _ lim0 _ ob oi _ _ _ _ _ _ _ _ part dx _ _ _ _ _ _ _ _ _ _ _ _ _ _ _ pl _ _ _ _ _ _ _ _ _ _ _ _ _ hd _ _ _ _ _ hv _ ohv _ _ _ _ _ _ _ oh _ _ _ _ _ _ _ _ _ _ _ _ _ _ _ _ _ _ _ _ _
    rename Obj.IsDictOf (PySem.strKind _ _) oh (strPairs _) => hD4
    rename Obj.IsDictOf (intKind _ _) ohv [] => hV4
    rename (hv == sysModules) = false => lo4
    rename _ < (16 : Int) => hk16
    have N5 := ledIt N4
    refine' rangeS (σ := LS) (fun c => _ :: (box, c.ob) :: (inner, c.oi) :: (hd, c.oh) :: (hv, c.ohv) :: (part, instObj 154 dx) :: (dx, c.od) :: c.tl) (fun _ => []) [Str.ofString "form"]
      (fun i c => LInv w oc inner box part dx hv hd c.ob c.oi c.od c.oh c.ohv c.kvs c.tl c.lim c.r c.H c.fin c.told (13 * i) ∧ ∀ p ∈ c.tl, @Ne Nat p.1 (s1.heap.objs.size + 1)) ⟨ob, oi, _, oh, ohv, [], [(pl, _)], lim0, 0, 0, false, false⟩ rfl hR ?small F4 N5 (List.forall_mem_nil _) ?h0 ?turn ?done
    case small => exact small_one (by omega) (by omega) (by omega) (by omega)
    case h0 =>
      have hof : OwnOff [(pl, listOf ([] : List Value).toArray 0)] [inner, box, part, dx, hv, hd] := offPl (by omega) (by omega) (by omega) (by omega) (by omega) (by omega)
      refine ⟨⟨hB4, hereMk hD4 rfl rfl rfl rfl, hV4, Nat.le_refl _, fun k hk => (nomatch hk), ⟨pl, [], _, [], (PartOk.intro rfl rfl rfl rfl rfl), .head _, .nil, ⟨.nil, fun _ h => (nomatch h)⟩, fun _ h => (nomatch h), fun k _ => ⟨fun h => (nomatch h), fun ⟨_, h, _⟩ => (nomatch h)⟩, offS hof (by simp), fun h => (nomatch h), Nat.zero_le _, Nat.zero_le _, fun h => (nomatch h)⟩, hof⟩, fun p hp => ?_⟩
      rw [List.mem_singleton] at hp
      subst hp
      show @Ne Nat pl _
      omega
    case turn =>
      rintro J neJ0 i t8 ⟨ob8, oi8, od8, oh8, ohv8, kvs8, tl8, lim8, r8, H8, fin8, told8⟩ u8 h8 tk8 oJ hi8 hL8 neJ F8 N8
      dsimp only at hL8 neJ F8 N8
      have jC := hL8.2
      replace hL8 := hL8.1
      have j0 : @Ne Nat (s1.heap.objs.size + 1) J := (ne7 neJ).1
      have j1 : @Ne Nat box J := (ne7 neJ).2.1
      have j2 : @Ne Nat inner J := (ne7 neJ).2.2.1
      have j3 : @Ne Nat hd J := (ne7 neJ).2.2.2.1
      have j4 : @Ne Nat hv J := (ne7 neJ).2.2.2.2.1
      have j5 : @Ne Nat part J := (ne7 neJ).2.2.2.2.2.1
      have j6 : @Ne Nat dx J := (ne7 neJ).2.2.2.2.2.2.1
      have jT := (ne7 neJ).2.2.2.2.2.2.2
      clear F4 N4 N5 hB4 hR neJ0 hD4 hV4 neJ
      have hB := hL8.pbox
      have hoff := hL8.poff
      k_steps
      refine Stop.mk ?_
      k_fold
      with_reducible rename Fr _ _ _ _ => F7
      with_reducible rename News _ _ _ _ => N7
      have chk := chkIn (inner := inner) (box := box) (part := part) (dx := dx) (hv := hv) (hd := hd) (s := s1) (q := qk) (I := fun c => LInv w oc inner box part dx hv hd c.ob c.oi c.od c.oh c.ohv c.kvs c.tl c.lim c.r c.H c.fin c.told (13 * i + 13) ∧ (∀ p ∈ c.tl, @Ne Nat p.1 J) ∧ ∀ p ∈ c.tl, @Ne Nat p.1 (s1.heap.objs.size + 1)) F7 N7 (by
        rintro ⟨ob7, oi7, od7, oh7, ohv7, kvs7, tl7, lim7, r7, H7, fin7, told7⟩ h7 tk7 hL7 F9 N9
        dsimp only at hL7 N9
        have jT7 := hL7.2.1
        have jC7 := hL7.2.2
        replace hL7 := hL7.1
        clear F7 N7 F8 N8 hB hoff
        have hH0 := hL7.phere
        have hK := hL7.have_
        have hTop := hL7.ptop
        have hoff := hL7.poff
        obtain ⟨y1, y2, y3, y4, hI⟩ := id hH0
        obtain ⟨pl8, refs8, cc8, ps8, hP, -, -, hS8, -, hC8, -, hdn, hrn, -, -⟩ := hL7.ppart
        obtain ⟨z1, z2, z3, z4, z5, z6, z7, z8, i1, i2, i3, i4, i5, i6, i7, i8, u1, u2, u4, u5, fv, nn, e8, hf⟩ := hP
        unfold partD at e8
        subst e8
        k_steps
        refine Stop.mk ?_
        have nhd : @Ne Nat hd hv := by omega
        (try rw [show ((oc.length : Nat) : Int) - ((0 : Nat) : Int) = ((oc.length : Nat) : Int) by omega])
        refine' wordUse hH0 hK lo4 hTop (Int.ofNat_le.mpr hrn) nhd ?uB ?uF ?uX ?uT ?uN rfl ?us ?ud ?uh ?uu ?_
        case uB => k_asm
        case uX => k_asm
        case uT => k_asm
        case uF => k_asm
        case uN => k_asm
        case us => walk_at "Sel"
        case ud => exact apartV hoff (by simp) (by simp) ⟨by omega, by omega⟩ ⟨by omega, by omega⟩ ⟨by omega, by omega⟩ ⟨by omega, by omega⟩ ⟨by omega, by omega⟩ ⟨by omega, by omega⟩
        case uh => first | ktr_room | decide
        case uu => first | ktr_units | decide
        intro b9 t9 h9 tk9 hb9 F9 N9
        k_sweep
        rw [wordEq hdn hb9 hS8 hC8]
        (try dsimp only)
        k_steps
        all_goals first
          | (exfalso; omega)
          | (exfalso
             rename (_ != _) = true => hq
             simp at hq)
          | (dsimp only [PairPost]
             exact pairEnd (LS.mk _ _ _ _ _ _ _ _ _ _ _ _) (by assumption) (by assumption) (by exact fun _ h => pickM 8 [2, 3, 4, 5, 0, 1, 6, 7] h) (ne7i j0 j1 j2 j3 j4 j5 j6 jT7) (List.forall_mem_nil _) (by walk_at "Same") ⟨hL7.mono (by omega), jC7⟩))
      clear_value qk
      refine wpAny_If ?_
      rename _ < (7 : Int) => hk7
      refine Or.elim (split0 hk7) (fun hk0 => ?_) (fun hk0 => ?_)
      · have hH0 := hL8.phere
        have hK := hL8.have_
        have P0 := hL8.ppart
        obtain ⟨y1, y2, y3, y4, hI⟩ := id hH0
        obtain ⟨pl8, refs8, cc8, ps8, hP, -, -, -, -, -, -, -, -, -, -⟩ := id P0
        obtain ⟨z1, z2, z3, z4, z5, z6, z7, z8, i1, i2, i3, i4, i5, i6, i7, i8, u1, u2, u4, u5, fv, nn, e8, hf⟩ := hP
        unfold partD at e8
        subst e8
        k_steps
        refine Stop.mk ?_
        with_reducible rename BoxOk _ _ _ => hB9
        with_reducible rename Obj.IsDictOf (PySem.strKind _ _) _ _ => hI9
        have npd : @Ne Nat part dx := by omega
        refine' limitUse P0 npd ?uB ?uF ?uX ?uT ?uN rfl ?us ?ud ?uh ?uu ?_
        case uB => k_asm
        case uX => k_asm
        case uT => k_asm
        case uF => k_asm
        case uN => k_asm
        case us => exact .skip (.skip (.skip (.skip (.skip (.skip .whole)))))
        case ud =>
          refine apartW hoff ?_
          refine List.forall_mem_cons.mpr ⟨⟨by omega, by omega, .inl (by simp)⟩, List.forall_mem_cons.mpr ⟨⟨by omega, by omega, .inl (by simp)⟩, List.forall_mem_cons.mpr ⟨⟨by omega, by omega, .inr jT⟩, List.forall_mem_cons.mpr ⟨⟨by omega, by omega, .inr jC⟩, List.forall_mem_cons.mpr ⟨⟨by omega, by omega, .inl (by simp)⟩, List.forall_mem_singleton.mpr ⟨by omega, by omega, .inl (by simp)⟩⟩⟩⟩⟩⟩
        case uh => first | ktr_room | decide
        case uu => first | ktr_units | decide
        intro od7 h9 tk9 P7 F9 N9
        clear npd
        have hL7 : LInv w oc inner box part dx hv hd _ _ od7 _ _ kvs8 tl8 (max lim8 _) r8 H8 fin8 told8 (13 * i) := ⟨hB9, hereMk hI9 (by first | exact maxIfZ | (split <;> omega)) rfl rfl endK, hK, hL8.klen, hL8.ptop, P7, hoff⟩
        have jT7 := jT
        have jC7 := jC
        simp only [List.cons_append, List.nil_append] at N9
        k_sweep
        (try dsimp only)
        (try k_steps)
        with_reducible rename News _ _ _ _ => N10
        first
          | exact chk (LS.mk _ _ _ _ _ _ _ _ _ _ _ _) _ _ ⟨hL7.mono (by omega), jT7, jC7⟩ (by assumption) (News.pick N10 8 [2, 3, 0, 1, 4, 5, 6, 7])
          | exact chk (LS.mk _ _ _ _ _ _ _ _ _ _ _ _) _ _ ⟨hL7.mono (by omega), jT7, jC7⟩ (by assumption) (News.pick N10 8 [3, 4, 1, 2, 0, 5, 6, 7])
          | (trace_state; exact chk (LS.mk _ _ _ _ _ _ _ _ _ _ _ _) _ _ ⟨hL7.mono (by omega), jT7, jC7⟩ (by assumption) (fun q hq => N10 q (by simp only [List.mem_cons] at hq ⊢; grind)))
      · k_steps
        · with_reducible rename BoxOk _ _ _ => hB9
          refine Stop.mk ?_
          refine' lreadUse ⟨hB9, hL8.phere, hL8.have_, hL8.klen, hL8.ptop, hL8.ppart, hL8.poff⟩ (by omega) hoc lo4 (by omega) (by omega) (by omega) (by omega) (by omega) ?uB ?uF ?uX ?uT ?uN rfl ?us ?ud ?uh ?uu ?_
          case uB => k_asm
          case uX => k_asm
          case uT => k_asm
          case uF => k_asm
          case uN => k_asm
          case us => exact .cons .head (.cons .head (.cons (.tail (.tail .head)) (.cons (.tail (.tail .head)) (.cons (.tail (.tail .head)) (.cons (.tail (.tail .head)) (.skip (.skip .whole)))))))
          case ud => exact apartX ⟨j1, j2, j3, j4, j5, j6, jT⟩ ⟨by omega, by omega, by omega, by omega, by omega, by omega, jC⟩
          case uh => first | ktr_room | decide
          case uu => first | ktr_units | decide
          intro ob7 oi7 od7 oh7 ohv7 tl7 r7 told7 h9 tk9 hL7 x9 F9 N9
          have jT7 := (offX x9).1
          have jC7 := (offX x9).2
          clear x9
          simp only [List.cons_append, List.nil_append] at N9
          k_sweep
          (try dsimp only)
          (try k_steps)
          with_reducible rename News _ _ _ _ => N10
          exact chk (LS.mk _ _ _ _ _ _ _ _ _ _ _ _) _ _ ⟨hL7.mono (by omega), jT7, jC7⟩ (by assumption) N10
        · with_reducible rename BoxOk _ _ _ => hB9
          refine Stop.mk ?_
          refine' pieceUse ⟨hB9, hL8.phere, hL8.have_, hL8.klen, hL8.ptop, hL8.ppart, hL8.poff⟩ (by omega) hoc lo4 (by omega) (by omega) (by omega) (by omega) (by omega) ?uB ?uF ?uX ?uT ?uD ?uN rfl ?us ?ud ?uh ?uu ?_
          case uB => k_asm
          case uX => k_asm
          case uT => k_asm
          case uD => exact ktsDicts_nil
          case uF => k_asm
          case uN => k_asm
          case us => exact .cons .head (.cons .head (.cons (.tail (.tail .head)) (.cons (.tail (.tail .head)) (.cons (.tail (.tail .head)) (.cons (.tail (.tail .head)) (.skip (.skip .whole)))))))
          case ud => exact apartX ⟨j1, j2, j3, j4, j5, j6, jT⟩ ⟨by omega, by omega, by omega, by omega, by omega, by omega, jC⟩
          case uh => first | ktr_room | decide
          case uu => first | ktr_units | decide
          intro g9 ob7 oi7 od7 oh7 ohv7 kvs7 tl7 H7 fin7 h9 tk9 hL7 x9 T9 F9 N9
          have jT7 := (offX x9).1
          have jC7 := (offX x9).2
          clear x9
          replace F9 := turnFr T9 F9
          replace N9 := turnNews T9 N9
          clear T9
          simp only [List.cons_append, List.nil_append] at N9
          k_sweep
          (try dsimp only)
          (try k_steps)
          with_reducible rename News _ _ _ _ => N10
          exact chk (LS.mk _ _ _ _ _ _ _ _ _ _ _ _) _ _ ⟨hL7.mono (by omega), jT7, jC7⟩ (by assumption) N10
    case done =>
      rintro ⟨ob8, oi8, od8, oh8, ohv8, kvs8, tl8, lim8, r8, H8, fin8, told8⟩ u8 h8 tk8 hL8 F8 N8
      dsimp only at hL8 F8 N8
      have jC := hL8.2
      replace hL8 := hL8.1
      clear F4 N4 N5 hB4 hR hD4 hV4
      have hH0 := hL8.phere
      have P0 := hL8.ppart
      have hoff := hL8.poff
      obtain ⟨y1, y2, y3, y4, hI⟩ := id hH0
      obtain ⟨pl8, refs8, cc8, ps8, hP, -, -, -, -, -, -, -, hrn, -, -⟩ := id P0
      obtain ⟨z1, z2, z3, z4, z5, z6, z7, z8, i1, i2, i3, i4, i5, i6, i7, i8, u1, u2, u4, u5, fv, nn, e8, hf⟩ := hP
      unfold partD at e8
      subst e8
      k_steps
      refine Stop.mk ?_
      have npd : @Ne Nat part dx := by omega
      refine' limitUse P0 npd ?uB ?uF ?uX ?uT ?uN rfl ?us ?ud ?uh ?uu ?_
      case uB => k_asm
      case uX => k_asm
      case uT => k_asm
      case uF => k_asm
      case uN => k_asm
      case us => exact .skip (.skip (.skip (.skip (.skip .whole))))
      case ud =>
        refine apartW hoff ?_
        refine List.forall_mem_cons.mpr ⟨⟨by omega, by omega, .inr jC⟩, List.forall_mem_cons.mpr ⟨⟨by omega, by omega, .inl (by simp)⟩, List.forall_mem_cons.mpr ⟨⟨by omega, by omega, .inl (by simp)⟩, List.forall_mem_cons.mpr ⟨⟨by omega, by omega, .inl (by simp)⟩, List.forall_mem_singleton.mpr ⟨by omega, by omega, .inl (by simp)⟩⟩⟩⟩⟩
      case uh => first | ktr_room | decide
      case uu => first | ktr_units | decide
      intro od7 h9 tk9 P7 F9 N9
      clear npd
      simp only [List.cons_append, List.nil_append] at N9
      k_sweep
      (try dsimp only)
      k_steps
      refine Stop.mk ?_
      refine' givenUse (o := r8) (e := oc.length) (isEnd := true) P7 (show @Ne Nat part dx by omega) hoc hrn (Nat.le_refl _) (fun _ => rfl) (by omega) rfl ?ca ?uB ?uF ?uX ?uT ?uN rfl ?us ?ud ?uh ?uu ?_
      case ca => congr 1 <;> omega
      case uB => k_asm
      case uX => k_asm
      case uT => k_asm
      case uF => k_asm
      case uN => k_asm
      case us => exact .skip (.skip (.skip (.skip (.skip .whole))))
      case ud =>
        refine apartW hoff ?_
        refine List.forall_mem_cons.mpr ⟨⟨by omega, by omega, .inr jC⟩, List.forall_mem_cons.mpr ⟨⟨by omega, by omega, .inl (by simp)⟩, List.forall_mem_cons.mpr ⟨⟨by omega, by omega, .inl (by simp)⟩, List.forall_mem_cons.mpr ⟨⟨by omega, by omega, .inl (by simp)⟩, List.forall_mem_singleton.mpr ⟨by omega, by omega, .inl (by simp)⟩⟩⟩⟩⟩
      case uh => first | ktr_room | decide
      case uu => first | ktr_units | decide
      intro tkv od9 tl9 h9 tk9 P9 x9 F9 N9
      have hH8 := P7.hH
      simp only [List.cons_append, List.nil_append] at N9
      k_sweep
      (try dsimp only)
      have hne1 : ¬ ((((oc.length - H8 : Nat) : Nat) : Int) ≠ ((oc.length : Nat) : Int) - ((0 : Nat) : Int) - ((H8 : Nat) : Int)) := by omega
      k_steps
      refine Stop.mk ?_
      have Pq90 := P9
      obtain ⟨plq9, refsq9, ccq9, psq9, hPq9, -, -, -, -, -, -, -, -, -, -⟩ := Pq90
      obtain ⟨z1q9, z2q9, z3q9, z4q9, z5q9, z6q9, z7q9, z8q9, i1q9, i2q9, i3q9, i4q9, i5q9, i6q9, i7q9, i8q9, u1q9, u2q9, u4q9, u5q9, fvq9, nnq9, eq9, hfq9⟩ := hPq9
      unfold partD at eq9
      subst eq9
      refine wpAny_Return_some ?_
      refine BoolOp_and ?_
      refine wpAny_Compare1 ?_
      clear hne1
      k_steps
      refine Stop.mk ?_
      have npd : @Ne Nat part dx := by omega
      refine' readEndUse (most := 100) P9 npd hoc (Bool.or_true _) (fun r' lo hi st => readAll (C := fun k : Nat => Hv kvs8 (k : Nat)) (m := 100) lo hi (by omega) st) ?uB ?uF ?uX ?uT ?uN rfl ?us ?ud ?uh ?uu ?_
      case uB => k_asm
      case uX => k_asm
      case uT => k_asm
      case uF => k_asm
      case uN => k_asm
      case us => exact .skip (.skip (.skip (.skip (.skip .whole))))
      case ud => exact fun p hp q hq e => x9 q hq p hp e.symm
      case uh => first | ktr_room | decide
      case uu => first | ktr_units | decide
      intro T7 tf7 n7 od10 tl10 h9 tk9 P10 x10 F10 N10
      clear x9 P9
      simp only [List.cons_append, List.nil_append] at N10
      have Pq100 := P10
      obtain ⟨plq10, refsq10, ccq10, psq10, hPq10, -, -, -, -, -, -, -, -, -, -⟩ := Pq100
      obtain ⟨z1q10, z2q10, z3q10, z4q10, z5q10, z6q10, z7q10, z8q10, i1q10, i2q10, i3q10, i4q10, i5q10, i6q10, i7q10, i8q10, u1q10, u2q10, u4q10, u5q10, fvq10, nnq10, eq10, hfq10⟩ := hPq10
      unfold partD at eq10
      subst eq10
      k_sweep
      (try dsimp only)
      k_steps
      refine Stop.mk ?_
      with_reducible rename News _ _ _ _ => N11
      refine' tupEq N11 ?ta ?tb ?tx ?tu ?_
      case ta => k_mem
      case tb => k_mem
      case tx => exact segE (by omega) (by omega)
      case tu => first | ke_room | decide
      replace N11 := dropDT N11
      refine wpAny_truthy_bool ?_
      rw [if_pos rfl]
      refine BoolOp_one ?_
      refine wpAny_Compare1 ?_
      (try dsimp only)
      k_steps
      refine Stop.mk ?_
      refine' readEndUse (most := 9) P10 npd hoc rfl (fun r' lo hi _ => Nat.le_antisymm hi lo) ?uB ?uF ?uX ?uT ?uN rfl ?us ?ud ?uh ?uu ?_
      case uB => k_asm
      case uX => k_asm
      case uT => k_asm
      case uF => k_asm
      case uN => k_asm
      case us => exact .skip (.skip (.skip (.skip (.skip .whole))))
      case ud => exact fun p hp q hq e => x10 q (List.Mem.tail _ hq) p hp e.symm
      case uh => first | ktr_room | decide
      case uu => first | ktr_units | decide
      intro T5 tf5 n5 od12 tl12 h9 tk9 P12 x12 F12 N12
      clear x10 x12 P10 P12
      simp only [List.cons_append, List.nil_append] at N12
      k_sweep
      (try dsimp only)
      k_steps
      refine Stop.mk ?_
      with_reducible rename News _ _ _ _ => N13
      refine' tupEq N13 ?ta ?tb ?tx ?tu ?_
      case ta => k_mem
      case tb => k_mem
      case tx => exact segNil _ _
      case tu => first | ke_room | decide
      k_steps)
end Mine
end
end
end
end
end
theorem PySem.Challenge.cw_no0070_01_holds : PySem.Challenge.rw_no0070_01.Holds := by
  exact Mine.law_holds
