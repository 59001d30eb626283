import PyProof.Rows.All
import Wide.All
import OpenK.AllK
import Wide.FinOn
import PySem.Challenge.RW_nt0343_01
open PySem PySem.W PyProof.Rows
set_option Elab.async false
set_option rowWalk.seconds 0
namespace Mine
set_option maxRecDepth 100000
set_option maxHeartbeats 8000000
open_top hd for PySem.Challenge.rw_nt0343_01
/-- days from 1970-01-01 to the first of year y -/
def dfy (y : Int) : Int := 365 * (y - 1970) + (y - 1969).fdiv 4 - (y - 1901).fdiv 100 + (y - 1601).fdiv 400
def leap (y : Int) : Bool := y.fmod 4 == 0 && (y.fmod 100 != 0 || y.fmod 400 == 0)
def long (y : Int) : Int := if leap y then 366 else 365
def yearOf (d : Int) : Int :=
  let y := 1970 + (d * 400).fdiv 146097
  if dfy y > d then y - 1 else if dfy (y + 1) ≤ d then y + 1 else y
def aheadL : List Int := [0, 31, 59, 90, 120, 151, 181, 212, 243, 273, 304, 334, 365]
def ahead (m : Int) (l : Bool) : Int := aheadL.getD m.toNat 0 + (if l = true ∧ m > 1 then 1 else 0)
theorem leap1 {v : Int} (h4 : v.fmod 4 = 0) (h : ¬ v.fmod 100 = 0) : (v.fmod 100 != 0) = leap v := by simp [leap, h4, h]
theorem leap2 {v : Int} (h4 : v.fmod 4 = 0) (h : v.fmod 100 = 0) : (v.fmod 400 == 0) = leap v := by simp [leap, h4, h]
theorem leap3 {v : Int} (h4 : ¬ v.fmod 4 = 0) : (v.fmod 4 == 0) = leap v := by simp [leap, h4]
theorem step4 (y : Int) : (y + 1 - 1969) / 4 = (y - 1969) / 4 + if y % 4 = 0 then 1 else 0 := by split <;> omega
theorem step100 (y : Int) : (y + 1 - 1901) / 100 = (y - 1901) / 100 + if y % 100 = 0 then 1 else 0 := by split <;> omega
theorem step400 (y : Int) : (y + 1 - 1601) / 400 = (y - 1601) / 400 + if y % 400 = 0 then 1 else 0 := by split <;> omega
theorem dfy_step (y : Int) : dfy (y + 1) = dfy y + long y := by
  have h1 : y % 400 = 0 → y % 100 = 0 := by omega
  have h2 : y % 100 = 0 → y % 4 = 0 := by omega
  unfold dfy long leap
  have a1 := Int.fdiv_eq_ediv_of_nonneg (y - 1969) (b := 4) (by decide)
  have a2 := Int.fdiv_eq_ediv_of_nonneg (y - 1901) (b := 100) (by decide)
  have a3 := Int.fdiv_eq_ediv_of_nonneg (y - 1601) (b := 400) (by decide)
  have b1 := Int.fdiv_eq_ediv_of_nonneg (y + 1 - 1969) (b := 4) (by decide)
  have b2 := Int.fdiv_eq_ediv_of_nonneg (y + 1 - 1901) (b := 100) (by decide)
  have b3 := Int.fdiv_eq_ediv_of_nonneg (y + 1 - 1601) (b := 400) (by decide)
  have c1 := Int.fmod_eq_emod_of_nonneg y (b := 4) (by decide)
  have c2 := Int.fmod_eq_emod_of_nonneg y (b := 100) (by decide)
  have c3 := Int.fmod_eq_emod_of_nonneg y (b := 400) (by decide)
  rw [a1, a2, a3, b1, b2, b3, c1, c2, c3, step4, step100, step400]
  clear a1 a2 a3 b1 b2 b3 c1 c2 c3
  generalize (y - 1969) / 4 = p
  generalize (y - 1901) / 100 = q
  generalize (y - 1601) / 400 = r
  by_cases h400 : y % 400 = 0
  · have h100 := h1 h400
    have h4 := h2 h100
    simp only [h400, h100, h4, if_true]
    simp
    omega
  · by_cases h100 : y % 100 = 0
    · have h4 := h2 h100
      simp [h400, h100, h4]
      omega
    · by_cases h4 : y % 4 = 0
      · simp [h400, h100, h4]
        omega
      · simp [h400, h100, h4]
        omega
theorem long_cases (y : Int) : long y = 365 ∨ long y = 366 := by
  unfold long; split <;> simp
theorem yearOf_spec (d : Int) : dfy (yearOf d) ≤ d ∧ d < dfy (yearOf d + 1) := by
  unfold yearOf
  have e1 := Int.fdiv_eq_ediv_of_nonneg (d * 400) (b := 146097) (by decide)
  rw [e1]
  generalize hy : 1970 + d * 400 / 146097 = y
  dsimp only
  have hb : dfy (y - 1) ≤ d ∧ d < dfy (y + 2) := by
    unfold dfy
    have a1 := Int.fdiv_eq_ediv_of_nonneg (y - 1 - 1969) (b := 4) (by decide)
    have a2 := Int.fdiv_eq_ediv_of_nonneg (y - 1 - 1901) (b := 100) (by decide)
    have a3 := Int.fdiv_eq_ediv_of_nonneg (y - 1 - 1601) (b := 400) (by decide)
    have b1 := Int.fdiv_eq_ediv_of_nonneg (y + 2 - 1969) (b := 4) (by decide)
    have b2 := Int.fdiv_eq_ediv_of_nonneg (y + 2 - 1901) (b := 100) (by decide)
    have b3 := Int.fdiv_eq_ediv_of_nonneg (y + 2 - 1601) (b := 400) (by decide)
    rw [a1, a2, a3, b1, b2, b3]
    omega
  have s1 := dfy_step (y - 1)
  have s2 := dfy_step (y + 1)
  rw [show y - 1 + 1 = y by omega] at s1
  rw [show y + 1 + 1 = y + 2 by omega] at s2
  split
  · rw [show y - 1 + 1 = y by omega]; omega
  · split
    · rw [show y + 1 + 1 = y + 2 by omega]; omega
    · omega
theorem dfy_mono {a b : Int} (h : a ≤ b) : dfy a ≤ dfy b := by
  obtain ⟨n, rfl⟩ : ∃ n : Nat, b = a + n := ⟨(b - a).toNat, by omega⟩
  clear h
  induction n with
  | zero => simp
  | succ n ih =>
    have := dfy_step (a + n)
    have := long_cases (a + n)
    rw [show a + ((n + 1 : Nat) : Int) = a + n + 1 by omega]
    omega
theorem yearOf_uniq {d y : Int} (h1 : dfy y ≤ d) (h2 : d < dfy (y + 1)) : y = yearOf d := by
  have ⟨s1, s2⟩ := yearOf_spec d
  rcases Int.lt_trichotomy y (yearOf d) with h | h | h
  · have := dfy_mono (show y + 1 ≤ yearOf d by omega); omega
  · exact h
  · have := dfy_mono (show yearOf d + 1 ≤ y by omega); omega
theorem long1 {v : Int} (h : v.fmod 400 = 0) : 366 = long v := by
  have c1 := Int.fmod_eq_emod_of_nonneg v (b := 4) (by decide)
  have c3 := Int.fmod_eq_emod_of_nonneg v (b := 400) (by decide)
  have h4 : v.fmod 4 = 0 := by omega
  simp [long, leap, h, h4]
theorem long2 {v : Int} (h : ¬ v.fmod 400 = 0) (h1 : v.fmod 100 = 0) : 365 = long v := by simp [long, leap, h, h1]
theorem long3 {v : Int} (h : ¬ v.fmod 4 = 0) : 365 = long v := by simp [long, leap, h]
theorem long4 {v : Int} (h1 : ¬ v.fmod 100 = 0) (h : v.fmod 4 = 0) : 366 = long v := by simp [long, leap, h, h1]
theorem dfy_cycle (c : Int) : dfy (1970 + 400 * c) = c * 146097 := by
  unfold dfy
  rw [Int.fdiv_eq_ediv_of_nonneg _ (by decide), Int.fdiv_eq_ediv_of_nonneg _ (by decide), Int.fdiv_eq_ediv_of_nonneg _ (by decide)]
  omega
theorem first0 (year : Int) : (year - 1970).fdiv 400 * 146097 = dfy (1970 + 400 * (year - 1970).fdiv 400) ∧ 1970 + 400 * (year - 1970).fdiv 400 ≤ year := by
  rw [dfy_cycle, Int.fdiv_eq_ediv_of_nonneg _ (by decide)]
  omega
theorem first1 {f p y : Int} (h : f = dfy p) (hl : p < y) : f + long p = dfy (p + 1) ∧ p + 1 ≤ y := by
  rw [dfy_step, h]; omega
theorem first2 {f p y : Int} (h : f = dfy p) (hl : p ≤ y) (hn : ¬ p < y) : f = dfy y := by
  rw [h, show p = y by omega]
theorem yod1 {y d : Int} (h : d < dfy y) : (dfy (y - 1) - d).toNat < (dfy y - d).toNat := by
  have s1 := dfy_step (y - 1)
  have s2 := long_cases (y - 1)
  rw [show y - 1 + 1 = y by omega] at s1
  omega
theorem yod2 {y d : Int} (h : dfy (y + 1) ≤ d) : (d - dfy (y + 1)).toNat < (d - dfy y).toNat := by
  have s1 := dfy_step y
  have s2 := long_cases y
  omega
theorem ahead1 {k : Int} {l : Bool} (h : l = true) (h1 : 1 < k) : aheadL.getD k.toNat 0 + 1 = ahead k l := by simp [ahead, h, h1]
theorem ahead2 {k : Int} {l : Bool} (h1 : ¬ 1 < k) : aheadL.getD k.toNat 0 + 0 = ahead k l := by simp [ahead, h1]
theorem ahead3 {k : Int} {l : Bool} (h : l = false) : aheadL.getD k.toNat 0 + 0 = ahead k l := by simp [ahead, h]
theorem ahead0 (l : Bool) : ahead 0 l = 0 := by simp [ahead, aheadL]
theorem ahead12 (l : Bool) : ahead 12 l = if l then 366 else 365 := by cases l <;> simp [ahead, aheadL]
/-- the month of a day of the year -/
def monthIn (past : Int) (l : Bool) : Int :=
  if past < ahead 1 l then 0 else if past < ahead 2 l then 1 else if past < ahead 3 l then 2 else if past < ahead 4 l then 3
  else if past < ahead 5 l then 4 else if past < ahead 6 l then 5 else if past < ahead 7 l then 6 else if past < ahead 8 l then 7
  else if past < ahead 9 l then 8 else if past < ahead 10 l then 9 else if past < ahead 11 l then 10 else 11
theorem month_fin : ∀ n : Fin 12, (n.val : Int) = 0 ∨ (n.val : Int) = 1 ∨ (n.val : Int) = 2 ∨ (n.val : Int) = 3 ∨ (n.val : Int) = 4 ∨ (n.val : Int) = 5 ∨ (n.val : Int) = 6 ∨ (n.val : Int) = 7 ∨ (n.val : Int) = 8 ∨ (n.val : Int) = 9 ∨ (n.val : Int) = 10 ∨ (n.val : Int) = 11 := by decide
theorem month_cases {k : Int} (h0 : 0 ≤ k) (h1 : k ≤ 11) : k = 0 ∨ k = 1 ∨ k = 2 ∨ k = 3 ∨ k = 4 ∨ k = 5 ∨ k = 6 ∨ k = 7 ∨ k = 8 ∨ k = 9 ∨ k = 10 ∨ k = 11 := by
  have h := month_fin ⟨k.toNat, by omega⟩
  dsimp only at h
  rw [Int.toNat_of_nonneg h0] at h
  exact h
theorem ahead_all {l : Bool} {k : Int} (h0 : 0 ≤ k) (h1 : k ≤ 11) : ahead k l < ahead (k + 1) l := by
  cases l <;> rcases month_cases h0 h1 with h | h | h | h | h | h | h | h | h | h | h | h <;> subst h <;> decide
theorem ahead_mono {l : Bool} {a b : Int} (h0 : 0 ≤ a) (h : a ≤ b) (h1 : b ≤ 12) : ahead a l ≤ ahead b l := by
  obtain ⟨n, rfl⟩ : ∃ n : Nat, b = a + n := ⟨(b - a).toNat, by omega⟩
  clear h
  induction n with
  | zero => simp
  | succ n ih =>
    have h2 := @ahead_all l (a + n) (by omega) (by omega)
    have h3 := ih (by omega)
    rw [show a + ((n + 1 : Nat) : Int) = a + n + 1 by omega]
    omega
theorem monthIn_spec {past : Int} {l : Bool} (h0 : 0 ≤ past) (h1 : past < ahead 12 l) :
    0 ≤ monthIn past l ∧ monthIn past l ≤ 11 ∧ ahead (monthIn past l) l ≤ past ∧ past < ahead (monthIn past l + 1) l := by
  unfold monthIn
  split
  · rename_i h; exact ⟨by decide, by decide, by rw [ahead0]; exact h0, h⟩
  split
  · rename_i g h; exact ⟨by decide, by decide, Int.not_lt.mp g, h⟩
  split
  · rename_i g h; exact ⟨by decide, by decide, Int.not_lt.mp g, h⟩
  split
  · rename_i g h; exact ⟨by decide, by decide, Int.not_lt.mp g, h⟩
  split
  · rename_i g h; exact ⟨by decide, by decide, Int.not_lt.mp g, h⟩
  split
  · rename_i g h; exact ⟨by decide, by decide, Int.not_lt.mp g, h⟩
  split
  · rename_i g h; exact ⟨by decide, by decide, Int.not_lt.mp g, h⟩
  split
  · rename_i g h; exact ⟨by decide, by decide, Int.not_lt.mp g, h⟩
  split
  · rename_i g h; exact ⟨by decide, by decide, Int.not_lt.mp g, h⟩
  split
  · rename_i g h; exact ⟨by decide, by decide, Int.not_lt.mp g, h⟩
  split
  · rename_i g h; exact ⟨by decide, by decide, Int.not_lt.mp g, h⟩
  · rename_i g; exact ⟨by decide, by decide, Int.not_lt.mp g, h1⟩
theorem monthIn_uniq {past k : Int} {l : Bool} (h0 : 0 ≤ k) (h1 : k ≤ 11) (ha : ahead k l ≤ past) (hb : past < ahead (k + 1) l) : k = monthIn past l := by
  have e0 := @ahead_mono l 0 k (by decide) h0 (by omega)
  have e1 := @ahead_mono l (k + 1) 12 (by omega) (by omega) (by decide)
  rw [ahead0] at e0
  have ⟨s0, s1, s2, s3⟩ := @monthIn_spec past l (by omega) (by omega)
  rcases Int.lt_trichotomy k (monthIn past l) with h | h | h
  · have := @ahead_mono l (k + 1) (monthIn past l) (by omega) (by omega) (by omega); omega
  · exact h
  · have := @ahead_mono l (monthIn past l + 1) k (by omega) (by omega) (by omega); omega
theorem past_lt (d : Int) : 0 ≤ d - dfy (yearOf d) ∧ d - dfy (yearOf d) < ahead 12 (leap (yearOf d)) := by
  have ⟨s1, s2⟩ := yearOf_spec d
  rw [dfy_step] at s2
  rw [ahead12]
  unfold long at s2
  omega
def monthOf (d : Int) : Int := monthIn (d - dfy (yearOf d)) (leap (yearOf d))
def dateOf (d : Int) : Int := d - dfy (yearOf d) - ahead (monthOf d) (leap (yearOf d)) + 1
theorem month0 (d : Int) : (0 : Int) ≤ 0 ∧ (0 : Int) ≤ 11 ∧ ahead 0 (leap (yearOf d)) ≤ d - dfy (yearOf d) := by
  rw [ahead0]; exact ⟨by decide, by decide, (past_lt d).1⟩
theorem month1 {k : Int} (d : Int) (h0 : 0 ≤ k) (h1 : k ≤ 11) (h : ahead (k + 1) (leap (yearOf d)) ≤ d - dfy (yearOf d)) :
    0 ≤ k + 1 ∧ k + 1 ≤ 11 ∧ ahead (k + 1) (leap (yearOf d)) ≤ d - dfy (yearOf d) := by
  refine ⟨by omega, ?_, h⟩
  have h2 := (past_lt d).2
  by_cases h3 : k = 11
  · subst h3
    rw [show (11 : Int) + 1 = 12 by decide] at h
    omega
  · omega
theorem month_end {k : Int} {d : Int} (h0 : 0 ≤ k) (h1 : k ≤ 11) (ha : ahead k (leap (yearOf d)) ≤ d - dfy (yearOf d)) (hb : ¬ ahead (k + 1) (leap (yearOf d)) ≤ d - dfy (yearOf d)) : k = monthOf d :=
  monthIn_uniq h0 h1 ha (by omega)

theorem topListAny_K {prog : Program} {w : World} {A : Around} {E : Value → Shared → Prop} {s : Shared} {K : Frag} {h₀ : Heap} {L a : Addr} {m : Str → Option Value} {n : Nat} {value slice : PySem.Expr} {l : List Value} {ns : List Int} {dd : Option Addr} {sl : Array (Option Value)} {k : Int} {u : Tok} {Q : Value → Shared → Prop} (F : Fr h₀ L s.heap m) (X₀ : K.In h₀)
    (hl : K.lookup a = some ⟨.type "list", dd, .seq l.toArray n, sl⟩) (hi : IntsAre l ns) (h0 : 0 ≤ k) (h1 : k < ns.length) (hfit : k < 2 ^ 63) (h : ∀ t, Q (.int (ns.getD k.toNat 0) t) s)
    (hs : subscripted slice false (.ref a) (.int k u) = operate [.ref a, .int k u] (getItem (.ref a) (.int k u)) := by with_unfolding_all rfl) :
    wpAny (model prog w) A (subscriptTail value slice (.ref a) (.int k u)) Q E s := by
  obtain ⟨t, hx⟩ := hi.get k.toNat _ (ints_getD h0 h1)
  exact topList_K F X₀ hl h0 hfit hx (h t) hs

theorem monthOf_lo (d : Int) : 0 ≤ monthOf d := (monthIn_spec (past_lt d).1 (past_lt d).2).1
theorem monthOf_hi (d : Int) : monthOf d ≤ 12 := by have := (monthIn_spec (past_lt d).1 (past_lt d).2).2.1; unfold monthOf; omega
theorem fm12_lo (m : Int) : 0 ≤ m.fmod 12 := Int.fmod_nonneg_of_pos _ (by decide)
theorem fm12_hi (m : Int) : m.fmod 12 ≤ 12 := Int.le_of_lt (Int.fmod_lt_of_pos _ (by decide))
def dayFrom (y m d : Int) : Int := dfy (y + m.fdiv 12) + ahead (m.fmod 12) (leap (y + m.fdiv 12)) + d - 1

inductive OptAre : List Value → List (Option Int) → Prop where
  | nil : OptAre [] []
  | none {vs os} : OptAre vs os → OptAre (.none :: vs) (none :: os)
  | int {vs os} {i t} : OptAre vs os → OptAre (.int i t :: vs) (some i :: os)
def optP : Option Int → PyData
  | none => .none
  | some i => .int i
theorem opt_reads {h : Heap} {vs : List Value} {os : List (Option Int)} (o : OptAre vs os) : ReadsAll h vs (os.map optP) [] := by
  induction o with
  | nil => exact .nil
  | none _ ih => exact .cons (as := []) (bs := []) .none ih
  | int _ ih => exact .cons (as := []) (bs := []) (.int _ _) ih
theorem opt_lay : ∀ os : List (Option Int), PyData.canLayAll0 (os.map optP) = true ∧ PyData.depthAll (os.map optP) ≤ 1
  | [] => by simp [PyData.canLayAll0, PyData.depthAll]
  | none :: os => by have := opt_lay os; simp_all [PyData.canLayAll0, PyData.depthAll, optP, PyData.canLay0, PyData.depth]
  | some i :: os => by have := opt_lay os; simp_all [PyData.canLayAll0, PyData.depthAll, optP, PyData.canLay0, PyData.depth]
theorem opt_none : ∀ os : List (Option Int), ((os.map optP).any fun y => PyData.eqv y .none) = os.any (·.isNone)
  | [] => rfl
  | none :: os => by have := opt_none os; simp_all [optP, PyData.eqv]
  | some i :: os => by have := opt_none os; simp_all [optP, PyData.eqv]
theorem none_in_tuple {prog : Program} {w : World} {A : Around} {E : Value → Shared → Prop} {s : Shared} {h₀ : Heap} {L a : Addr} {news : List (Addr × Obj)} {items : List Value} {n : Nat} {dd : Option Addr} {sl : Array (Option Value)} {os : List (Option Int)} {Q : Value → Shared → Prop}
    (N : News h₀ L s.heap news) (hm : (a, { cls := .type "tuple", dict := dd, data := .seq items.toArray n, slots := sl }) ∈ news) (ho : OptAre items os) (hu : A.units + 64 < cLine)
    (h : Q (.bool (os.any (·.isNone))) s) : wpAny (model prog w) A (compareOp .In .none (.ref a)) Q E s := by
  have ra := @opt_reads s.heap _ _ ho
  have l := opt_lay os
  refine SeqAt.in_tuple_reads (reads_tuple_at (N.get hm) rfl rfl (by simpa using ra)) (.none) l.1 rfl ?_ (by rw [opt_none]; exact h)
  have := l.2
  omega
theorem slice_h {prog : Program} {w : World} {A : Around} {E : Value → Shared → Prop} {h₀ h : Heap} {L l : Addr} {m : Str → Option Value} {news : List (Addr × Obj)} {value slice : PySem.Expr} {vs : List Value} {ns ms : List Int} {vl vu : Value} {lo hi : Option Int} {c : Nat} {Q : Value → Shared → Prop} {gens drawn toks os}
    (F : Fr h₀ L h m) (N : News h₀ L h news) (hl : h.IsList l vs.toArray) (pl : IsPart vl lo) (pu : IsPart vu hi) (hi' : IntsAre vs ns) (hm : IntsAre (slicePick vs.toArray lo hi none).toList ms) (hc : ms.length = c)
    (hh : ∀ D ws h', Fr h₀ L h' m → News h₀ L h' ((D, listOf (List.toArray ws) 0) :: news) → (∀ p ∈ news, p.1 < D) → IntsAre ws ms → ms.length = c → ms.length ≤ ns.length → Q (.ref D) ⟨h', gens, drawn, toks, os⟩)
    (hs : subscripted slice false (.ref l) (.ref h.objs.size) = operate [.ref h.objs.size, .ref l] (getItem (.ref l) (.ref h.objs.size))) (hz : vs.toArray.size ≤ sizeLine) :
    wpAny (model prog w) A (subscriptTail value slice (.ref l) (.ref h.objs.size)) Q E ⟨h.push { cls := .type "slice", data := .fields #[vl, vu, .none] }, gens, drawn, toks, os⟩ :=
  kba_turn (value' := PySem.Expr.Name (PySem.Str.ofString "_") ⟨0, 0, 0, 0⟩) (fun _ => rfl) (kmk_slice_ints (s := ⟨h, gens, drawn, toks, os⟩) F N hl pl pu hi' hm hc hh hs (fun _ => rfl) hz)

theorem draw_no {ns : List Int} (h : decide (ns = []) = false) (h' : (ns.length : Int) = 0) : False := by
  have h1 : ns.length = 0 := by omega
  have h2 := List.eq_nil_of_length_eq_zero h1
  simp [h2] at h
abbrev poolObj (x : Int) (tx : Tok) (sa : Addr) (n : Int) (tn : Tok) (k : Nat) : Obj := listOf [Value.int x tx, Value.ref sa, Value.int n tn].toArray k
section
variable {h₀ h' : Heap} {L l' pa sa : Addr} {o : Obj} {x' n z many : Int} {t t1 t2 : Tok} {tk' k k2 : Nat} {vs : List Value} {rest : List (Addr × Obj)} {m : Str → Option Value} {s : Shared} {Q : Value → Shared → Prop}
theorem draw_ret 
    (hret : ∀ (x' r : Int) (t t1 t2 : Tok) (h' : Heap) (tk' : Nat), 0 ≤ r → r < many → Fr h₀ L h' m → News h₀ L h' ((pa, poolObj x' t1 sa (n + 1) t2 k) :: (sa, listOf vs.toArray k2) :: rest) → Q (.int r t) { s with heap := h', toks := tk' })
    (hm : 0 < many) (F : Fr h₀ L h' m) (N : News h₀ L h' ((l', o) :: (pa, poolObj x' t1 sa (n + 1) t2 k) :: (sa, listOf vs.toArray k2) :: rest)) : Q (.int (z.fmod many) t) { s with heap := h', toks := tk' } :=
  hret _ _ _ _ _ _ _ (Int.fmod_nonneg_of_pos _ hm) (Int.fmod_lt_of_pos _ hm) F (cb_drop N fun p hp => List.Mem.tail _ hp)
theorem draw_ret2
    (hret : ∀ (x' r : Int) (t t1 t2 : Tok) (h' : Heap) (tk' : Nat), 0 ≤ r → r < many → Fr h₀ L h' m → News h₀ L h' ((pa, poolObj x' t1 sa (n + 1) t2 k) :: (sa, listOf vs.toArray k2) :: rest) → Q (.int r t) { s with heap := h', toks := tk' })
    (hm : 0 < many) (F : Fr h₀ L h' m) (N : News h₀ L h' ((pa, poolObj x' t1 sa (n + 1) t2 k) :: (sa, listOf vs.toArray k2) :: rest)) : Q (.int (z.fmod many) t) { s with heap := h', toks := tk' } :=
  hret _ _ _ _ _ _ _ (Int.fmod_nonneg_of_pos _ hm) (Int.fmod_lt_of_pos _ hm) F N
end

theorem len_pos {ns : List Int} (h : decide (ns = []) = false) : 0 < (ns.length : Int) := by
  have : ns ≠ [] := by simpa using h
  have := List.length_pos_iff.mpr this
  omega
theorem perm_in {h₀ h : Heap} {L pa sa : Addr} {o os : Obj} {A R : List (Addr × Obj)} (N : News h₀ L h (A ++ (pa, o) :: R)) (hs : (sa, os) ∈ R) : News h₀ L h ((pa, o) :: (sa, os) :: (A ++ R)) := by
  intro p hp
  rcases List.mem_cons.mp hp with rfl | hp
  · exact N _ (List.mem_append_right _ (.head _))
  rcases List.mem_cons.mp hp with rfl | hp
  · exact N _ (List.mem_append_right _ (.tail _ hs))
  rcases List.mem_append.mp hp with hp | hp
  · exact N _ (List.mem_append_left _ hp)
  · exact N _ (List.mem_append_right _ (.tail _ hp))
theorem perm_out {h₀ h : Heap} {L : Addr} {p q : Addr × Obj} {R : List (Addr × Obj)} (N : News h₀ L h (p :: q :: R)) : News h₀ L h (p :: R) := by
  intro r hr
  rcases List.mem_cons.mp hr with rfl | hr
  · exact N _ (.head _)
  · exact N _ (.tail _ (.tail _ hr))

theorem menu5 {c : Int} (k : Nat) (h0 : 0 ≤ c) (h1 : c < 86400000) : 0 ≤ [0, 86399999, 1, 43200000, c].getD k 0 ∧ [0, 86399999, 1, 43200000, c].getD k 0 < 86400000 := by
  rcases k with _ | _ | _ | _ | _ | k <;> simp <;> omega
theorem pool_ret {h₀ h' : Heap} {L pa sa : Addr} {x' n' r : Int} {t t1 t2 : Tok} {tk' k k2 : Nat} {vs : List Value} {rest X : List (Addr × Obj)} {m : Str → Option Value} {s : Shared} {Q : Value → Shared → Prop} {P : Int → Prop}
    (hret : ∀ (x' n' r : Int) (t t1 t2 : Tok) (h' : Heap) (tk' : Nat), 0 ≤ n' → P r → Fr h₀ L h' m → News h₀ L h' ((pa, poolObj x' t1 sa n' t2 k) :: (sa, listOf vs.toArray k2) :: rest) → Q (.int r t) { s with heap := h', toks := tk' })
    (F : Fr h₀ L h' m) (N : News h₀ L h' X) (hp : (pa, poolObj x' t1 sa n' t2 k) ∈ X) (hs : (sa, listOf vs.toArray k2) ∈ X) (hr : ∀ p ∈ rest, p ∈ X) (hn : 0 ≤ n') (hP : P r) : Q (.int r t) { s with heap := h', toks := tk' } := by
  refine hret x' n' r t t1 t2 h' tk' hn hP F (cb_drop N ?_)
  intro p h
  rcases List.mem_cons.mp h with rfl | h
  · exact hp
  rcases List.mem_cons.mp h with rfl | h
  · exact hs
  exact hr p h

theorem tdiv {d c : Int} (h0 : 0 ≤ c) (h1 : c < 86400000) : (d * 86400000 + c).fdiv 86400000 = d := by
  rw [Int.fdiv_eq_ediv_of_nonneg _ (by decide)]; omega
theorem tmod {d c : Int} (h0 : 0 ≤ c) (h1 : c < 86400000) : (d * 86400000 + c).fmod 86400000 = c := by
  rw [Int.fmod_eq_emod_of_nonneg _ (by decide)]; omega
theorem tms {d c : Int} : (d * 86400000 + c).fmod 1000 = c.fmod 1000 := by
  rw [Int.fmod_eq_emod_of_nonneg _ (by decide), Int.fmod_eq_emod_of_nonneg _ (by decide)]; omega
theorem twd (d : Int) : (d + 4).fmod 7 = (d.fmod 7 + 4).fmod 7 := by
  rw [Int.fmod_eq_emod_of_nonneg _ (by decide), Int.fmod_eq_emod_of_nonneg _ (by decide), Int.fmod_eq_emod_of_nonneg _ (by decide)]; omega
theorem tback (d : Int) : dayFrom (yearOf d) (monthOf d) (dateOf d) = d := by
  have h0 := monthOf_lo d
  have h1 := (monthIn_spec (past_lt d).1 (past_lt d).2).2.1
  have e1 : (monthOf d).fdiv 12 = 0 := by rw [Int.fdiv_eq_ediv_of_nonneg _ (by decide)]; unfold monthOf at *; omega
  have e2 : (monthOf d).fmod 12 = monthOf d := by rw [Int.fmod_eq_emod_of_nonneg _ (by decide)]; unfold monthOf at *; omega
  unfold dayFrom dateOf
  rw [e1, e2]
  simp only [Int.add_zero]
  omega
theorem sum_take {y k : Int} (h0 : 0 ≤ k) (h1 : k ≤ 11) : (List.take k.toNat [31, long y - 337, 31, 30, 31, 30, 31, 31, 30, 31, 30, 31]).sum = ahead k (leap y) := by
  unfold long
  rcases month_cases h0 h1 with h | h | h | h | h | h | h | h | h | h | h | h <;> subst h <;> cases leap y <;> decide
theorem dayFrom_sum (y m d : Int) : dayFrom y m d = dfy (y + m.fdiv 12) + (List.take (m.fmod 12).toNat [31, long (y + m.fdiv 12) - 337, 31, 30, 31, 30, 31, 31, 30, 31, 30, 31]).sum + d - 1 := by
  have h1 : m.fmod 12 ≤ 11 := by have := Int.fmod_lt_of_pos m (show (0 : Int) < 12 by decide); omega
  rw [sum_take (fm12_lo m) h1]; rfl

theorem months_get {y k : Int} (h0 : 0 ≤ k) (h1 : k ≤ 11) : [31, long y - 337, 31, 30, 31, 30, 31, 31, 30, 31, 30, 31].getD k.toNat 0 = ahead (k + 1) (leap y) - ahead k (leap y) := by
  unfold long
  rcases month_cases h0 h1 with h | h | h | h | h | h | h | h | h | h | h | h <;> subst h <;> cases leap y <;> decide
theorem dayA0 (d : Int) : d - d.fdiv 146097 * 146097 + dfy (1970 + 400 * d.fdiv 146097) = d ∧ 0 ≤ d - d.fdiv 146097 * 146097 := by
  rw [dfy_cycle, Int.fdiv_eq_ediv_of_nonneg _ (by decide)]
  omega
theorem dayA1 {d r y : Int} (h : r + dfy y = d) (hl : long y ≤ r) : r - long y + dfy (y + 1) = d ∧ 0 ≤ r - long y := by
  rw [dfy_step]; omega
theorem dayAm {r y : Int} (hl : long y ≤ r) : (r - long y).toNat < r.toNat := by
  have := long_cases y; omega
theorem dayB0 {d r y : Int} (h : r + dfy y = d) (h0 : 0 ≤ r) (hl : ¬ long y ≤ r) : (0 : Int) ≤ 0 ∧ (0 : Int) ≤ 11 ∧ r = d - dfy y - ahead 0 (leap y) ∧ 0 ≤ r ∧ d < dfy (y + 1) := by
  rw [dfy_step, ahead0]; omega
theorem dayB1 {d r y k : Int} (h0 : 0 ≤ k) (h1 : k ≤ 11) (h : r = d - dfy y - ahead k (leap y)) (hr : 0 ≤ r) (hd : d < dfy (y + 1))
    (hl : [31, long y - 337, 31, 30, 31, 30, 31, 31, 30, 31, 30, 31].getD k.toNat 0 ≤ r) :
    0 ≤ k + 1 ∧ k + 1 ≤ 11 ∧ r - [31, long y - 337, 31, 30, 31, 30, 31, 31, 30, 31, 30, 31].getD k.toNat 0 = d - dfy y - ahead (k + 1) (leap y) ∧ 0 ≤ r - [31, long y - 337, 31, 30, 31, 30, 31, 31, 30, 31, 30, 31].getD k.toNat 0 ∧ d < dfy (y + 1) := by
  rw [months_get h0 h1] at hl ⊢
  refine ⟨by omega, ?_, by omega, by omega, hd⟩
  by_cases h3 : k = 11
  · subst h3
    rw [dfy_step] at hd
    have := ahead12 (leap y)
    unfold long at hd
    rw [show (11 : Int) + 1 = 12 by decide] at hl
    omega
  · omega
theorem dayY {d r y k : Int} (h : r = d - dfy y - ahead k (leap y)) (h0 : 0 ≤ k) (h1 : k ≤ 11) (hr : 0 ≤ r) (hd : d < dfy (y + 1)) : y = yearOf d := by
  have e0 := @ahead_mono (leap y) 0 k (by decide) h0 (by omega)
  rw [ahead0] at e0
  exact yearOf_uniq (by omega) hd
theorem dayM {d r y k : Int} (h : r = d - dfy y - ahead k (leap y)) (h0 : 0 ≤ k) (h1 : k ≤ 11) (hr : 0 ≤ r) (hd : d < dfy (y + 1))
    (hl : ¬ [31, long y - 337, 31, 30, 31, 30, 31, 31, 30, 31, 30, 31].getD k.toNat 0 ≤ r) : k = monthOf d := by
  have hy := dayY h h0 h1 hr hd
  rw [months_get h0 h1] at hl
  unfold monthOf
  rw [← hy]
  exact monthIn_uniq h0 h1 (by omega) (by omega)
theorem dayD {d r y k : Int} (h : r = d - dfy y - ahead k (leap y)) (h0 : 0 ≤ k) (h1 : k ≤ 11) (hr : 0 ≤ r) (hd : d < dfy (y + 1))
    (hl : ¬ [31, long y - 337, 31, 30, 31, 30, 31, 31, 30, 31, 30, 31].getD k.toNat 0 ≤ r) : r + 1 = dateOf d := by
  have hy := dayY h h0 h1 hr hd
  have hm := dayM h h0 h1 hr hd hl
  unfold dateOf
  rw [← hm, ← hy]; omega
abbrev dueObj (d : Int) (t1 t2 t3 : Tok) : Obj := { cls := .type "tuple", data := .seq [Value.int (yearOf d) t1, Value.int (monthOf d) t2, Value.int (dateOf d) t3].toArray }
theorem due_ret {h₀ h' : Heap} {L D : Addr} {d y k r : Int} {t1 t2 t3 : Tok} {tk' : Nat} {news : List (Addr × Obj)} {m : Str → Option Value} {s : Shared} {Q : Value → Shared → Prop}
    (hret : ∀ (D : Addr) (t1 t2 t3 : Tok) (h' : Heap) (tk' : Nat), Fr h₀ L h' m → News h₀ L h' ((D, dueObj d t1 t2 t3) :: news) → AllLt D news → Q (.ref D) { s with heap := h', toks := tk' })
    (F : Fr h₀ L h' m) {X : List (Addr × Obj)} (N : News h₀ L h' X) (hm : (D, ({ cls := .type "tuple", data := .seq [Value.int y t1, Value.int k t2, Value.int r t3].toArray } : Obj)) ∈ X) (hr : ∀ p ∈ news, p ∈ X) (l : AllLt D news)
    (e1 : y = yearOf d) (e2 : k = monthOf d) (e3 : r = dateOf d) : Q (.ref D) { s with heap := h', toks := tk' } := by
  subst e1 e2 e3
  exact hret D t1 t2 t3 h' tk' F (cb_drop N fun p hp => (List.mem_cons.mp hp).elim (fun e => e ▸ hm) (hr p)) l
theorem months_ret {h₀ h' : Heap} {L D : Addr} {y : Int} {a1 a2 a3 a4 a5 a6 a7 a8 a9 a10 a11 a12 : Tok} {tk' : Nat} {news : List (Addr × Obj)} {m : Str → Option Value} {s : Shared} {Q : Value → Shared → Prop}
    (hret : ∀ (D : Addr) (a1 a2 a3 a4 a5 a6 a7 a8 a9 a10 a11 a12 : Tok) (h' : Heap) (tk' : Nat), Fr h₀ L h' m → News h₀ L h' ((D, listOf [Value.int 31 a1, Value.int (long y - 337) a2, Value.int 31 a3, Value.int 30 a4, Value.int 31 a5, Value.int 30 a6, Value.int 31 a7, Value.int 31 a8, Value.int 30 a9, Value.int 31 a10, Value.int 30 a11, Value.int 31 a12].toArray 0) :: news) → AllLt D news → Q (.ref D) { s with heap := h', toks := tk' })
    (F : Fr h₀ L h' m) (N : News h₀ L h' ((D, listOf [Value.int 31 a1, Value.int (long y - 337) a2, Value.int 31 a3, Value.int 30 a4, Value.int 31 a5, Value.int 30 a6, Value.int 31 a7, Value.int 31 a8, Value.int 30 a9, Value.int 31 a10, Value.int 30 a11, Value.int 31 a12].toArray 0) :: news)) (l : AllLt D news) : Q (.ref D) { s with heap := h', toks := tk' } := hret D a1 a2 a3 a4 a5 a6 a7 a8 a9 a10 a11 a12 h' tk' F N l

theorem k_trim {h₀ h : Heap} {L pa sa : Addr} {x n : Int} {tx tn : Tok} {k k2 : Nat} {vs : List Value} {oc : Obj} {news : List (Addr × Obj)} (N : News h₀ L h news) (_h4 : 4 ≤ news.length)
    (h1 : (pa, poolObj x tx sa n tn k) ∈ news) (h2 : (sa, listOf vs.toArray k2) ∈ news) (h3 : (L + 1, oc) ∈ news) : News h₀ L h [(pa, poolObj x tx sa n tn k), (sa, listOf vs.toArray k2), (L + 1, oc)] :=
  cb_drop N (List.forall_mem_cons.mpr ⟨h1, List.forall_mem_cons.mpr ⟨h2, List.forall_mem_cons.mpr ⟨h3, List.forall_mem_nil _⟩⟩⟩)
theorem comp_end_same {h₀ : Heap} {L I C D : Addr} {m : Str → Option Value} {s₁ : Shared} {oI oC oD : Obj} {S : List (Addr × Obj) → Prop} {rest : Value → List (Addr × Obj) → Prop} {y : Value} {h' : Heap} {tk : Nat} {news' : List (Addr × Obj)}
    (F : Fr h₀ L h' m) (N : News h₀ L h' ((I, oI) :: (C, oC) :: (D, oD) :: news')) (off : LCg.Off3 I C D news') (hS : S news') (r : rest y news') :
    LCg.CompEnd h₀ L m s₁ I oI C oC D oD S rest y { s₁ with heap := h', toks := tk } := LCg.CompEnd.intro F N news' (fun _ hp => hp) off hS r
def Goes (h₀ : Heap) (L : Addr) (m : Str → Option Value) (news : List (Addr × Obj)) (s s' : Shared) : Prop := ∃ h tk, s' = { s with heap := h, toks := tk } ∧ Fr h₀ L h m ∧ News h₀ L h news
theorem goes_of {h₀ h : Heap} {L : Addr} {m : Str → Option Value} {news : List (Addr × Obj)} {s : Shared} {tk : Nat} (F : Fr h₀ L h m) (N : News h₀ L h news) : Goes h₀ L m news s { s with heap := h, toks := tk } := ⟨h, tk, rfl, F, N⟩
def GoesOn (P : Prop) : Prop := P
theorem if_goes {prog : Program} {w : World} {A : Around} {E : Value → Shared → Prop} {s : Shared} {h₀ : Heap} {L : Addr} {m : Str → Option Value} {news : List (Addr × Obj)} {env : Env} {test : PySem.Expr} {body : List Stmt} {pos : Pos} {Q : Flow → Shared → Prop} (_F : Fr h₀ L s.heap m) (_N : News h₀ L s.heap news)
    (h : wpAny (model prog w) A (isTrue test env (eval test env)) (fun b s₂ => if b then wpAny (model prog w) A (execs body env) Q E s₂ else Goes h₀ L m news s s₂) E s)
    (hk : GoesOn (∀ h tk, Fr h₀ L h m → News h₀ L h news → Q .next { s with heap := h, toks := tk })) : wpAny (model prog w) A (exec (.If test body [] pos) env) Q E s := by
  refine wpAny_If (wpAny_mono h (fun b s₂ hb => ?_) fun _ _ e => e)
  cases b with
  | true => exact hb
  | false =>
    obtain ⟨h', tk, rfl, F, N⟩ := hb
    exact wpAny_execs_nil (hk h' tk F N)
theorem any_range100 (v : Int) : (List.map PyData.int (rangeInts 0 1 ((100 : Int) - 0).toNat)).any (datHitsInt v) = decide (0 ≤ v ∧ v ≤ 99) := by
  rw [datHitsInt_map, Bool.eq_iff_iff, List.any_eq_true, decide_eq_true_eq]
  constructor
  · rintro ⟨x, hx, e⟩
    have h := mem_rangeInts hx
    have e' : x = v := by simpa using e
    have e2 : (((100 : Int) - 0).toNat : Int) = 100 := by decide
    omega
  · rintro ⟨h0, h1⟩
    refine ⟨v, ?_, by simp⟩
    unfold rangeInts
    refine List.mem_map.mpr ⟨v.toNat, List.mem_range.mpr ?_, ?_⟩
    · have e2 : ((100 : Int) - 0).toNat = 100 := by decide
      omega
    · omega

abbrev fieldsObj (d c : Int) (t1 t2 t3 t4 t5 t6 t7 : Tok) : Obj := { cls := .type "tuple", data := .seq [Value.int (yearOf d) t1, Value.int (monthOf d) t2, Value.int (dateOf d) t3, Value.int (c.fdiv 3600000) t4, Value.int ((c.fdiv 60000).fmod 60) t5, Value.int ((c.fdiv 1000).fmod 60) t6, Value.int (c.fmod 1000) t7].toArray }
theorem none_ret {h₀ h' : Heap} {L : Addr} {tk' : Nat} {news : List (Addr × Obj)} {m : Str → Option Value} {s : Shared} {Q : Value → Shared → Prop} (hret : ∀ (h' : Heap) (tk' : Nat), Fr h₀ L h' m → News h₀ L h' news → Q .none { s with heap := h', toks := tk' }) (F : Fr h₀ L h' m) (N : News h₀ L h' news) : Q .none { s with heap := h', toks := tk' } := hret _ _ F N
theorem fields_ret {h₀ h' : Heap} {L D : Addr} {d c : Int} {t1 t2 t3 t4 t5 t6 t7 : Tok} {tk' : Nat} {news X : List (Addr × Obj)} {m : Str → Option Value} {s : Shared} {Q : Value → Shared → Prop}
    (hret : ∀ (D : Addr) (t1 t2 t3 t4 t5 t6 t7 : Tok) (h' : Heap) (tk' : Nat), Fr h₀ L h' m → News h₀ L h' ((D, fieldsObj d c t1 t2 t3 t4 t5 t6 t7) :: news) → AllLt D news → Q (.ref D) { s with heap := h', toks := tk' })
    (F : Fr h₀ L h' m) (N : News h₀ L h' X) (hm : (D, fieldsObj d c t1 t2 t3 t4 t5 t6 t7) ∈ X) (hr : ∀ p ∈ news, p ∈ X) (l : AllLt D news) : Q (.ref D) { s with heap := h', toks := tk' } :=
  hret D t1 t2 t3 t4 t5 t6 t7 h' tk' F (cb_drop N fun p hp => (List.mem_cons.mp hp).elim (fun e => e ▸ hm) (hr p)) l
theorem back_eq {d c : Int} (h0 : 0 ≤ c) : d * 86400000 + (c.fdiv 3600000 * 3600000 + (c.fdiv 60000).fmod 60 * 60000 + (c.fdiv 1000).fmod 60 * 1000 + c.fmod 1000) = d * 86400000 + c := by
  rw [Int.fdiv_eq_ediv_of_nonneg _ (by decide), Int.fdiv_eq_ediv_of_nonneg _ (by decide), Int.fdiv_eq_ediv_of_nonneg _ (by decide), Int.fmod_eq_emod_of_nonneg _ (by decide), Int.fmod_eq_emod_of_nonneg _ (by decide), Int.fmod_eq_emod_of_nonneg _ (by decide)]
  omega
def lineOf : Stmt → Nat
  | .Assign _ _ p => p.line
  | .If _ _ _ p => p.line
  | .Return _ p => p.line
  | _ => 0
theorem trim3 {prog : Program} {w : World} {A : Around} {E : Value → Shared → Prop} {s : Shared} {h₀ : Heap} {L pa sa : Addr} {x n : Int} {tx tn : Tok} {k k2 : Nat} {vs : List Value} {oc : Obj} {news : List (Addr × Obj)} {st : Stmt} {rest : List Stmt} {env : Env} {Q : Flow → Shared → Prop}
    (hl : [115, 124, 125, 126, 128, 131, 133, 138, 139, 141].contains (lineOf st) = true) (N : News h₀ L s.heap news) (h4 : 4 ≤ news.length)
    (h1 : (pa, poolObj x tx sa n tn k) ∈ news) (h2 : (sa, listOf vs.toArray k2) ∈ news) (h3 : (L + 1, oc) ∈ news)
    (h : News h₀ L s.heap [(pa, poolObj x tx sa n tn k), (sa, listOf vs.toArray k2), (L + 1, oc)] → wpAny (model prog w) A (execs (st :: rest) env) Q E s) : wpAny (model prog w) A (execs (st :: rest) env) Q E s :=
  h (k_trim N h4 h1 h2 h3)
theorem trim4 {nm : Str} {ls : List Nat} {prog : Program} {w : World} {A : Around} {E : Value → Shared → Prop} {s : Shared} {h₀ : Heap} {L D pa sa : Addr} {x n : Int} {tx tn : Tok} {k k2 : Nat} {vs : List Value} {o oc : Obj} {m : Str → Option Value} {news : List (Addr × Obj)} {st : Stmt} {rest : List Stmt} {env : Env} {Q : Flow → Shared → Prop}
    (hl : ls.contains (lineOf st) = true) (_F : Fr h₀ L s.heap m) (N : News h₀ L s.heap news) (_h5 : 5 ≤ news.length) (_hD : m nm = some (.ref D)) (h0 : (D, o) ∈ news)
    (h1 : (pa, poolObj x tx sa n tn k) ∈ news) (h2 : (sa, listOf vs.toArray k2) ∈ news) (h3 : (L + 1, oc) ∈ news)
    (h : News h₀ L s.heap [(D, o), (pa, poolObj x tx sa n tn k), (sa, listOf vs.toArray k2), (L + 1, oc)] → wpAny (model prog w) A (execs (st :: rest) env) Q E s) : wpAny (model prog w) A (execs (st :: rest) env) Q E s :=
  h (cb_drop N (List.forall_mem_cons.mpr ⟨h0, List.forall_mem_cons.mpr ⟨h1, List.forall_mem_cons.mpr ⟨h2, List.forall_mem_cons.mpr ⟨h3, List.forall_mem_nil _⟩⟩⟩⟩))

variable {w : World} {mean : ExcName → Option Value} {mg mb : Str → Option Value} {dp un : Nat} {gd : Option (List Code)} {cn : Str} {cs : Scope} {a : Addr} {ccd : Value} {cl : List (Str × Addr)} {outer : List Env} {A₀ : Around} {base h₀ : Heap} {L : Addr} {m : Str → Option Value} {s : Shared} {Q E : Value → Shared → Prop} {news : List (Addr × Obj)}
  (B : Below A₀ base outer h₀) (F : Fr h₀ L s.heap m) (X : (hd.heap_39 w.params).In h₀) (N : News h₀ L s.heap news)
  (T : Top hd.view_39 (looseW hd.view_39 [Str.ofString "AHEAD"]) mean mg mb h₀) (hk : cs.kind = .function)
local macro_rules | `(tactic| walk_at $s:str) => `(tactic| k_extra $s)
include B F X T hk
local macro_rules | `(tactic| k_all) => `(tactic| assumption)
theorem draw_c0 (hdp : dp + 5 < recursionLimit) (hun : un + 100 < cLine) {pa sa : Addr} {x n many : Int} {tx tn tm : Tok} {k k2 : Nat} {vs : List Value} {ns : List Int} {rest : List (Addr × Obj)}
    (N : News h₀ L s.heap ((pa, poolObj x tx sa n tn k) :: (sa, listOf vs.toArray k2) :: rest)) (hap : ∀ p ∈ rest, p.1 ≠ pa) (hne : sa ≠ pa) (hi : IntsAre vs ns) (hlen : ns.length < 2 ^ 62) (hn0 : 0 ≤ n) (hm : 0 < many)
    (hret : ∀ (x' r : Int) (t t1 t2 : Tok) (h' : Heap) (tk' : Nat), 0 ≤ r → r < many → Fr h₀ L h' m → News h₀ L h' ((pa, poolObj x' t1 sa (n + 1) t2 k) :: (sa, listOf vs.toArray k2) :: rest) → Q (.int r t) { s with heap := h', toks := tk' }) :
    wpAny (model Challenge.rw_nt0343_01.row.prog w) (ktrTop dp un gd cn cs L a ccd cl outer) (call (.ref 176) [.ref pa, .int many tm]) Q E s := by
  k_with "zzk" => ((case B => k_asm); (case F => k_asm); (case X => k_asm); (case T => k_asm); (case hk => first | exact rfl | assumption); (case hdp => ktr_room); (case hun => ktr_units))
  k_with "zzd" => ((case hs => k_mem); (case hap => k_all); (case hi => first | assumption | l_ints); (case hlen => first | assumption | l_fit); (case hn0 => first | decide | assumption | omega | l_fact))
  k_with "zzt" => ((try dsimp only); (try k_fold))
  k_with "call ref" => (k_here; k_dflt (walk_at "zzc"; (case N => k_asm); walk_at "zzk"; k_whole); intro t9 h9 tk9 F9 N9; walk_at "zzt")
  k_with "call ref" => (k_here; k_dflt (walk_at "zzp"; (case N => k_asm); walk_at "zzk"; (case h0 => first | assumption | exact monthOf_lo _ | exact monthOf_hi _ | exact fm12_lo _ | exact fm12_hi _ | omega | l_fact | (simp only [*] at *; omega)); (case h1 => first | assumption | exact monthOf_lo _ | exact monthOf_hi _ | exact fm12_lo _ | exact fm12_hi _ | omega | l_fact | (simp only [*] at *; omega)); k_whole); intro t9 h9 tk9 F9 N9; walk_at "zzt")
  k_with "call ref" => (k_here; k_dflt (walk_at "zzn"; (case N => k_asm); walk_at "zzk"; k_whole); intro h9 tk9 F9 N9; walk_at "zzt")
  k_with "eval Call" => (k_here; k_dflt (refine Call_ ?_))
  revert X; k_fill; intro X
  refine wpAny_call ?_
  k_dflt cell_enter
  k_steps
  all_goals first
    | exact (draw_no (by assumption) (by assumption)).elim
    | (refine' draw_ret (Q := Q) hret hm ?e2 ?e3 ; (case e2 => k_asm); (case e3 => assumption))
    | (refine' draw_ret2 (Q := Q) hret hm ?e2 ?e3 ; (case e2 => k_asm); (case e3 => assumption))
theorem draw_0' (hdp : dp + 5 < recursionLimit) (hun : un + 100 < cLine) {pa sa : Addr} {x n many : Int} {tx tn tm : Tok} {k k2 : Nat} {vs : List Value} {ns : List Int} {rest : List (Addr × Obj)}
    (N : News h₀ L s.heap ((pa, poolObj x tx sa n tn k) :: (sa, listOf vs.toArray k2) :: rest)) (hap : ∀ p ∈ rest, p.1 ≠ pa) (hne : sa ≠ pa) (hi : IntsAre vs ns) (hlen : ns.length < 2 ^ 62) (hn0 : 0 ≤ n) (hm : 0 < many)
    (hret : ∀ (x' n' r : Int) (t t1 t2 : Tok) (h' : Heap) (tk' : Nat), 0 ≤ n' → 0 ≤ r → r < many → Fr h₀ L h' m → News h₀ L h' ((pa, poolObj x' t1 sa n' t2 k) :: (sa, listOf vs.toArray k2) :: rest) → Q (.int r t) { s with heap := h', toks := tk' }) :
    wpAny (model Challenge.rw_nt0343_01.row.prog w) (ktrTop dp un gd cn cs L a ccd cl outer) (call (.ref 176) [.ref pa, .int many tm]) Q E s := 
  draw_c0 B F X T hk hdp hun N hap hne hi hlen hn0 hm (fun x' r t t1 t2 h' tk' q1 q2 F' N' => hret x' (n + 1) r t t1 t2 h' tk' (by omega) q1 q2 F' N')
theorem draw_0 (hdp : dp + 5 < recursionLimit) (hun : un + 100 < cLine) {pa sa : Addr} {x n many : Int} {tx tn tm : Tok} {k k2 : Nat} {vs : List Value} {ns : List Int} {R : List (Addr × Obj)} 
    (N : News h₀ L s.heap ((pa, poolObj x tx sa n tn k) :: R)) (hs : (sa, listOf vs.toArray k2) ∈ R) (hap : ∀ p ∈ R, p.1 ≠ pa) (hi : IntsAre vs ns) (hlen : ns.length < 2 ^ 62) (hn0 : 0 ≤ n) (hm : 0 < many)
    (hret : ∀ (x' n' r : Int) (t t1 t2 : Tok) (h' : Heap) (tk' : Nat), 0 ≤ n' → 0 ≤ r → r < many → Fr h₀ L h' m → News h₀ L h' ((pa, poolObj x' t1 sa n' t2 k) :: R) → Q (.int r t) { s with heap := h', toks := tk' }) :
    wpAny (model Challenge.rw_nt0343_01.row.prog w) (ktrTop dp un gd cn cs L a ccd cl outer) (call (.ref 176) [.ref pa, .int many tm]) Q E s :=
  draw_0' B F X T hk hdp hun (rest := R) (perm_in (A := []) N hs) hap (hap _ (hs)) hi hlen hn0 hm (fun x' n' r t t1 t2 h' tk' q0 q1 q2 F' N' => hret x' n' r t t1 t2 h' tk' q0 q1 q2 F' (perm_out N'))
theorem draw_1 (hdp : dp + 5 < recursionLimit) (hun : un + 100 < cLine) {pa sa : Addr} {x n many : Int} {tx tn tm : Tok} {k k2 : Nat} {vs : List Value} {ns : List Int} {R : List (Addr × Obj)} {e0 : Addr × Obj} 
    (N : News h₀ L s.heap (e0 :: (pa, poolObj x tx sa n tn k) :: R)) (hs : (sa, listOf vs.toArray k2) ∈ R) (hap : ∀ p ∈ e0 :: R, p.1 ≠ pa) (hi : IntsAre vs ns) (hlen : ns.length < 2 ^ 62) (hn0 : 0 ≤ n) (hm : 0 < many)
    (hret : ∀ (x' n' r : Int) (t t1 t2 : Tok) (h' : Heap) (tk' : Nat), 0 ≤ n' → 0 ≤ r → r < many → Fr h₀ L h' m → News h₀ L h' ((pa, poolObj x' t1 sa n' t2 k) :: e0 :: R) → Q (.int r t) { s with heap := h', toks := tk' }) :
    wpAny (model Challenge.rw_nt0343_01.row.prog w) (ktrTop dp un gd cn cs L a ccd cl outer) (call (.ref 176) [.ref pa, .int many tm]) Q E s :=
  draw_0' B F X T hk hdp hun (rest := e0 :: R) (perm_in (A := [e0]) N hs) hap (hap _ (List.Mem.tail _ (hs))) hi hlen hn0 hm (fun x' n' r t t1 t2 h' tk' q0 q1 q2 F' N' => hret x' n' r t t1 t2 h' tk' q0 q1 q2 F' (perm_out N'))
theorem draw_3 (hdp : dp + 5 < recursionLimit) (hun : un + 100 < cLine) {pa sa : Addr} {x n many : Int} {tx tn tm : Tok} {k k2 : Nat} {vs : List Value} {ns : List Int} {R : List (Addr × Obj)} {e0 e1 e2 : Addr × Obj} 
    (N : News h₀ L s.heap (e0 :: e1 :: e2 :: (pa, poolObj x tx sa n tn k) :: R)) (hs : (sa, listOf vs.toArray k2) ∈ R) (hap : ∀ p ∈ e0 :: e1 :: e2 :: R, p.1 ≠ pa) (hi : IntsAre vs ns) (hlen : ns.length < 2 ^ 62) (hn0 : 0 ≤ n) (hm : 0 < many)
    (hret : ∀ (x' n' r : Int) (t t1 t2 : Tok) (h' : Heap) (tk' : Nat), 0 ≤ n' → 0 ≤ r → r < many → Fr h₀ L h' m → News h₀ L h' ((pa, poolObj x' t1 sa n' t2 k) :: e0 :: e1 :: e2 :: R) → Q (.int r t) { s with heap := h', toks := tk' }) :
    wpAny (model Challenge.rw_nt0343_01.row.prog w) (ktrTop dp un gd cn cs L a ccd cl outer) (call (.ref 176) [.ref pa, .int many tm]) Q E s :=
  draw_0' B F X T hk hdp hun (rest := e0 :: e1 :: e2 :: R) (perm_in (A := [e0, e1, e2]) N hs) hap (hap _ (List.Mem.tail _ (List.Mem.tail _ (List.Mem.tail _ (hs))))) hi hlen hn0 hm (fun x' n' r t t1 t2 h' tk' q0 q1 q2 F' N' => hret x' n' r t t1 t2 h' tk' q0 q1 q2 F' (perm_out N'))
theorem lyear_0' (hdp : dp + 15 < recursionLimit) (hun : un + 200 < cLine) {pa sa : Addr} {x n : Int} {tx tn : Tok} {k k2 : Nat} {vs : List Value} {ns : List Int} {rest : List (Addr × Obj)}
    (N : News h₀ L s.heap ((pa, poolObj x tx sa n tn k) :: (sa, listOf vs.toArray k2) :: rest)) (hap : ∀ p ∈ rest, p.1 ≠ pa) (hne : sa ≠ pa) (hi : IntsAre vs ns) (hlen : ns.length < 2 ^ 62) (hn0 : 0 ≤ n)
    (hret : ∀ (x' n' r : Int) (t t1 t2 : Tok) (h' : Heap) (tk' : Nat), 0 ≤ n' → Fr h₀ L h' m → News h₀ L h' ((pa, poolObj x' t1 sa n' t2 k) :: (sa, listOf vs.toArray k2) :: rest) → Q (.int r t) { s with heap := h', toks := tk' }) :
    wpAny (model Challenge.rw_nt0343_01.row.prog w) (ktrTop dp un gd cn cs L a ccd cl outer) (call (.ref 211) [.ref pa]) Q E s := by
  k_with "call ref" => (k_here; (with_reducible show wpAny _ _ (call (Value.ref 176) _ _) _ _ _); k_dflt ((first | (apply draw_0; (case N => k_asm)) | (apply draw_1; (case N => k_asm)) | (apply draw_3; (case N => k_asm))); walk_at "zzk"; walk_at "zzd"; (case hm => first | decide | assumption | exact len_pos (by assumption) | omega | l_fact | (simp only [*] at *; omega)); k_whole); intro x9 n9 r9 t9 u9 v9 h9 tk9 q0 q1 q2 F9 N9; walk_at "zzt")
  revert X; k_fill; intro X
  refine wpAny_call ?_
  k_dflt cell_enter
  k_steps
  all_goals (refine' pool_ret (Q := Q) (P := fun _ => True) (fun x' n' r t t1 t2 h' tk' q0 _ F' N' => hret x' n' r t t1 t2 h' tk' q0 F' N') ?e2 ?e3 ?e4 ?e5 ?e6 ?e7 ?e8; (case e2 => k_asm); (case e3 => assumption); (case e4 => k_mem); (case e5 => k_mem); (case e6 => intro p hp; (repeat (first | exact hp | refine List.Mem.tail _ ?_))); (case e7 => first | assumption | omega); (case e8 => (trivial)))
theorem lclock_0' (hdp : dp + 15 < recursionLimit) (hun : un + 200 < cLine) {pa sa : Addr} {x n : Int} {tx tn : Tok} {k k2 : Nat} {vs : List Value} {ns : List Int} {rest : List (Addr × Obj)}
    (N : News h₀ L s.heap ((pa, poolObj x tx sa n tn k) :: (sa, listOf vs.toArray k2) :: rest)) (hap : ∀ p ∈ rest, p.1 ≠ pa) (hne : sa ≠ pa) (hi : IntsAre vs ns) (hlen : ns.length < 2 ^ 62) (hn0 : 0 ≤ n)
    (hret : ∀ (x' n' r : Int) (t t1 t2 : Tok) (h' : Heap) (tk' : Nat), 0 ≤ n' → 0 ≤ r ∧ r < 86400000 → Fr h₀ L h' m → News h₀ L h' ((pa, poolObj x' t1 sa n' t2 k) :: (sa, listOf vs.toArray k2) :: rest) → Q (.int r t) { s with heap := h', toks := tk' }) :
    wpAny (model Challenge.rw_nt0343_01.row.prog w) (ktrTop dp un gd cn cs L a ccd cl outer) (call (.ref 218) [.ref pa]) Q E s := by
  revert X; k_fill; intro X
  refine wpAny_call ?_
  k_dflt cell_enter
  k_steps
  all_goals (refine' pool_ret (Q := Q) (P := fun r => 0 ≤ r ∧ r < 86400000) (hret) ?e2 ?e3 ?e4 ?e5 ?e6 ?e7 ?e8; (case e2 => k_asm); (case e3 => assumption); (case e4 => k_mem); (case e5 => k_mem); (case e6 => intro p hp; (repeat (first | exact hp | refine List.Mem.tail _ ?_))); (case e7 => first | assumption | omega); (case e8 => (exact menu5 _ (by assumption) (by assumption))))
theorem lyear_0 (hdp : dp + 15 < recursionLimit) (hun : un + 200 < cLine) {pa sa : Addr} {x n : Int} {tx tn : Tok} {k k2 : Nat} {vs : List Value} {ns : List Int} {R : List (Addr × Obj)} 
    (N : News h₀ L s.heap ((pa, poolObj x tx sa n tn k) :: R)) (hs : (sa, listOf vs.toArray k2) ∈ R) (hap : ∀ p ∈ R, p.1 ≠ pa) (hi : IntsAre vs ns) (hlen : ns.length < 2 ^ 62) (hn0 : 0 ≤ n)
    (hret : ∀ (x' n' r : Int) (t t1 t2 : Tok) (h' : Heap) (tk' : Nat), 0 ≤ n' → Fr h₀ L h' m → News h₀ L h' ((pa, poolObj x' t1 sa n' t2 k) :: R) → Q (.int r t) { s with heap := h', toks := tk' }) :
    wpAny (model Challenge.rw_nt0343_01.row.prog w) (ktrTop dp un gd cn cs L a ccd cl outer) (call (.ref 211) [.ref pa]) Q E s :=
  lyear_0' B F X T hk hdp hun (rest := R) (perm_in (A := []) N hs) hap (hap _ (hs)) hi hlen hn0 (fun x' n' r t t1 t2 h' tk' q0 F' N' => hret x' n' r t t1 t2 h' tk' q0 F' (perm_out N'))
theorem lclock_0 (hdp : dp + 15 < recursionLimit) (hun : un + 200 < cLine) {pa sa : Addr} {x n : Int} {tx tn : Tok} {k k2 : Nat} {vs : List Value} {ns : List Int} {R : List (Addr × Obj)} 
    (N : News h₀ L s.heap ((pa, poolObj x tx sa n tn k) :: R)) (hs : (sa, listOf vs.toArray k2) ∈ R) (hap : ∀ p ∈ R, p.1 ≠ pa) (hi : IntsAre vs ns) (hlen : ns.length < 2 ^ 62) (hn0 : 0 ≤ n)
    (hret : ∀ (x' n' r : Int) (t t1 t2 : Tok) (h' : Heap) (tk' : Nat), 0 ≤ n' → 0 ≤ r → r < 86400000 → Fr h₀ L h' m → News h₀ L h' ((pa, poolObj x' t1 sa n' t2 k) :: R) → Q (.int r t) { s with heap := h', toks := tk' }) :
    wpAny (model Challenge.rw_nt0343_01.row.prog w) (ktrTop dp un gd cn cs L a ccd cl outer) (call (.ref 218) [.ref pa]) Q E s :=
  lclock_0' B F X T hk hdp hun (rest := R) (perm_in (A := []) N hs) hap (hap _ (hs)) hi hlen hn0 (fun x' n' r t t1 t2 h' tk' q0 q1 F' N' => hret x' n' r t t1 t2 h' tk' q0 q1.1 q1.2 F' (perm_out N'))
include N
theorem day_of_c (hdp : dp + 5 < recursionLimit) (hun : un + 30 < cLine) {v : Int} {tv : Tok}  (hret : ∀ (t : Tok) (h' : Heap) (tk' : Nat), Fr h₀ L h' m → News h₀ L h' news → Q (.int (v.fdiv 86400000) t) { s with heap := h', toks := tk' }) :
    wpAny (model Challenge.rw_nt0343_01.row.prog w) (ktrTop dp un gd cn cs L a ccd cl outer) (call (.ref 22) [.int v tv]) Q E s := by
  k_with "call ref" => (k_here; (with_reducible show wpAny _ _ (call (Value.ref 211) _ _) _ _ _); k_dflt ((first | (apply lyear_0; (case N => k_asm))); walk_at "zzk"; walk_at "zzd"; k_whole); intro x9 n9 r9 t9 u9 v9 h9 tk9 q0 F9 N9; walk_at "zzt")
  k_with "call ref" => (k_here; (with_reducible show wpAny _ _ (call (Value.ref 218) _ _) _ _ _); k_dflt ((first | (apply lclock_0; (case N => k_asm))); walk_at "zzk"; walk_at "zzd"; k_whole); intro x9 n9 r9 t9 u9 v9 h9 tk9 q0 q1 q2 F9 N9; walk_at "zzt")
  revert X; k_fill; intro X
  refine wpAny_call ?_
  k_dflt cell_enter
  k_steps
  all_goals (refine' cb_retI (Q := Q) hret ?e1 ?e2 ?e3; (case e2 => k_asm); (case e3 => first | k_asm | (refine' cb_drop ?cbN ?cbS; (case cbN => assumption); (case cbS => kcj_all))); (case e1 => (rfl)))
theorem time_in_day_c (hdp : dp + 5 < recursionLimit) (hun : un + 30 < cLine) {v : Int} {tv : Tok}  (hret : ∀ (t : Tok) (h' : Heap) (tk' : Nat), Fr h₀ L h' m → News h₀ L h' news → Q (.int (v.fmod 86400000) t) { s with heap := h', toks := tk' }) :
    wpAny (model Challenge.rw_nt0343_01.row.prog w) (ktrTop dp un gd cn cs L a ccd cl outer) (call (.ref 29) [.int v tv]) Q E s := by
  k_with "zzc" => apply day_of_c
  revert X; k_fill; intro X
  refine wpAny_call ?_
  k_dflt cell_enter
  k_steps
  all_goals (refine' cb_retI (Q := Q) hret ?e1 ?e2 ?e3; (case e2 => k_asm); (case e3 => first | k_asm | (refine' cb_drop ?cbN ?cbS; (case cbN => assumption); (case cbS => kcj_all))); (case e1 => (rfl)))
theorem is_leap_c (hdp : dp + 5 < recursionLimit) (hun : un + 30 < cLine) {v : Int} {tv : Tok}  (hret : ∀ (t : Tok) (h' : Heap) (tk' : Nat), Fr h₀ L h' m → News h₀ L h' news → Q (.bool (leap v)) { s with heap := h', toks := tk' }) :
    wpAny (model Challenge.rw_nt0343_01.row.prog w) (ktrTop dp un gd cn cs L a ccd cl outer) (call (.ref 36) [.int v tv]) Q E s := by
  k_with "zzc" => apply time_in_day_c
  revert X; k_fill; intro X
  refine wpAny_call ?_
  k_dflt cell_enter
  k_steps
  all_goals (refine' cb_retB (Q := Q) hret ?e1 ?e2 ?e3; (case e2 => k_asm); (case e3 => first | k_asm | (refine' cb_drop ?cbN ?cbS; (case cbN => assumption); (case cbS => kcj_all))); (case e1 => (first | exact leap1 (by assumption) (by assumption) | exact leap2 (by assumption) (by assumption) | exact leap3 (by assumption))))
theorem dfy_c (hdp : dp + 5 < recursionLimit) (hun : un + 30 < cLine) {v : Int} {tv : Tok}  (hret : ∀ (t : Tok) (h' : Heap) (tk' : Nat), Fr h₀ L h' m → News h₀ L h' news → Q (.int (dfy v) t) { s with heap := h', toks := tk' }) :
    wpAny (model Challenge.rw_nt0343_01.row.prog w) (ktrTop dp un gd cn cs L a ccd cl outer) (call (.ref 43) [.int v tv]) Q E s := by
  k_with "zzc" => apply is_leap_c
  revert X; k_fill; intro X
  refine wpAny_call ?_
  k_dflt cell_enter
  k_steps
  all_goals (refine' cb_retI (Q := Q) hret ?e1 ?e2 ?e3; (case e2 => k_asm); (case e3 => first | k_asm | (refine' cb_drop ?cbN ?cbS; (case cbN => assumption); (case cbS => kcj_all))); (case e1 => (rfl)))
theorem long_c (hdp : dp + 5 < recursionLimit) (hun : un + 30 < cLine) {v : Int} {tv : Tok}  (hret : ∀ (t : Tok) (h' : Heap) (tk' : Nat), Fr h₀ L h' m → News h₀ L h' news → Q (.int (long v) t) { s with heap := h', toks := tk' }) :
    wpAny (model Challenge.rw_nt0343_01.row.prog w) (ktrTop dp un gd cn cs L a ccd cl outer) (call (.ref 183) [.int v tv]) Q E s := by
  k_with "zzc" => apply dfy_c
  revert X; k_fill; intro X
  refine wpAny_call ?_
  k_dflt cell_enter
  k_steps
  all_goals (refine' cb_retI (Q := Q) hret ?e1 ?e2 ?e3; (case e2 => k_asm); (case e3 => first | k_asm | (refine' cb_drop ?cbN ?cbS; (case cbN => assumption); (case cbS => kcj_all))); (case e1 => (first | exact long1 (by assumption) | exact long2 (by assumption) (by assumption) | exact long3 (by assumption) | exact long4 (by assumption) (by assumption))))
theorem first_c (hdp : dp + 10 < recursionLimit) (hun : un + 60 < cLine) {y : Int} {ty : Tok}  (hret : ∀ (t : Tok) (h' : Heap) (tk' : Nat), Fr h₀ L h' m → News h₀ L h' news → Q (.int (dfy y) t) { s with heap := h', toks := tk' }) :
    wpAny (model Challenge.rw_nt0343_01.row.prog w) (ktrTop dp un gd cn cs L a ccd cl outer) (call (.ref 197) [.int y ty]) Q E s := by
  k_with "zzc" => apply long_c
  revert X; k_fill; intro X
  k_with "exec While Compare cons nil" => k_while_given ["year"] (fun year script f p => f = dfy p ∧ p ≤ year) (fun year script f p => (year - p).toNat) "found" "at"
  k_with "state" => first | exact first0 _ | exact first1 (by assumption) (by assumption)
  refine wpAny_call ?_
  k_dflt cell_enter
  k_steps
  all_goals (refine' cb_retI (Q := Q) hret ?e1 ?e2 ?e3; (case e2 => k_asm); (case e3 => first | k_asm | (refine' cb_drop ?cbN ?cbS; (case cbN => assumption); (case cbS => kcj_all))); (case e1 => (exact first2 (by assumption) (by assumption) (by assumption))))
theorem year_of_day_c (hdp : dp + 10 < recursionLimit) (hun : un + 60 < cLine) {d : Int} {td : Tok}  (hret : ∀ (t : Tok) (h' : Heap) (tk' : Nat), Fr h₀ L h' m → News h₀ L h' news → Q (.int (yearOf d) t) { s with heap := h', toks := tk' }) :
    wpAny (model Challenge.rw_nt0343_01.row.prog w) (ktrTop dp un gd cn cs L a ccd cl outer) (call (.ref 50) [.int d td]) Q E s := by
  k_with "zzc" => apply first_c
  revert X; k_fill; intro X
  k_with "exec While Compare cons nil" => k_while_given ["day"] (fun day script y => True) (fun day script y => (dfy y - day).toNat) "year"
  k_with "exec While Compare cons nil" => k_while_given ["day"] (fun day script y => dfy y ≤ day) (fun day script y => (day - dfy y).toNat) "year"
  k_with "measure" => first | exact yod1 (by assumption) | exact yod2 (by assumption)
  refine wpAny_call ?_
  k_dflt cell_enter
  k_steps
  all_goals (refine' cb_retI (Q := Q) hret ?e1 ?e2 ?e3; (case e2 => k_asm); (case e3 => first | k_asm | (refine' cb_drop ?cbN ?cbS; (case cbN => assumption); (case cbS => kcj_all))); (case e1 => (exact yearOf_uniq (by first | assumption | omega) (by first | assumption | omega))))
theorem year_of_c (hdp : dp + 15 < recursionLimit) (hun : un + 90 < cLine) {v : Int} {tv : Tok}  (hret : ∀ (t : Tok) (h' : Heap) (tk' : Nat), Fr h₀ L h' m → News h₀ L h' news → Q (.int (yearOf (v.fdiv 86400000)) t) { s with heap := h', toks := tk' }) :
    wpAny (model Challenge.rw_nt0343_01.row.prog w) (ktrTop dp un gd cn cs L a ccd cl outer) (call (.ref 57) [.int v tv]) Q E s := by
  k_with "zzc" => apply year_of_day_c
  k_with "subscriptTail" => (k_here; (with_reducible show wpAny _ _ (subscriptTail _ _ (Value.ref 15) (Value.int _ _)) _ _ _); (with_unfolding_all (refine' topListAny_K (ns := aheadL) ?F ?X ?l ?i ?k3 ?k4 ?k5 ?_; (case F => k_asm); (case X => k_asm); (case l => k_is); (case i => (unfold aheadL; l_ints)); (case k3 => l_idx); (case k4 => (show _ < 13); omega); (case k5 => l_idx); k_whole)); intro _)
  revert X; k_fill; intro X
  refine wpAny_call ?_
  k_dflt cell_enter
  k_steps
  all_goals (refine' cb_retI (Q := Q) hret ?e1 ?e2 ?e3; (case e2 => k_asm); (case e3 => first | k_asm | (refine' cb_drop ?cbN ?cbS; (case cbN => assumption); (case cbS => kcj_all))); (case e1 => (rfl)))
theorem day_in_year_c (hdp : dp + 20 < recursionLimit) (hun : un + 120 < cLine) {v : Int} {tv : Tok}  (hret : ∀ (t : Tok) (h' : Heap) (tk' : Nat), Fr h₀ L h' m → News h₀ L h' news → Q (.int (v.fdiv 86400000 - dfy (yearOf (v.fdiv 86400000))) t) { s with heap := h', toks := tk' }) :
    wpAny (model Challenge.rw_nt0343_01.row.prog w) (ktrTop dp un gd cn cs L a ccd cl outer) (call (.ref 64) [.int v tv]) Q E s := by
  k_with "zzc" => apply year_of_c
  revert X; k_fill; intro X
  refine wpAny_call ?_
  k_dflt cell_enter
  k_steps
  all_goals (refine' cb_retI (Q := Q) hret ?e1 ?e2 ?e3; (case e2 => k_asm); (case e3 => first | k_asm | (refine' cb_drop ?cbN ?cbS; (case cbN => assumption); (case cbS => kcj_all))); (case e1 => (rfl)))
theorem days_ahead_c (hdp : dp + 5 < recursionLimit) (hun : un + 30 < cLine) {k : Int} {tk : Tok} {l : Bool} (h0 : 0 ≤ k) (h1 : k ≤ 12) (hret : ∀ (t : Tok) (h' : Heap) (tk' : Nat), Fr h₀ L h' m → News h₀ L h' news → Q (.int (ahead k l) t) { s with heap := h', toks := tk' }) :
    wpAny (model Challenge.rw_nt0343_01.row.prog w) (ktrTop dp un gd cn cs L a ccd cl outer) (call (.ref 71) [.int k tk, .bool l]) Q E s := by
  k_with "zzc" => apply day_in_year_c
  revert X; k_fill; intro X
  refine wpAny_call ?_
  k_dflt cell_enter
  k_steps
  all_goals (refine' cb_retI (Q := Q) hret ?e1 ?e2 ?e3; (case e2 => k_asm); (case e3 => first | k_asm | (refine' cb_drop ?cbN ?cbS; (case cbN => assumption); (case cbS => kcj_all))); (case e1 => (first | exact ahead1 (by assumption) (by assumption) | exact ahead2 (by assumption) | exact ahead3 (by assumption))))
theorem month_of_c (hdp : dp + 25 < recursionLimit) (hun : un + 150 < cLine) {v : Int} {tv : Tok}  (hret : ∀ (t : Tok) (h' : Heap) (tk' : Nat), Fr h₀ L h' m → News h₀ L h' news → Q (.int (monthOf (v.fdiv 86400000)) t) { s with heap := h', toks := tk' }) :
    wpAny (model Challenge.rw_nt0343_01.row.prog w) (ktrTop dp un gd cn cs L a ccd cl outer) (call (.ref 78) [.int v tv]) Q E s := by
  revert X; k_fill; intro X
  k_with_none
  k_with "zzk" => ((case B => k_asm); (case F => k_asm); (case X => k_asm); (case T => k_asm); (case hk => first | exact rfl | assumption); (case hdp => ktr_room); (case hun => ktr_units))
  k_with "zzd" => ((case hs => k_mem); (case hap => k_all); (case hi => first | assumption | l_ints); (case hlen => first | assumption | l_fit); (case hn0 => first | decide | assumption | omega | l_fact))
  k_with "zzt" => ((try dsimp only); (try k_fold))
  k_with "call ref" => (k_here; k_dflt (walk_at "zzc"; (case N => k_asm); walk_at "zzk"; k_whole); intro t9 h9 tk9 F9 N9; walk_at "zzt")
  k_with "call ref" => (k_here; k_dflt (walk_at "zzp"; (case N => k_asm); walk_at "zzk"; (case h0 => first | assumption | exact monthOf_lo _ | exact monthOf_hi _ | exact fm12_lo _ | exact fm12_hi _ | omega | l_fact | (simp only [*] at *; omega)); (case h1 => first | assumption | exact monthOf_lo _ | exact monthOf_hi _ | exact fm12_lo _ | exact fm12_hi _ | omega | l_fact | (simp only [*] at *; omega)); k_whole); intro t9 h9 tk9 F9 N9; walk_at "zzt")
  k_with "call ref" => (k_here; k_dflt (walk_at "zzn"; (case N => k_asm); walk_at "zzk"; k_whole); intro h9 tk9 F9 N9; walk_at "zzt")
  k_with "eval Call" => (k_here; k_dflt (refine Call_ ?_))
  k_with "call ref" => (k_here; (with_reducible show wpAny _ _ (call (Value.ref 176) _ _) _ _ _); k_dflt ((first | (apply draw_0; (case N => k_asm)) | (apply draw_1; (case N => k_asm)) | (apply draw_3; (case N => k_asm))); walk_at "zzk"; walk_at "zzd"; (case hm => first | decide | assumption | exact len_pos (by assumption) | omega | l_fact | (simp only [*] at *; omega)); k_whole); intro x9 n9 r9 t9 u9 v9 h9 tk9 q0 q1 q2 F9 N9; walk_at "zzt")
  k_with "call ref" => (k_here; (with_reducible show wpAny _ _ (call (Value.ref 211) _ _) _ _ _); k_dflt ((first | (apply lyear_0; (case N => k_asm))); walk_at "zzk"; walk_at "zzd"; k_whole); intro x9 n9 r9 t9 u9 v9 h9 tk9 q0 F9 N9; walk_at "zzt")
  k_with "call ref" => (k_here; (with_reducible show wpAny _ _ (call (Value.ref 218) _ _) _ _ _); k_dflt ((first | (apply lclock_0; (case N => k_asm))); walk_at "zzk"; walk_at "zzd"; k_whole); intro x9 n9 r9 t9 u9 v9 h9 tk9 q0 q1 q2 F9 N9; walk_at "zzt")
  k_with "zzc" => apply day_of_c
  k_with "zzc" => apply time_in_day_c
  k_with "zzc" => apply is_leap_c
  k_with "zzc" => apply dfy_c
  k_with "zzc" => apply long_c
  k_with "zzc" => apply first_c
  k_with "zzc" => apply year_of_day_c
  k_with "subscriptTail" => (k_here; (with_reducible show wpAny _ _ (subscriptTail _ _ (Value.ref 15) (Value.int _ _)) _ _ _); (with_unfolding_all (refine' topListAny_K (ns := aheadL) ?F ?X ?l ?i ?k3 ?k4 ?k5 ?_; (case F => k_asm); (case X => k_asm); (case l => k_is); (case i => (unfold aheadL; l_ints)); (case k3 => l_idx); (case k4 => (show _ < 13); omega); (case k5 => l_idx); k_whole)); intro _)
  k_with "zzc" => apply year_of_c
  k_with "zzc" => apply day_in_year_c
  k_with "zzp" => apply days_ahead_c
  k_with "exec While Compare cons nil" => k_while_given ["is_leap", "past"] (fun l past script k => 0 ≤ k ∧ k ≤ 11 ∧ ahead k l ≤ past) (fun l past script k => (12 - k).toNat) "month"
  k_with "state" => first | exact month0 _ | exact month1 _ (by assumption) (by assumption) (by assumption)
  refine wpAny_call ?_
  k_dflt cell_enter
  k_steps
  all_goals (refine' cb_retI (Q := Q) hret ?e1 ?e2 ?e3; (case e2 => k_asm); (case e3 => first | k_asm | (refine' cb_drop ?cbN ?cbS; (case cbN => assumption); (case cbS => kcj_all))); (case e1 => (exact month_end (by assumption) (by assumption) (by assumption) (by assumption))))
theorem date_of_c (hdp : dp + 30 < recursionLimit) (hun : un + 180 < cLine) {v : Int} {tv : Tok}  (hret : ∀ (t : Tok) (h' : Heap) (tk' : Nat), Fr h₀ L h' m → News h₀ L h' news → Q (.int (dateOf (v.fdiv 86400000)) t) { s with heap := h', toks := tk' }) :
    wpAny (model Challenge.rw_nt0343_01.row.prog w) (ktrTop dp un gd cn cs L a ccd cl outer) (call (.ref 85) [.int v tv]) Q E s := by
  k_with "zzc" => apply month_of_c
  k_with "compareOp In" => (k_here; (with_reducible show wpAny _ _ (compareOp CmpOp.In Value.none (Value.ref _)) _ _ _); k_dflt (refine' none_in_tuple ?N ?a ?o ?u ?_; (case N => k_asm); (case a => k_mem); (case o => (repeat' (first | exact OptAre.nil | refine' OptAre.int ?_ | refine' OptAre.none ?_))); (case u => ktr_units); k_whole); (try simp only [List.any_cons, List.any_nil, Option.isNone_some, Option.isNone_none, Bool.or_false, Bool.or_true, Bool.false_or, Bool.true_or]))
  revert X; k_fill; intro X
  refine wpAny_call ?_
  k_dflt cell_enter
  k_steps
  all_goals (refine' cb_retI (Q := Q) hret ?e1 ?e2 ?e3; (case e2 => k_asm); (case e3 => first | k_asm | (refine' cb_drop ?cbN ?cbS; (case cbN => assumption); (case cbS => kcj_all))); (case e1 => (rfl)))
theorem week_day_c (hdp : dp + 10 < recursionLimit) (hun : un + 60 < cLine) {v : Int} {tv : Tok}  (hret : ∀ (t : Tok) (h' : Heap) (tk' : Nat), Fr h₀ L h' m → News h₀ L h' news → Q (.int ((v.fdiv 86400000 + 4).fmod 7) t) { s with heap := h', toks := tk' }) :
    wpAny (model Challenge.rw_nt0343_01.row.prog w) (ktrTop dp un gd cn cs L a ccd cl outer) (call (.ref 92) [.int v tv]) Q E s := by
  k_with "zzc" => apply date_of_c
  revert X; k_fill; intro X
  refine wpAny_call ?_
  k_dflt cell_enter
  k_steps
  all_goals (refine' cb_retI (Q := Q) hret ?e1 ?e2 ?e3; (case e2 => k_asm); (case e3 => first | k_asm | (refine' cb_drop ?cbN ?cbS; (case cbN => assumption); (case cbS => kcj_all))); (case e1 => (rfl)))
theorem hour_c (hdp : dp + 10 < recursionLimit) (hun : un + 60 < cLine) {v : Int} {tv : Tok}  (hret : ∀ (t : Tok) (h' : Heap) (tk' : Nat), Fr h₀ L h' m → News h₀ L h' news → Q (.int ((v.fmod 86400000).fdiv 3600000) t) { s with heap := h', toks := tk' }) :
    wpAny (model Challenge.rw_nt0343_01.row.prog w) (ktrTop dp un gd cn cs L a ccd cl outer) (call (.ref 99) [.int v tv]) Q E s := by
  k_with "zzc" => apply week_day_c
  revert X; k_fill; intro X
  refine wpAny_call ?_
  k_dflt cell_enter
  k_steps
  all_goals (refine' cb_retI (Q := Q) hret ?e1 ?e2 ?e3; (case e2 => k_asm); (case e3 => first | k_asm | (refine' cb_drop ?cbN ?cbS; (case cbN => assumption); (case cbS => kcj_all))); (case e1 => (rfl)))
theorem minute_c (hdp : dp + 10 < recursionLimit) (hun : un + 60 < cLine) {v : Int} {tv : Tok}  (hret : ∀ (t : Tok) (h' : Heap) (tk' : Nat), Fr h₀ L h' m → News h₀ L h' news → Q (.int (((v.fmod 86400000).fdiv 60000).fmod 60) t) { s with heap := h', toks := tk' }) :
    wpAny (model Challenge.rw_nt0343_01.row.prog w) (ktrTop dp un gd cn cs L a ccd cl outer) (call (.ref 106) [.int v tv]) Q E s := by
  k_with "zzc" => apply hour_c
  revert X; k_fill; intro X
  refine wpAny_call ?_
  k_dflt cell_enter
  k_steps
  all_goals (refine' cb_retI (Q := Q) hret ?e1 ?e2 ?e3; (case e2 => k_asm); (case e3 => first | k_asm | (refine' cb_drop ?cbN ?cbS; (case cbN => assumption); (case cbS => kcj_all))); (case e1 => (rfl)))
theorem second_c (hdp : dp + 10 < recursionLimit) (hun : un + 60 < cLine) {v : Int} {tv : Tok}  (hret : ∀ (t : Tok) (h' : Heap) (tk' : Nat), Fr h₀ L h' m → News h₀ L h' news → Q (.int (((v.fmod 86400000).fdiv 1000).fmod 60) t) { s with heap := h', toks := tk' }) :
    wpAny (model Challenge.rw_nt0343_01.row.prog w) (ktrTop dp un gd cn cs L a ccd cl outer) (call (.ref 113) [.int v tv]) Q E s := by
  k_with "zzc" => apply minute_c
  revert X; k_fill; intro X
  refine wpAny_call ?_
  k_dflt cell_enter
  k_steps
  all_goals (refine' cb_retI (Q := Q) hret ?e1 ?e2 ?e3; (case e2 => k_asm); (case e3 => first | k_asm | (refine' cb_drop ?cbN ?cbS; (case cbN => assumption); (case cbS => kcj_all))); (case e1 => (rfl)))
theorem ms_c (hdp : dp + 10 < recursionLimit) (hun : un + 60 < cLine) {v : Int} {tv : Tok}  (hret : ∀ (t : Tok) (h' : Heap) (tk' : Nat), Fr h₀ L h' m → News h₀ L h' news → Q (.int (v.fmod 1000) t) { s with heap := h', toks := tk' }) :
    wpAny (model Challenge.rw_nt0343_01.row.prog w) (ktrTop dp un gd cn cs L a ccd cl outer) (call (.ref 120) [.int v tv]) Q E s := by
  k_with "zzc" => apply second_c
  revert X; k_fill; intro X
  refine wpAny_call ?_
  k_dflt cell_enter
  k_steps
  all_goals (refine' cb_retI (Q := Q) hret ?e1 ?e2 ?e3; (case e2 => k_asm); (case e3 => first | k_asm | (refine' cb_drop ?cbN ?cbS; (case cbN => assumption); (case cbS => kcj_all))); (case e1 => (rfl)))
theorem full_year_c (hdp : dp + 10 < recursionLimit) (hun : un + 60 < cLine) {v : Int} {tv : Tok}  (hret : ∀ (t : Tok) (h' : Heap) (tk' : Nat), Fr h₀ L h' m → News h₀ L h' news → Q (.int (if 0 ≤ v ∧ v ≤ 99 then 1900 + v else v) t) { s with heap := h', toks := tk' }) :
    wpAny (model Challenge.rw_nt0343_01.row.prog w) (ktrTop dp un gd cn cs L a ccd cl outer) (call (.ref 169) [.int v tv]) Q E s := by
  k_with "zzc" => apply ms_c
  revert X; k_fill; intro X
  refine wpAny_call ?_
  k_dflt cell_enter
  k_steps
  all_goals (refine' cb_retI (Q := Q) hret ?e1 ?e2 ?e3; (case e2 => k_asm); (case e3 => first | k_asm | (refine' cb_drop ?cbN ?cbS; (case cbN => assumption); (case cbS => kcj_all))); (case e1 => (split <;> omega)))
theorem make_time_c (hdp : dp + 25 < recursionLimit) (hun : un + 150 < cLine) {h : Int} {th : Tok} {m1 : Int} {tm1 : Tok} {s1 : Int} {ts1 : Tok} {ms : Int} {tms : Tok}  (hret : ∀ (t : Tok) (h' : Heap) (tk' : Nat), Fr h₀ L h' m → News h₀ L h' news → Q (.int (h * 3600000 + m1 * 60000 + s1 * 1000 + ms) t) { s with heap := h', toks := tk' }) :
    wpAny (model Challenge.rw_nt0343_01.row.prog w) (ktrTop dp un gd cn cs L a ccd cl outer) (call (.ref 134) [.int h th, .int m1 tm1, .int s1 ts1, .int ms tms]) Q E s := by
  revert X; k_fill; intro X
  refine wpAny_call ?_
  k_dflt cell_enter
  k_steps
  all_goals (refine' cb_retI (Q := Q) hret ?e1 ?e2 ?e3; (case e2 => k_asm); (case e3 => first | k_asm | (refine' cb_drop ?cbN ?cbS; (case cbN => assumption); (case cbS => kcj_all))); (case e1 => (rfl)))
theorem make_day_c (hdp : dp + 25 < recursionLimit) (hun : un + 150 < cLine) {y : Int} {ty : Tok} {m1 : Int} {tm1 : Tok} {d1 : Int} {td1 : Tok}  (hret : ∀ (t : Tok) (h' : Heap) (tk' : Nat), Fr h₀ L h' m → News h₀ L h' news → Q (.int (dayFrom y m1 d1) t) { s with heap := h', toks := tk' }) :
    wpAny (model Challenge.rw_nt0343_01.row.prog w) (ktrTop dp un gd cn cs L a ccd cl outer) (call (.ref 141) [.int y ty, .int m1 tm1, .int d1 td1]) Q E s := by
  k_with "zzc" => apply make_time_c
  revert X; k_fill; intro X
  refine wpAny_call ?_
  k_dflt cell_enter
  k_steps
  all_goals (refine' cb_retI (Q := Q) hret ?e1 ?e2 ?e3; (case e2 => k_asm); (case e3 => first | k_asm | (refine' cb_drop ?cbN ?cbS; (case cbN => assumption); (case cbS => kcj_all))); (case e1 => (rfl)))
theorem make_date_c (hdp : dp + 10 < recursionLimit) (hun : un + 60 < cLine) {d1 : Int} {td1 : Tok} {c1 : Int} {tc1 : Tok}  (hret : ∀ (t : Tok) (h' : Heap) (tk' : Nat), Fr h₀ L h' m → News h₀ L h' news → Q (.int (d1 * 86400000 + c1) t) { s with heap := h', toks := tk' }) :
    wpAny (model Challenge.rw_nt0343_01.row.prog w) (ktrTop dp un gd cn cs L a ccd cl outer) (call (.ref 148) [.int d1 td1, .int c1 tc1]) Q E s := by
  k_with "zzc" => apply make_day_c
  revert X; k_fill; intro X
  refine wpAny_call ?_
  k_dflt cell_enter
  k_steps
  all_goals (refine' cb_retI (Q := Q) hret ?e1 ?e2 ?e3; (case e2 => k_asm); (case e3 => first | k_asm | (refine' cb_drop ?cbN ?cbS; (case cbN => assumption); (case cbS => kcj_all))); (case e1 => (rfl)))
theorem months_c (hdp : dp + 10 < recursionLimit) (hun : un + 100 < cLine) {y : Int} {ty : Tok} (hret : ∀ (D : Addr) (a1 a2 a3 a4 a5 a6 a7 a8 a9 a10 a11 a12 : Tok) (h' : Heap) (tk' : Nat), Fr h₀ L h' m → News h₀ L h' ((D, listOf [Value.int 31 a1, Value.int (long y - 337) a2, Value.int 31 a3, Value.int 30 a4, Value.int 31 a5, Value.int 30 a6, Value.int 31 a7, Value.int 31 a8, Value.int 30 a9, Value.int 31 a10, Value.int 30 a11, Value.int 31 a12].toArray 0) :: news) → AllLt D news → Q (.ref D) { s with heap := h', toks := tk' }) :
    wpAny (model Challenge.rw_nt0343_01.row.prog w) (ktrTop dp un gd cn cs L a ccd cl outer) (call (.ref 190) [.int y ty]) Q E s := by
  k_with "zzc" => apply make_date_c
  revert X; k_fill; intro X
  refine wpAny_call ?_
  k_dflt cell_enter
  k_steps
  all_goals (refine' months_ret (Q := Q) hret ?e1 ?e2 ?e3; (case e1 => k_asm); (case e2 => assumption); (case e3 => first | assumption | exact allLt_of (by assumption)))
theorem law_day_c (hdp : dp + 20 < recursionLimit) (hun : un + 200 < cLine) {d : Int} {td : Tok} (hret : ∀ (D : Addr) (t1 t2 t3 : Tok) (h' : Heap) (tk' : Nat), Fr h₀ L h' m → News h₀ L h' ((D, dueObj d t1 t2 t3) :: news) → AllLt D news → Q (.ref D) { s with heap := h', toks := tk' }) :
    wpAny (model Challenge.rw_nt0343_01.row.prog w) (ktrTop dp un gd cn cs L a ccd cl outer) (call (.ref 204) [.int d td]) Q E s := by
  revert X; k_fill; intro X
  k_with_none
  k_with "zzk" => ((case B => k_asm); (case F => k_asm); (case X => k_asm); (case T => k_asm); (case hk => first | exact rfl | assumption); (case hdp => ktr_room); (case hun => ktr_units))
  k_with "zzd" => ((case hs => k_mem); (case hap => k_all); (case hi => first | assumption | l_ints); (case hlen => first | assumption | l_fit); (case hn0 => first | decide | assumption | omega | l_fact))
  k_with "zzt" => ((try dsimp only); (try k_fold))
  k_with "call ref" => (k_here; k_dflt (walk_at "zzc"; (case N => k_asm); walk_at "zzk"; k_whole); intro t9 h9 tk9 F9 N9; walk_at "zzt")
  k_with "call ref" => (k_here; k_dflt (walk_at "zzp"; (case N => k_asm); walk_at "zzk"; (case h0 => first | assumption | exact monthOf_lo _ | exact monthOf_hi _ | exact fm12_lo _ | exact fm12_hi _ | omega | l_fact | (simp only [*] at *; omega)); (case h1 => first | assumption | exact monthOf_lo _ | exact monthOf_hi _ | exact fm12_lo _ | exact fm12_hi _ | omega | l_fact | (simp only [*] at *; omega)); k_whole); intro t9 h9 tk9 F9 N9; walk_at "zzt")
  k_with "call ref" => (k_here; k_dflt (walk_at "zzn"; (case N => k_asm); walk_at "zzk"; k_whole); intro h9 tk9 F9 N9; walk_at "zzt")
  k_with "eval Call" => (k_here; k_dflt (refine Call_ ?_))
  k_with "call ref" => (k_here; (with_reducible show wpAny _ _ (call (Value.ref 176) _ _) _ _ _); k_dflt ((first | (apply draw_0; (case N => k_asm)) | (apply draw_1; (case N => k_asm)) | (apply draw_3; (case N => k_asm))); walk_at "zzk"; walk_at "zzd"; (case hm => first | decide | assumption | exact len_pos (by assumption) | omega | l_fact | (simp only [*] at *; omega)); k_whole); intro x9 n9 r9 t9 u9 v9 h9 tk9 q0 q1 q2 F9 N9; walk_at "zzt")
  k_with "call ref" => (k_here; (with_reducible show wpAny _ _ (call (Value.ref 211) _ _) _ _ _); k_dflt ((first | (apply lyear_0; (case N => k_asm))); walk_at "zzk"; walk_at "zzd"; k_whole); intro x9 n9 r9 t9 u9 v9 h9 tk9 q0 F9 N9; walk_at "zzt")
  k_with "call ref" => (k_here; (with_reducible show wpAny _ _ (call (Value.ref 218) _ _) _ _ _); k_dflt ((first | (apply lclock_0; (case N => k_asm))); walk_at "zzk"; walk_at "zzd"; k_whole); intro x9 n9 r9 t9 u9 v9 h9 tk9 q0 q1 q2 F9 N9; walk_at "zzt")
  k_with "zzc" => apply day_of_c
  k_with "zzc" => apply time_in_day_c
  k_with "zzc" => apply is_leap_c
  k_with "zzc" => apply dfy_c
  k_with "zzc" => apply long_c
  k_with "zzc" => apply first_c
  k_with "zzc" => apply year_of_day_c
  k_with "subscriptTail" => (k_here; (with_reducible show wpAny _ _ (subscriptTail _ _ (Value.ref 15) (Value.int _ _)) _ _ _); (with_unfolding_all (refine' topListAny_K (ns := aheadL) ?F ?X ?l ?i ?k3 ?k4 ?k5 ?_; (case F => k_asm); (case X => k_asm); (case l => k_is); (case i => (unfold aheadL; l_ints)); (case k3 => l_idx); (case k4 => (show _ < 13); omega); (case k5 => l_idx); k_whole)); intro _)
  k_with "zzc" => apply year_of_c
  k_with "zzc" => apply day_in_year_c
  k_with "zzp" => apply days_ahead_c
  k_with "zzc" => apply month_of_c
  k_with "compareOp In" => (k_here; (with_reducible show wpAny _ _ (compareOp CmpOp.In Value.none (Value.ref _)) _ _ _); k_dflt (refine' none_in_tuple ?N ?a ?o ?u ?_; (case N => k_asm); (case a => k_mem); (case o => (repeat' (first | exact OptAre.nil | refine' OptAre.int ?_ | refine' OptAre.none ?_))); (case u => ktr_units); k_whole); (try simp only [List.any_cons, List.any_nil, Option.isNone_some, Option.isNone_none, Bool.or_false, Bool.or_true, Bool.false_or, Bool.true_or]))
  k_with "zzc" => apply date_of_c
  k_with "zzc" => apply week_day_c
  k_with "zzc" => apply hour_c
  k_with "zzc" => apply minute_c
  k_with "zzc" => apply second_c
  k_with "zzc" => apply ms_c
  k_with "zzc" => apply make_time_c
  k_with "zzc" => apply make_day_c
  k_with "zzc" => apply make_date_c
  k_with "call ref" => (k_here; (with_reducible show wpAny _ _ (call (Value.ref 190) _ _) _ _ _); k_dflt (apply months_c; (case N => k_asm); walk_at "zzk"; k_whole); intro D9 a1 a2 a3 a4 a5 a6 a7 a8 a9 a10 a11 a12 h9 tk9 F9 N9 l9; (try simp only [AllLt, and_true] at l9); walk_at "zzt")
  k_with "exec While Compare cons nil" => k_while_given ["number"] (fun number script rest year => rest + dfy year = number ∧ 0 ≤ rest) (fun number script rest year => rest.toNat) "rest" "year"
  k_with "exec While Compare cons nil" => k_while_given ["number", "year"] (fun number year script rest month => 0 ≤ month ∧ month ≤ 11 ∧ rest = number - dfy year - ahead month (leap year) ∧ 0 ≤ rest ∧ number < dfy (year + 1)) (fun number year script rest month => (12 - month).toNat) "rest" "month"
  k_with "state" => first | exact dayA0 _ | exact dayB0 (by assumption) (by assumption) (by assumption) | exact dayB1 (by assumption) (by assumption) (by assumption) (by assumption) (by assumption) (by assumption) | exact dayA1 (by assumption) (by assumption)
  k_with "measure" => first | exact dayAm (by assumption) | omega
  refine wpAny_call ?_
  k_dflt cell_enter
  k_steps
  all_goals (refine' due_ret (Q := Q) hret ?e1 ?e2 ?e7 ?e8 ?e3 ?e4 ?e5 ?e6; (case e1 => k_asm); (case e2 => assumption); (case e7 => k_mem); (case e8 => intro p hp; (repeat (first | exact hp | refine List.Mem.tail _ ?_))); (case e3 => first | assumption | exact allLt_of (by assumption) | exact And.right (by assumption) | exact And.right (And.right (by assumption)) | exact And.right (And.right (And.right (by assumption)))); (case e4 => exact dayY (by assumption) (by assumption) (by assumption) (by assumption) (by assumption)); (case e5 => exact dayM (by assumption) (by assumption) (by assumption) (by assumption) (by assumption) (by assumption)); (case e6 => exact dayD (by assumption) (by assumption) (by assumption) (by assumption) (by assumption) (by assumption)))
theorem year_of_s (hdp : dp + 15 < recursionLimit) (hun : un + 90 < cLine) {d c : Int} {tv : Tok} (h0 : 0 ≤ c) (h1 : c < 86400000) (hret : ∀ (t : Tok) (h' : Heap) (tk' : Nat), Fr h₀ L h' m → News h₀ L h' news → Q (.int (yearOf d) t) { s with heap := h', toks := tk' }) :
    wpAny (model Challenge.rw_nt0343_01.row.prog w) (ktrTop dp un gd cn cs L a ccd cl outer) (call (.ref 57) [.int (d * 86400000 + c) tv]) Q E s := year_of_c B F X N T hk hdp hun (by rw [tdiv h0 h1]; exact hret)
theorem day_in_year_s (hdp : dp + 20 < recursionLimit) (hun : un + 120 < cLine) {d c : Int} {tv : Tok} (h0 : 0 ≤ c) (h1 : c < 86400000) (hret : ∀ (t : Tok) (h' : Heap) (tk' : Nat), Fr h₀ L h' m → News h₀ L h' news → Q (.int (d - dfy (yearOf d)) t) { s with heap := h', toks := tk' }) :
    wpAny (model Challenge.rw_nt0343_01.row.prog w) (ktrTop dp un gd cn cs L a ccd cl outer) (call (.ref 64) [.int (d * 86400000 + c) tv]) Q E s := day_in_year_c B F X N T hk hdp hun (by rw [tdiv h0 h1]; exact hret)
theorem month_of_s (hdp : dp + 25 < recursionLimit) (hun : un + 150 < cLine) {d c : Int} {tv : Tok} (h0 : 0 ≤ c) (h1 : c < 86400000) (hret : ∀ (t : Tok) (h' : Heap) (tk' : Nat), Fr h₀ L h' m → News h₀ L h' news → Q (.int (monthOf d) t) { s with heap := h', toks := tk' }) :
    wpAny (model Challenge.rw_nt0343_01.row.prog w) (ktrTop dp un gd cn cs L a ccd cl outer) (call (.ref 78) [.int (d * 86400000 + c) tv]) Q E s := month_of_c B F X N T hk hdp hun (by rw [tdiv h0 h1]; exact hret)
theorem date_of_s (hdp : dp + 30 < recursionLimit) (hun : un + 180 < cLine) {d c : Int} {tv : Tok} (h0 : 0 ≤ c) (h1 : c < 86400000) (hret : ∀ (t : Tok) (h' : Heap) (tk' : Nat), Fr h₀ L h' m → News h₀ L h' news → Q (.int (dateOf d) t) { s with heap := h', toks := tk' }) :
    wpAny (model Challenge.rw_nt0343_01.row.prog w) (ktrTop dp un gd cn cs L a ccd cl outer) (call (.ref 85) [.int (d * 86400000 + c) tv]) Q E s := date_of_c B F X N T hk hdp hun (by rw [tdiv h0 h1]; exact hret)
theorem week_day_s (hdp : dp + 10 < recursionLimit) (hun : un + 60 < cLine) {d c : Int} {tv : Tok} (h0 : 0 ≤ c) (h1 : c < 86400000) (hret : ∀ (t : Tok) (h' : Heap) (tk' : Nat), Fr h₀ L h' m → News h₀ L h' news → Q (.int ((d.fmod 7 + 4).fmod 7) t) { s with heap := h', toks := tk' }) :
    wpAny (model Challenge.rw_nt0343_01.row.prog w) (ktrTop dp un gd cn cs L a ccd cl outer) (call (.ref 92) [.int (d * 86400000 + c) tv]) Q E s := week_day_c B F X N T hk hdp hun (by rw [tdiv h0 h1, twd]; exact hret)
theorem hour_s (hdp : dp + 10 < recursionLimit) (hun : un + 60 < cLine) {d c : Int} {tv : Tok} (h0 : 0 ≤ c) (h1 : c < 86400000) (hret : ∀ (t : Tok) (h' : Heap) (tk' : Nat), Fr h₀ L h' m → News h₀ L h' news → Q (.int (c.fdiv 3600000) t) { s with heap := h', toks := tk' }) :
    wpAny (model Challenge.rw_nt0343_01.row.prog w) (ktrTop dp un gd cn cs L a ccd cl outer) (call (.ref 99) [.int (d * 86400000 + c) tv]) Q E s := hour_c B F X N T hk hdp hun (by rw [tmod h0 h1]; exact hret)
theorem minute_s (hdp : dp + 10 < recursionLimit) (hun : un + 60 < cLine) {d c : Int} {tv : Tok} (h0 : 0 ≤ c) (h1 : c < 86400000) (hret : ∀ (t : Tok) (h' : Heap) (tk' : Nat), Fr h₀ L h' m → News h₀ L h' news → Q (.int ((c.fdiv 60000).fmod 60) t) { s with heap := h', toks := tk' }) :
    wpAny (model Challenge.rw_nt0343_01.row.prog w) (ktrTop dp un gd cn cs L a ccd cl outer) (call (.ref 106) [.int (d * 86400000 + c) tv]) Q E s := minute_c B F X N T hk hdp hun (by rw [tmod h0 h1]; exact hret)
theorem second_s (hdp : dp + 10 < recursionLimit) (hun : un + 60 < cLine) {d c : Int} {tv : Tok} (h0 : 0 ≤ c) (h1 : c < 86400000) (hret : ∀ (t : Tok) (h' : Heap) (tk' : Nat), Fr h₀ L h' m → News h₀ L h' news → Q (.int ((c.fdiv 1000).fmod 60) t) { s with heap := h', toks := tk' }) :
    wpAny (model Challenge.rw_nt0343_01.row.prog w) (ktrTop dp un gd cn cs L a ccd cl outer) (call (.ref 113) [.int (d * 86400000 + c) tv]) Q E s := second_c B F X N T hk hdp hun (by rw [tmod h0 h1]; exact hret)
theorem ms_s (hdp : dp + 10 < recursionLimit) (hun : un + 60 < cLine) {d c : Int} {tv : Tok} (h0 : 0 ≤ c) (h1 : c < 86400000) (hret : ∀ (t : Tok) (h' : Heap) (tk' : Nat), Fr h₀ L h' m → News h₀ L h' news → Q (.int (c.fmod 1000) t) { s with heap := h', toks := tk' }) :
    wpAny (model Challenge.rw_nt0343_01.row.prog w) (ktrTop dp un gd cn cs L a ccd cl outer) (call (.ref 120) [.int (d * 86400000 + c) tv]) Q E s := ms_c B F X N T hk hdp hun (by rw [tms]; exact hret)
theorem make_day_s (hdp : dp + 25 < recursionLimit) (hun : un + 150 < cLine) {d : Int} {ty tm1 td1 : Tok} (hret : ∀ (t : Tok) (h' : Heap) (tk' : Nat), Fr h₀ L h' m → News h₀ L h' news → Q (.int (d) t) { s with heap := h', toks := tk' }) :
    wpAny (model Challenge.rw_nt0343_01.row.prog w) (ktrTop dp un gd cn cs L a ccd cl outer) (call (.ref 141) [.int (yearOf d) ty, .int (monthOf d) tm1, .int (dateOf d) td1]) Q E s := make_day_c B F X N T hk hdp hun (by rw [tback]; exact hret)
theorem make_day_m (hdp : dp + 25 < recursionLimit) (hun : un + 150 < cLine) {y m1 d1 : Int} {ty tm1 td1 : Tok} (hret : ∀ (t : Tok) (h' : Heap) (tk' : Nat), Fr h₀ L h' m → News h₀ L h' news → Q (.int (dfy (y + m1.fdiv 12) + (List.take (m1.fmod 12).toNat [31, long (y + m1.fdiv 12) - 337, 31, 30, 31, 30, 31, 31, 30, 31, 30, 31]).sum + d1 - 1) t) { s with heap := h', toks := tk' }) :
    wpAny (model Challenge.rw_nt0343_01.row.prog w) (ktrTop dp un gd cn cs L a ccd cl outer) (call (.ref 141) [.int y ty, .int m1 tm1, .int d1 td1]) Q E s := make_day_c B F X N T hk hdp hun (by rw [dayFrom_sum]; exact hret)
theorem full_year_s (hdp : dp + 10 < recursionLimit) (hun : un + 60 < cLine) {v : Int} {tv : Tok}
    (hret1 : ∀ (t : Tok) (h' : Heap) (tk' : Nat), 0 ≤ v → v ≤ 99 → Fr h₀ L h' m → News h₀ L h' news → Q (.int (1900 + v) t) { s with heap := h', toks := tk' })
    (hret2 : ∀ (t : Tok) (h' : Heap) (tk' : Nat), ¬ (0 ≤ v ∧ v ≤ 99) → True → Fr h₀ L h' m → News h₀ L h' news → Q (.int v t) { s with heap := h', toks := tk' }) :
    wpAny (model Challenge.rw_nt0343_01.row.prog w) (ktrTop dp un gd cn cs L a ccd cl outer) (call (.ref 169) [.int v tv]) Q E s := by
  refine full_year_c B F X N T hk hdp hun fun t h' tk' F' N' => ?_
  by_cases c : 0 ≤ v ∧ v ≤ 99
  · rw [if_pos c]; exact hret1 t h' tk' c.1 c.2 F' N'
  · rw [if_neg c]; exact hret2 t h' tk' c True.intro F' N'
theorem time_clip_c (hdp : dp + 10 < recursionLimit) (hun : un + 60 < cLine) {v : Int} {tv : Tok} (hret1 : ∀ (t : Tok) (h' : Heap) (tk' : Nat), -8640000000000000 ≤ v → v ≤ 8640000000000000 → Fr h₀ L h' m → News h₀ L h' news → Q (.int (v) t) { s with heap := h', toks := tk' })
    (hret2 : ∀ (t : Tok) (h' : Heap) (tk' : Nat), ¬ (-8640000000000000 ≤ v ∧ v ≤ 8640000000000000) → True → Fr h₀ L h' m → News h₀ L h' news → Q .none { s with heap := h', toks := tk' }) :
    wpAny (model Challenge.rw_nt0343_01.row.prog w) (ktrTop dp un gd cn cs L a ccd cl outer) (call (.ref 155) [.int v tv]) Q E s := by
  k_with "call ref" => (k_here; (with_reducible show wpAny _ _ (call (Value.ref 204) _ _) _ _ _); k_dflt (apply law_day_c; (case N => k_asm); walk_at "zzk"; k_whole); intro D9 t9 u9 v9 h9 tk9 F9 N9 l9; (try simp only [AllLt, and_true] at l9); walk_at "zzt")
  k_with "zzp" => apply year_of_s
  k_with "zzp" => apply day_in_year_s
  k_with "zzp" => apply month_of_s
  k_with "zzp" => apply date_of_s
  k_with "zzp" => apply week_day_s
  k_with "zzp" => apply hour_s
  k_with "zzp" => apply minute_s
  k_with "zzp" => apply second_s
  k_with "zzp" => apply ms_s
  k_with "zzc" => apply make_day_m
  k_with "zzc" => apply make_day_s
  k_with "call ref" => (k_here; (with_reducible show wpAny _ _ (call (Value.ref 169) _ _) _ _ _); (k_dflt (apply full_year_s; (case N => k_asm); walk_at "zzk")) <;> (intro t9 h9 tk9 q1 q2 F9 N9; walk_at "zzt"))
  revert X; k_fill; intro X
  refine wpAny_call ?_
  k_dflt cell_enter
  k_steps
  all_goals first
    | (refine' cb_retI (Q := Q) (fun t h' tk' => hret1 t h' tk' ?e4 ?e5) rfl ?e2 ?e3; (case e2 => k_asm); (case e3 => first | k_asm | (refine' cb_drop ?cbN ?cbS; (case cbN => assumption); (case cbS => kcj_all))); (case e4 => omega); (case e5 => omega))
    | (refine' none_ret (Q := Q) (fun h' tk' => hret2 0 h' tk' ?e4 True.intro) ?e2 ?e3; (case e2 => k_asm); (case e3 => first | k_asm | (refine' cb_drop ?cbN ?cbS; (case cbN => assumption); (case cbS => kcj_all))); (case e4 => omega))
theorem time_clip_n (hdp : dp + 10 < recursionLimit) (hun : un + 60 < cLine) (hret : ∀ (h' : Heap) (tk' : Nat), Fr h₀ L h' m → News h₀ L h' news → Q .none { s with heap := h', toks := tk' }) :
    wpAny (model Challenge.rw_nt0343_01.row.prog w) (ktrTop dp un gd cn cs L a ccd cl outer) (call (.ref 155) [.none]) Q E s := by
  k_with "call ref" => (k_here; (with_reducible show wpAny _ _ (call (Value.ref 155) [Value.int _ _] _) _ _ _); (k_dflt (apply time_clip_c; (case N => k_asm); walk_at "zzk")) <;> (intro t9 h9 tk9 q1 q2 F9 N9; first | exact absurd q1 (by decide) | exact absurd q2 (by decide) | walk_at "zzt"))
  revert X; k_fill; intro X
  refine wpAny_call ?_
  k_dflt cell_enter
  k_steps
  all_goals (refine' none_ret (Q := Q) (hret) ?e2 ?e3; (case e2 => k_asm); (case e3 => first | k_asm | (refine' cb_drop ?cbN ?cbS; (case cbN => assumption); (case cbS => kcj_all))))
theorem make_day_n (hdp : dp + 25 < recursionLimit) (hun : un + 150 < cLine) {y e : Int} {ty te : Tok} (hret : ∀ (h' : Heap) (tk' : Nat), Fr h₀ L h' m → News h₀ L h' news → Q .none { s with heap := h', toks := tk' }) :
    wpAny (model Challenge.rw_nt0343_01.row.prog w) (ktrTop dp un gd cn cs L a ccd cl outer) (call (.ref 141) [.int y ty, .none, .int e te]) Q E s := by
  k_with "zzn" => apply time_clip_n
  revert X; k_fill; intro X
  refine wpAny_call ?_
  k_dflt cell_enter
  k_steps
  all_goals (refine' none_ret (Q := Q) (hret) ?e2 ?e3; (case e2 => k_asm); (case e3 => first | k_asm | (refine' cb_drop ?cbN ?cbS; (case cbN => assumption); (case cbS => kcj_all))))
theorem make_date_n (hdp : dp + 10 < recursionLimit) (hun : un + 60 < cLine) {y : Int} {ty : Tok} (hret : ∀ (h' : Heap) (tk' : Nat), Fr h₀ L h' m → News h₀ L h' news → Q .none { s with heap := h', toks := tk' }) :
    wpAny (model Challenge.rw_nt0343_01.row.prog w) (ktrTop dp un gd cn cs L a ccd cl outer) (call (.ref 148) [.none, .int y ty]) Q E s := by
  k_with "zzn" => apply make_day_n
  revert X; k_fill; intro X
  refine wpAny_call ?_
  k_dflt cell_enter
  k_steps
  all_goals (refine' none_ret (Q := Q) (hret) ?e2 ?e3; (case e2 => k_asm); (case e3 => first | k_asm | (refine' cb_drop ?cbN ?cbS; (case cbN => assumption); (case cbS => kcj_all))))
theorem make_time_n (hdp : dp + 25 < recursionLimit) (hun : un + 150 < cLine) {x y z : Int} {tx ty tz : Tok} (hret : ∀ (h' : Heap) (tk' : Nat), Fr h₀ L h' m → News h₀ L h' news → Q .none { s with heap := h', toks := tk' }) :
    wpAny (model Challenge.rw_nt0343_01.row.prog w) (ktrTop dp un gd cn cs L a ccd cl outer) (call (.ref 134) [.int x tx, .int y ty, .none, .int z tz]) Q E s := by
  k_with "zzn" => apply make_date_n
  revert X; k_fill; intro X
  refine wpAny_call ?_
  k_dflt cell_enter
  k_steps
  all_goals (refine' none_ret (Q := Q) (hret) ?e2 ?e3; (case e2 => k_asm); (case e3 => first | k_asm | (refine' cb_drop ?cbN ?cbS; (case cbN => assumption); (case cbS => kcj_all))))
theorem fields_of_c (hdp : dp + 40 < recursionLimit) (hun : un + 250 < cLine) {d c : Int} {tv : Tok} (h0 : 0 ≤ c) (h1 : c < 86400000) (hret : ∀ (D : Addr) (t1 t2 t3 t4 t5 t6 t7 : Tok) (h' : Heap) (tk' : Nat), Fr h₀ L h' m → News h₀ L h' ((D, fieldsObj d c t1 t2 t3 t4 t5 t6 t7) :: news) → AllLt D news → Q (.ref D) { s with heap := h', toks := tk' }) :
    wpAny (model Challenge.rw_nt0343_01.row.prog w) (ktrTop dp un gd cn cs L a ccd cl outer) (call (.ref 127) [.int (d * 86400000 + c) tv]) Q E s := by
  k_with "zzn" => apply make_time_n
  revert X; k_fill; intro X
  refine wpAny_call ?_
  k_dflt cell_enter
  k_steps
  all_goals (refine' fields_ret (Q := Q) hret ?e1 ?e2 ?e3 ?e4 ?e5; (case e1 => k_asm); (case e2 => assumption); (case e3 => unfold fieldsObj; k_mem); (case e4 => intro p hp; (repeat (first | exact hp | refine List.Mem.tail _ ?_))); (case e5 => first | assumption | exact allLt_of (by assumption) | exact And.right (by assumption) | exact And.right (And.right (by assumption)) | exact And.right (And.right (And.right (by assumption)))))
theorem time_of_fields_c (hdp : dp + 40 < recursionLimit) (hun : un + 250 < cLine) {d c : Int} {D : Addr} {t1 t2 t3 t4 t5 t6 t7 : Tok} (hD : (D, fieldsObj d c t1 t2 t3 t4 t5 t6 t7) ∈ news) (h0 : 0 ≤ c) (h1 : c < 86400000) (hret : ∀ (t : Tok) (h' : Heap) (tk' : Nat), Fr h₀ L h' m → News h₀ L h' news → Q (.int (d * 86400000 + c) t) { s with heap := h', toks := tk' }) :
    wpAny (model Challenge.rw_nt0343_01.row.prog w) (ktrTop dp un gd cn cs L a ccd cl outer) (call (.ref 162) [.ref D]) Q E s := by
  k_with "call ref" => (k_here; (with_reducible show wpAny _ _ (call (Value.ref 127) _ _) _ _ _); k_dflt (apply fields_of_c; (case N => k_asm); walk_at "zzk"; (case h0 => assumption); (case h1 => assumption); k_whole); intro D9 t1 t2 t3 t4 t5 t6 t7 h9 tk9 F9 N9 l9; (try simp only [AllLt, and_true] at l9); walk_at "zzt")
  unfold fieldsObj at hD
  revert X; k_fill; intro X
  refine wpAny_call ?_
  k_dflt cell_enter
  k_steps
  all_goals (refine' cb_retI (Q := Q) hret ?e1 ?e2 ?e3; (case e2 => k_asm); (case e3 => first | k_asm | (refine' cb_drop ?cbN ?cbS; (case cbN => assumption); (case cbS => kcj_all))); (case e1 => exact back_eq h0))
omit B F X N T hk
local macro_rules | `(tactic| k_ne) => `(tactic| (refine neN ?_; (try dsimp only); first | with_reducible assumption | (refine Ne.symm ?_; with_reducible assumption)))
theorem main : PySem.Challenge.rw_nt0343_01.Holds := hd (by
  k_with "call ref" => (k_here; (with_reducible show wpAny _ _ (call (Value.ref 162) _ _) _ _ _); k_dflt (apply time_of_fields_c; (case N => k_asm); walk_at "zzk"; (case hD => k_mem); (case h0 => assumption); (case h1 => assumption); k_whole); intro t9 h9 tk9 F9 N9; walk_at "zzt")
  k_with "subscriptTail Call" => (k_here; k_dflt (refine' slice_h ?zF ?zN ?zl ?zp ?zq ?zi ?zm ?zc ?_ ?zs ?zz; (case zF => k_asm); (case zN => k_asm); (case zl => kmk_list); (case zp => kmk_part); (case zq => kmk_part); (case zi => l_ints); (case zm => exact kmk_upto (by l_ints) (fm12_lo _)); (case zc => kmk_len); (case zs => with_unfolding_all rfl); (case zz => kmk_size)); intro D' ws' h' F' N' l1 hI' hC' hL'; (try k_lt l1))
  k_with "CompSrc" => (k_here; k_dflt (refine LCg.CompSrc.range (by rfl) (by k_asm) (by k_asm) (by assumption) (by first | decide | rfl) (by first | rfl | decide) (by first | size_fits | exact Nat.le_of_ble_eq_true rfl) ?_; intro g'; lcg_lit))
  k_with "eval ListComp" => (k_here; (with_reducible show wpAny _ _ (eval (Expr.ListComp (Expr.Call (Expr.Name (Str.ofString "time_clip") _) _ _ _) _ _ _) _) _ _ _); k_dflt (refine LCg.ListComp_U (F₀ := by k_asm) (by rfl) (by decide) (by rfl) (by decide) (by rfl) ?_); k_dflt lcg_toSrc)
  k_with "CompSrc" => (k_here; (with_reducible show LCg.CompSrc _ _ _ _ _ _ _ (Expr.Call (Expr.Name (Str.ofString "time_clip") _) _ _ _) _ _ _ _ _ _); k_dflt (refine LCg.CompSrc.ledger (by rfl) (by k_asm) (by k_asm) (by k_mem) (by first | size_fits | exact Nat.le_of_ble_eq_true rfl) ?_; intro g'; lcg_lit))
  k_with "CompEnd" => (k_here; k_dflt (refine' comp_end_same ?zF ?zN ?zO ?zS ?_; (case zF => k_asm); (case zN => k_asm); (case zO => first | assumption | (simp only [LCg.Off3, and_true]; assumption)); (case zS => lcg_src)))
  k_with "exec If" => (k_here; (with_reducible show wpAny _ _ (exec (Stmt.If _ [Stmt.Return (some (Expr.Constant (Const.bool false) _ _)) _] [] _) _) _ _ _); k_dflt (refine' if_goes ?zF ?zN ?_ ?_; (case zF => k_asm); (case zN => k_asm); k_whole))
  k_with "Goes" => (k_here; k_dflt (refine' goes_of ?zF ?zN; (case zF => k_asm); (case zN => first | k_asm | (refine' cb_drop ?cbN ?cbS; (case cbN => assumption); (case cbS => kcj_all)))))
  k_with "GoesOn" => (k_here; (unfold GoesOn); intro h9 tk9 F9 N9; (try dsimp only))
  k_with "newList" => (k_here; (simp only [show Int.toNat 0 = 0 from rfl, show Int.toNat 1 = 1 from rfl, show Int.toNat 2 = 2 from rfl, show Int.toNat 3 = 3 from rfl, List.getD_cons_zero, List.getD_cons_succ]))
  k_with "CompRest" => (with_unfolding_all (refine LCg.CompRest.succ ?_; intro v' I' oI' C' oC' D' m' h' tk' E' hv' hC' hx' F' N' off' ne'; obtain ⟨t9', hv9'⟩ := hv'; subst hv9'; (simp only [LCg.Off3, and_true] at off'); obtain ⟨⟨n1, n2, n3⟩, ⟨n4, n5, n6⟩, n7, n8, n9⟩ := off'; obtain ⟨n10, n11, n12⟩ := ne'))
  k_with "execs cons" => (k_here; k_dflt (refine' trim3 ?zl ?zN ?z4 ?z1 ?z2 ?z3 ?_; (case zl => exact rfl); (case zN => k_asm); (case z4 => exact Nat.le_of_ble_eq_true rfl); (case z1 => k_mem); (case z2 => k_mem); (case z3 => k_mem); k_whole); intro N1)
  k_with "zz4" => ((case zl => exact rfl); (case zF => k_asm); (case zN => k_asm); (case z4 => exact Nat.le_of_ble_eq_true rfl); (case zD => exact rfl); (case z0 => k_mem); (case z1 => k_mem); (case z2 => k_mem); (case z3 => k_mem))
  k_with "execs cons" => (k_here; k_dflt (refine' trim4 (nm := Str.ofString "due") (ls := [116, 117, 122]) ?zl ?zF ?zN ?z4 ?zD ?z0 ?z1 ?z2 ?z3 ?_; walk_at "zz4"; k_whole); intro N1)
  k_with "execs cons" => (k_here; k_dflt (refine' trim4 (nm := Str.ofString "some") (ls := [129]) ?zl ?zF ?zN ?z4 ?zD ?z0 ?z1 ?z2 ?z3 ?_; walk_at "zz4"; k_whole); intro N1)
  k_with "execs cons" => (k_here; k_dflt (refine' trim4 (nm := Str.ofString "far") (ls := [134, 136]) ?zl ?zF ?zN ?z4 ?zD ?z0 ?z1 ?z2 ?z3 ?_; walk_at "zz4"; k_whole); intro N1)
  k_with "truthy bool" => (k_here; simp only [any_range100])
  k_go0
  (all_goals try k_fold)
  k_steps)
end Mine
set_option maxRecDepth 100000 in
set_option maxHeartbeats 8000000 in
theorem PySem.Challenge.cw_nt0343_01_holds : PySem.Challenge.rw_nt0343_01.Holds :=
  Mine.main
#print axioms PySem.Challenge.cw_nt0343_01_holds
