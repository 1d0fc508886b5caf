import PyProof.Rows.All
import Wide.All
import OpenK.AllK
import Wide.FinOn
import PySem.Challenge.RW_everybase_k07_whole_figures_go_together
import HandS.ForMost
import HandS.ForExc
import HandS.Wide
import HandS.Style
import HandS.RaiseMore
import HandS.IsInst
import HandS.Flow
import HandS.Codes
import HandS.SortInts
import HandS.Conv
import HandS.TupAny
import HandS.TupLe
import HandS.SetFor
import HandS.Walk
import KE.KTupSum
import KE.GoesEnum
set_option Elab.async false
set_option linter.all false
set_option maxRecDepth 100000
set_option maxHeartbeats 4000000
/-! ## own layer: rules, heaps, draws -/
namespace Eb
open PySem PySem.Spec PyProof.Rows L2
theorem bb_int : bootBuiltins "int" = some (.type "int") := by decide +kernel
theorem bb_bool : bootBuiltins "bool" = some (.type "bool") := by decide +kernel
theorem bb_str : bootBuiltins "str" = some (.type "str") := by decide +kernel
theorem bb_list : bootBuiltins "list" = some (.type "list") := by decide +kernel
theorem bb_tuple : bootBuiltins "tuple" = some (.type "tuple") := by decide +kernel
theorem bb_range : bootBuiltins "range" = some (.type "range") := by decide +kernel
theorem bb_set : bootBuiltins "set" = some (.type "set") := by decide +kernel
theorem bb_len : bootBuiltins "len" = some (.builtin "len") := by decide +kernel
theorem bb_sum : bootBuiltins "sum" = some (.builtin "sum") := by decide +kernel
theorem bb_min : bootBuiltins "min" = some (.builtin "min") := by decide +kernel
theorem bb_max : bootBuiltins "max" = some (.builtin "max") := by decide +kernel
theorem bb_abs : bootBuiltins "abs" = some (.builtin "abs") := by decide +kernel
theorem bb_repr : bootBuiltins "repr" = some (.builtin "repr") := by decide +kernel
theorem bb_sorted : bootBuiltins "sorted" = some (.builtin "sorted") := by decide +kernel
theorem bb_all : bootBuiltins "all" = some (.builtin "all") := by decide +kernel
theorem bb_isinstance : bootBuiltins "isinstance" = some (.builtin "isinstance") := by decide +kernel

section
variable {X : Cx}
/-- sum(t), t a tuple of ints -/
def rSumT (K : PySem.W.Frag) : List V → Hp → VK → Prop := fun vs H Q => ∃ (a : Addr) (ns : List Int), vs = [V.ref a] ∧ SqT K H a (ns.map V.int) ∧ Q (.int ns.sum) H
theorem cr_sumT (hc : X.calm = true) : CallR X (.builtin "sum") (rSumT X.K) := by
  intro pins s σ H vs us Q I r h
  obtain ⟨a, ns, rfl, hs, q⟩ := h
  obtain ⟨its, rv, ht, _⟩ := I.tuple hs
  rw [Vals.ref1 r]
  have hi := rv.ints
  obtain ⟨xs, e⟩ := hi.allInts.items
  have hn : numsOf (intItems xs).toList = ns := by
    rw [← e]
    exact hi.numsOf
  rw [nums_intItems] at hn
  have ht' : s.heap.IsTuple a (intItems xs) := by
    rw [← e]
    exact ht
  refine PySem.W.ktm_sumG (I.ok.hd hc) ht' fun h' tk t' hk => ?_
  rw [preSum_eq, List.take_of_length_le (by simp), hn]
  exact ⟨.int _, H, I.kept hk, ⟨_, rfl⟩, q⟩
end

/-! ### heaps -/
theorem same_new {H : Hp} {p : Addr} {o : HO} (h : H p = none) : Same H (upd H p o) := fun b x e => by
  rw [upd_ne (ne_of_none e h)]
  exact e
theorem same_mut {H H' : Hp} {p : Addr} {o : HO} (e : Same H H') (h : H p = none) : Same H (upd H' p o) := fun b x hb => by
  rw [upd_ne (ne_of_none hb h)]
  exact e b x hb
theorem Same_seqT {K : PySem.W.Frag} {H H' : Hp} {a : Addr} {xs : List V} (e : Same H H') (h : SqT K H a xs) : SqT K H' a xs := by
  rcases h with (h | ⟨o, h⟩) | h
  · exact .inl (.inl (e _ _ h))
  · exact .inl (.inr ⟨o, e _ _ h⟩)
  · exact .inr h
/-- all but the objects at M stand as they stood -/
def Grow (M : List Addr) (H H' : Hp) : Prop := ∀ b o, b ∉ M → H b = some o → H' b = some o
theorem Grow.refl (M : List Addr) (H : Hp) : Grow M H H := fun _ _ _ h => h
theorem Grow.trans {M : List Addr} {H H1 H2 : Hp} (a : Grow M H H1) (b : Grow M H1 H2) : Grow M H H2 := fun c o n h => b c o n (a c o n h)
theorem Grow.of {M : List Addr} {H H' : Hp} (e : Same H H') : Grow M H H' := fun c o _ h => e c o h
theorem Grow.new {M : List Addr} {H H' : Hp} {p : Addr} {o : HO} (g : Grow M H H') (h : H p = none) : Grow M H (upd H' p o) := fun b x n hb => by
  rw [upd_ne (ne_of_none hb h)]
  exact g b x n hb
theorem Grow.at {M : List Addr} {H H' : Hp} {p : Addr} {o : HO} (g : Grow M H H') (h : p ∈ M) : Grow M H (upd H' p o) := fun b x n hb => by
  rw [upd_ne (show b ≠ p from fun e => n (by rw [e]; exact h))]
  exact g b x n hb
theorem Grow.none {M : List Addr} {H H' : Hp} {p : Addr} (g : Grow M H H') (hM : ∀ b ∈ M, H' b ≠ none) (h : H' p = none) : H p = none := by
  cases q : H p with
  | none => rfl
  | some o =>
    by_cases hm : p ∈ M
    · exact absurd h (hM p hm)
    · rw [g p o hm q] at h
      cases h
theorem Grow.seqL {M : List Addr} {K : PySem.W.Frag} {H H' : Hp} {a : Addr} {xs : List V} (g : Grow M H H') (n : a ∉ M) (h : SqL K H a xs) : SqL K H' a xs := by
  rcases h with (h | ⟨o, h⟩) | h
  · exact .inl (.inl (g _ _ n h))
  · exact .inl (.inr ⟨o, g _ _ n h⟩)
  · exact .inr h
theorem Grow.seqT {M : List Addr} {K : PySem.W.Frag} {H H' : Hp} {a : Addr} {xs : List V} (g : Grow M H H') (n : a ∉ M) (h : SqT K H a xs) : SqT K H' a xs := by
  rcases h with (h | ⟨o, h⟩) | h
  · exact .inl (.inl (g _ _ n h))
  · exact .inl (.inr ⟨o, g _ _ n h⟩)
  · exact .inr h
theorem sqL_of {K : PySem.W.Frag} {H : Hp} {a : Addr} {xs : List V} (h : H a = some (.lst xs)) : SqL K H a xs := .inl (.inl h)
theorem sqT_of {K : PySem.W.Frag} {H : Hp} {a : Addr} {xs : List V} (h : H a = some (.tup xs)) : SqT K H a xs := .inl (.inl h)
theorem sqL_new {K : PySem.W.Frag} {H : Hp} {a : Addr} {xs : List V} : SqL K (upd H a (.lst xs)) a xs := .inl (.inl upd_same)
theorem sqT_new {K : PySem.W.Frag} {H : Hp} {a : Addr} {xs : List V} : SqT K (upd H a (.tup xs)) a xs := .inl (.inl upd_same)
theorem sz {n : Nat} (h : n ≤ 100000) : n ≤ sizeLine := Nat.le_trans h (by decide)
theorem szr {n : Nat} (h : Nat.ble n 100000 = true) : n ≤ sizeLine := sz (Nat.le_of_ble_eq_true h)
theorem szl {n : Nat} (h : n < 100000) : n < sizeLine := Nat.lt_of_lt_of_le h (by decide)

/-! ### loops -/
theorem whl {c : TT} {tb : TS} {D : Ends} {σ : L2.St} {H : Hp} (W : Nat → L2.St → Hp → Prop) (m : Nat) (h0 : W m σ H)
    (hs : ∀ m σ H, W m σ H → c σ H fun b H1 => if b = true then ∃ N : L2.St → Hp → Prop, (∀ σ' H', N σ' H' → ∃ m', m' < m ∧ W m' σ' H') ∧ tb { D with nx := N, ct := N, bk := D.nx } σ H1 else D.nx σ H1) : tWhile c tb D σ H :=
  ⟨W, ⟨m, h0⟩, hs⟩
/-- the turn of a while whose test holds: the wished state is W at a smaller measure -/
theorem turn_of {tb : TS} {D : Ends} {σ : L2.St} {H : Hp} {W : Nat → L2.St → Hp → Prop} {m : Nat}
    (h : tb { D with nx := fun σ' H' => ∃ m', m' < m ∧ W m' σ' H', ct := fun σ' H' => ∃ m', m' < m ∧ W m' σ' H', bk := D.nx } σ H) :
    ∃ N : L2.St → Hp → Prop, (∀ σ' H', N σ' H' → ∃ m', m' < m ∧ W m' σ' H') ∧ tb { D with nx := N, ct := N, bk := D.nx } σ H := ⟨_, fun _ _ z => z, h⟩

/-- ways join: a test whose answer is known behind its ways -/
theorem by_ans {t : TT} {σ : L2.St} {H : Hp} {Q : Bool → Hp → Prop} (b : Bool) (h : ∀ Q' : Bool → Hp → Prop, (∀ H1, Same H H1 → Q' b H1) → t σ H Q') (k : ∀ H1, Same H H1 → Q b H1) : t σ H Q := h Q k
/-- ways join behind a statement that goes on -/
theorem by_st {t u : TS} {D : Ends} {σ : L2.St} {H : Hp} (J : L2.St → Hp → Prop) (h : ∀ D' : Ends, D'.rt = D.rt → (∀ σ' H', J σ' H' → D'.nx σ' H') → t D' σ H) (k : ∀ σ' H', J σ' H' → u D σ' H') : tSeq t u D σ H :=
  h { D with nx := u D } rfl k
/-- .. of an if whose test is known to fail, to hold -/
theorem by_ifF {c : TT} {t u r : TS} {D : Ends} {σ : L2.St} {H : Hp} (h : ∀ Q' : Bool → Hp → Prop, (∀ H1, Same H H1 → Q' false H1) → c σ H Q') (k : ∀ H1, Same H H1 → u { D with nx := r D } σ H1) : tSeq (tIfS c t u) r D σ H :=
  h _ fun H1 s1 => iteF (k H1 s1)
theorem by_ifT {c : TT} {t u r : TS} {D : Ends} {σ : L2.St} {H : Hp} (h : ∀ Q' : Bool → Hp → Prop, (∀ H1, Same H H1 → Q' true H1) → c σ H Q') (k : ∀ H1, Same H H1 → t { D with nx := r D } σ H1) : tSeq (tIfS c t u) r D σ H :=
  h _ fun H1 s1 => iteT (k H1 s1)
/-- ways join behind an expression -/
theorem by_te {t : TE} {σ : L2.St} {H : Hp} {Q : VK} (J : V → Hp → Prop) (h : ∀ Q' : VK, (∀ v H1, J v H1 → Q' v H1) → t σ H Q') (k : ∀ v H1, J v H1 → Q v H1) : t σ H Q := h Q k
/-- .. that is given to a name -/
theorem by_set {te : TE} {i : Nat} {u : TS} {D : Ends} {σ : L2.St} {H : Hp} (J : V → Hp → Prop) (h : ∀ Q' : VK, (∀ v H1, J v H1 → Q' v H1) → te σ H Q') (k : ∀ v H1, J v H1 → u D (σ.set i (some v)) H1) : tSeq (tAsg te (gName i)) u D σ H := h _ k
theorem Grow.same {M : List Addr} {H H1 H2 : Hp} (g : Grow M H H1) (e : Same H1 H2) : Grow M H H2 := g.trans (Grow.of e)

/-! ### data -/
theorem dp_ints {K : PySem.W.Frag} {H : Hp} : ∀ xs : List Int, DpAll K H (xs.map V.int) (xs.map PyData.int)
  | [] => .nil
  | x :: r => .cons (.int x) (dp_ints r)
theorem dp_list {K : PySem.W.Frag} {H : Hp} {a : Addr} {xs : List Int} (h : SqL K H a (xs.map V.int)) : Dp K H (.ref a) (.list (xs.map PyData.int)) := .lst h (dp_ints xs)
theorem dp_tuple {K : PySem.W.Frag} {H : Hp} {a : Addr} {xs : List Int} (h : SqT K H a (xs.map V.int)) : Dp K H (.ref a) (.tuple (xs.map PyData.int)) := .tup h (dp_ints xs)
theorem lay_ints : ∀ xs : List Int, PyData.canLayAll0 (xs.map PyData.int) = true
  | [] => by simp [PyData.canLayAll0]
  | x :: r => by simp [PyData.canLayAll0, PyData.canLay0, lay_ints r]
theorem depth_ints : ∀ xs : List Int, PyData.depthAll (xs.map PyData.int) = 0
  | [] => by simp [PyData.depthAll]
  | x :: r => by simp [PyData.depthAll, PyData.depth, depth_ints r]
theorem shaped_list (xs : List Int) : SeqAt.shaped (.list (xs.map PyData.int)) = true := by
  unfold SeqAt.shaped
  simp [PyData.canLay0, PyData.depth, lay_ints, depth_ints]
theorem shaped_tuple (xs : List Int) : SeqAt.shaped (.tuple (xs.map PyData.int)) = true := by
  unfold SeqAt.shaped
  simp [PyData.canLay0, PyData.depth, lay_ints, depth_ints]
theorem eqv_ints : ∀ xs ys : List Int, PyData.eqvAll (xs.map PyData.int) (ys.map PyData.int) = decide (xs = ys)
  | [], [] => by simp [PyData.eqvAll]
  | [], _ :: _ => by simp [PyData.eqvAll]
  | _ :: _, [] => by simp [PyData.eqvAll]
  | x :: r, y :: q => by
    simp only [List.map_cons, PyData.eqvAll, PyData.eqv, eqv_ints r q]
    by_cases h : x = y
    · subst h; simp
    · simp [h]
section
variable {X : Cx}
def rEqL (K : PySem.W.Frag) (neg : Bool) : R2 := fun x y H Q => ∃ (a b : Addr) (xs ys : List Int), x = .ref a ∧ y = .ref b ∧ SqL K H a (xs.map V.int) ∧ SqL K H b (ys.map V.int) ∧ Q (.bl (if neg then !decide (xs = ys) else decide (xs = ys))) H
def rEqT (K : PySem.W.Frag) (neg : Bool) : R2 := fun x y H Q => ∃ (a b : Addr) (xs ys : List Int), x = .ref a ∧ y = .ref b ∧ SqT K H a (xs.map V.int) ∧ SqT K H b (ys.map V.int) ∧ Q (.bl (if neg then !decide (xs = ys) else decide (xs = ys))) H
theorem op_eqL (hu : X.A.units + 64 < cLine) : OpR X (compareOp .Eq) (rEqL X.K false) := by
  intro pins s σ H x y v u Q I rx ry h
  obtain ⟨a, b, xs, ys, rfl, rfl, ha, hb, q⟩ := h
  exact op_eqD hu pins s σ H _ _ v u Q I rx ry ⟨_, _, dp_list ha, dp_list hb, shaped_list _, shaped_list _, by simp only [PyData.eqv, eqv_ints]; exact q⟩
theorem op_neL (hu : X.A.units + 64 < cLine) : OpR X (compareOp .NotEq) (rEqL X.K true) := by
  intro pins s σ H x y v u Q I rx ry h
  obtain ⟨a, b, xs, ys, rfl, rfl, ha, hb, q⟩ := h
  exact op_neD hu pins s σ H _ _ v u Q I rx ry ⟨_, _, dp_list ha, dp_list hb, shaped_list _, shaped_list _, by simp only [PyData.eqv, eqv_ints]; exact q⟩
theorem op_eqT (hu : X.A.units + 64 < cLine) : OpR X (compareOp .Eq) (rEqT X.K false) := by
  intro pins s σ H x y v u Q I rx ry h
  obtain ⟨a, b, xs, ys, rfl, rfl, ha, hb, q⟩ := h
  exact op_eqD hu pins s σ H _ _ v u Q I rx ry ⟨_, _, dp_tuple ha, dp_tuple hb, shaped_tuple _, shaped_tuple _, by simp only [PyData.eqv, eqv_ints]; exact q⟩
theorem op_neT (hu : X.A.units + 64 < cLine) : OpR X (compareOp .NotEq) (rEqT X.K true) := by
  intro pins s σ H x y v u Q I rx ry h
  obtain ⟨a, b, xs, ys, rfl, rfl, ha, hb, q⟩ := h
  exact op_neD hu pins s σ H _ _ v u Q I rx ry ⟨_, _, dp_tuple ha, dp_tuple hb, shaped_tuple _, shaped_tuple _, by simp only [PyData.eqv, eqv_ints]; exact q⟩
end

/-! ### sizes -/
def Sm (n : Int) : Prop := n.natAbs < 2 ^ 1900
theorem Sm.log {n : Int} (h : Sm n) : n.natAbs.log2 < 1900 := PySem.Flt.log2_lt_of (by decide) h
theorem Sm.le {n m : Int} (h : Sm m) (h0 : 0 ≤ n) (h1 : n ≤ m) : Sm n := Nat.lt_of_le_of_lt (by omega) h
theorem sm_of {n : Int} (h0 : 0 ≤ n) (h1 : n ≤ 10 ^ 61) : Sm n := Sm.le (m := 10 ^ 61) (by unfold Sm; decide +kernel) h0 h1
theorem sm_big {n : Int} (h0 : 0 ≤ n) (h1 : n ≤ 10 ^ 250) : Sm n := Sm.le (m := 10 ^ 250) (by unfold Sm; decide +kernel) h0 h1
/-- // where the divisor or the dividend is no giant -/
def CDivX (i j : Int) : Prop := 0 < j ∧ (i.natAbs.log2 < 13500 ∨ j.natAbs.log2 < 9000)
theorem divX_ok {i j : Int} (h : CDivX i j) : Builtin.divisionGoesByPylong i j = false := by
  rcases h.2 with h1 | h1
  · have ki : (if i == 0 then 0 else i.natAbs.log2 / 30 + 1) ≤ 450 := by
      split <;> omega
    show (decide ((if j == 0 then 0 else j.natAbs.log2 / 30 + 1) > 300) && decide ((if i == 0 then 0 else i.natAbs.log2 / 30 + 1) > (if j == 0 then 0 else j.natAbs.log2 / 30 + 1) + 150)) = false
    by_cases c : (if j == 0 then 0 else j.natAbs.log2 / 30 + 1) > 300
    · rw [decide_eq_false (show ¬ ((if i == 0 then 0 else i.natAbs.log2 / 30 + 1) > (if j == 0 then 0 else j.natAbs.log2 / 30 + 1) + 150) by omega), Bool.and_false]
    · rw [decide_eq_false c, Bool.false_and]
  · exact PyProof.noPylong_of_log2 h1
theorem op_fdivX {X : Cx} : OpR X (binaryOp .FloorDiv) (rI CDivX fun i j => .int (i / j)) := opI fun i j _ _ _ _ _ hc q =>
  floordiv_int (show j ≠ 0 by have := hc.1; omega) (by rw [Int.fdiv_eq_ediv_of_nonneg i (show 0 ≤ j by have := hc.1; omega)]; exact q) (.inl (divX_ok hc))
theorem divW {i j : Int} (h : 0 < j) (s : Sm j) : CDivX i j := ⟨h, .inr (Nat.lt_trans s.log (by decide))⟩
theorem divS {i j : Int} (h : 0 < j) (s : Sm i) : CDivX i j := ⟨h, .inl (Nat.lt_trans s.log (by decide))⟩
theorem mulW {i j : Int} (h : Sm i) (s : Sm j) : L2.CMulW i j := by
  have a := h.log
  have b := s.log
  unfold L2.CMulW
  omega

/-- powers of numbers that are no giants -/
def CPowX (i j : Int) : Prop := 0 ≤ j ∧ (Builtin.Int.intBits i : Int) * j ≤ 2 ^ 27
theorem op_powX {X : Cx} : OpR X (binaryOp .Pow) (rI CPowX fun i j => .int (i ^ j.toNat)) := opI fun _ _ _ _ _ _ _ hc q => pow_int hc.1 hc.2 q
theorem powX {i j : Int} (s : Sm i) (h0 : 0 ≤ j) (h1 : j ≤ 10000) : CPowX i j := by
  refine ⟨h0, ?_⟩
  have l := s.log
  have b : (Builtin.Int.intBits i : Int) ≤ 1900 := by
    unfold Builtin.Int.intBits
    split <;> omega
  have b0 : (0 : Int) ≤ (Builtin.Int.intBits i : Int) := Int.natCast_nonneg _
  have m : (Builtin.Int.intBits i : Int) * j ≤ 1900 * 10000 := Int.mul_le_mul b h1 h0 (by decide)
  omega

/-! ### the source of draws -/
structure Deal (H : Hp) (d l : Addr) : Prop where
  ex : ∃ (xs : List Int) (n : Int), H d = some (.lst [.ref l, .int n]) ∧ H l = some (.lst (xs.map V.int)) ∧ xs.length ≤ 63 ∧ 0 ≤ n ∧ n < 2147483647
theorem Deal.ne {H : Hp} {d l : Addr} (D : Deal H d l) : d ≠ l := by
  obtain ⟨xs, n, h1, h2, _⟩ := D.ex
  intro e
  subst e
  rw [h1] at h2
  have h3 := HO.lst.inj (Option.some.inj h2)
  cases xs with
  | nil => cases h3
  | cons x r => cases h3
theorem Deal.same {H H' : Hp} {d l : Addr} (D : Deal H d l) (e : Same H H') : Deal H' d l := by
  obtain ⟨xs, n, h1, h2, h3⟩ := D.ex
  exact ⟨xs, n, e _ _ h1, e _ _ h2, h3⟩
theorem Deal.fresh {H : Hp} {d l p : Addr} (D : Deal H d l) (h : H p = none) : p ∉ [d, l] := by
  obtain ⟨xs, n, h1, h2, _⟩ := D.ex
  intro z
  rcases List.mem_cons.mp z with e | z
  · rw [e, h1] at h; cases h
  · rw [List.mem_singleton.mp z, h2] at h; cases h
theorem Deal.upd {H : Hp} {d l p : Addr} {o : HO} (D : Deal H d l) (h : p ∉ [d, l]) : Deal (upd H p o) d l := by
  obtain ⟨xs, n, h1, h2, h3⟩ := D.ex
  have n1 : d ≠ p := fun e => h (by simp [e])
  have n2 : l ≠ p := fun e => h (by simp [e])
  exact ⟨xs, n, by rw [upd_ne n1]; exact h1, by rw [upd_ne n2]; exact h2, h3⟩
theorem Deal.none {H : Hp} {d l : Addr} (D : Deal H d l) : ∀ b ∈ [d, l], H b ≠ none := by
  obtain ⟨xs, n, h1, h2, _⟩ := D.ex
  intro b hb
  rcases List.mem_cons.mp hb with e | z
  · rw [e, h1]; simp
  · rw [List.mem_singleton.mp z, h2]; simp
/-- what a drawing def hands on: the source stands, all else stands -/
structure Drew (d l : Addr) (H H' : Hp) : Prop where
  deal : Deal H' d l
  grow : Grow [d, l] H H'
theorem Drew.trans {d l : Addr} {H H1 H2 : Hp} (a : Drew d l H H1) (b : Drew d l H1 H2) : Drew d l H H2 := ⟨b.deal, a.grow.trans b.grow⟩
theorem Drew.new {d l : Addr} {H H' : Hp} {p : Addr} {o : HO} (a : Drew d l H H') (h : H' p = none) : Drew d l H (upd H' p o) :=
  ⟨a.deal.upd (a.deal.fresh h), a.grow.trans (Grow.of (same_new h))⟩
theorem Drew.refl {d l : Addr} {H : Hp} (D : Deal H d l) : Drew d l H H := ⟨D, Grow.refl _ _⟩
theorem Drew.same {d l : Addr} {H H' H2 : Hp} (a : Drew d l H H') (e : Same H' H2) : Drew d l H H2 := ⟨a.deal.same e, a.grow.trans (Grow.of e)⟩
theorem Drew.get {d l : Addr} {H H' : Hp} {p : Addr} {o : HO} (a : Drew d l H H') (n : p ∉ [d, l]) (h : H p = some o) : H' p = some o := a.grow p o n h
theorem Drew.seqL {d l : Addr} {K : PySem.W.Frag} {H H' : Hp} {a : Addr} {xs : List V} (g : Drew d l H H') (n : a ∉ [d, l]) (h : SqL K H a xs) : SqL K H' a xs := g.grow.seqL n h
theorem Drew.free {d l : Addr} {H H' : Hp} {p : Addr} (a : Drew d l H H') (h : H' p = none) : H p = none := a.grow.none a.deal.none h
end Eb

/-! ## figures: plain mathematics -/
namespace Eb
/-- the figures of n, the last one first -/
def digs (b n : Int) : List Int := if h : 2 ≤ b ∧ b ≤ n then (n % b) :: digs b (n / b) else [n]
termination_by n.toNat
decreasing_by
  have h1 : n / b < n := Int.ediv_lt_self_of_pos_of_ne_one (by omega) (by omega)
  have h2 : 0 ≤ n / b := Int.ediv_nonneg (by omega) (by omega)
  omega
theorem digs_lt {b n : Int} (h : n < b) : digs b n = [n] := by
  rw [digs, dif_neg (by omega)]
theorem digs_ge {b n : Int} (hb : 2 ≤ b) (h : b ≤ n) : digs b n = (n % b) :: digs b (n / b) := by
  rw [digs, dif_pos ⟨hb, h⟩]
theorem div_lt {b n : Int} (hb : 2 ≤ b) (h : b ≤ n) : n / b < n := Int.ediv_lt_self_of_pos_of_ne_one (by omega) (by omega)
theorem div_nn {b n : Int} (hb : 2 ≤ b) (h : 0 ≤ n) : 0 ≤ n / b := Int.ediv_nonneg h (by omega)
theorem div_pos {b n : Int} (hb : 2 ≤ b) (h : b ≤ n) : 1 ≤ n / b := by
  have := Int.le_ediv_of_mul_le (a := 1) (b := n) (c := b) (by omega) (by omega)
  exact this
theorem div_zero {b n : Int} (h0 : 0 ≤ n) (h : n < b) : n / b = 0 := Int.ediv_eq_zero_of_lt h0 h
theorem mod_self {b n : Int} (h0 : 0 ≤ n) (h : n < b) : n % b = n := Int.emod_eq_of_lt h0 h
/-- induction along the figures -/
theorem digs_ind {b : Int} (hb : 2 ≤ b) {P : Int → Prop} (h0 : ∀ n, 0 ≤ n → n < b → P n) (h1 : ∀ n, b ≤ n → P (n / b) → P n) : ∀ n, 0 ≤ n → P n := by
  have go : ∀ (k : Nat) (n : Int), n.toNat ≤ k → 0 ≤ n → P n := by
    intro k
    induction k with
    | zero =>
      intro n hk hn
      exact h0 n hn (by omega)
    | succ k ih =>
      intro n hk hn
      by_cases c : n < b
      · exact h0 n hn c
      · have a := div_lt hb (Int.not_lt.mp c)
        have d := div_nn hb hn
        exact h1 n (Int.not_lt.mp c) (ih _ (by omega) d)
  intro n hn
  exact go n.toNat n (Nat.le_refl _) hn
/-- what a walk that divides on has still to tell -/
def rest (b n : Int) : List Int := if n ≤ 0 then [] else digs b n
theorem rest_zero {b n : Int} (h : n ≤ 0) : rest b n = [] := if_pos h
theorem rest_pos {b n : Int} (h : 0 < n) : rest b n = digs b n := if_neg (by omega)
theorem digs_rest {b n : Int} (hb : 2 ≤ b) (h0 : 0 ≤ n) : digs b n = (n % b) :: rest b (n / b) := by
  by_cases c : n < b
  · rw [digs_lt c, div_zero h0 c, rest_zero (Int.le_refl _), mod_self h0 c]
  · have c' := Int.not_lt.mp c
    rw [digs_ge hb c', rest_pos (by have := div_pos hb c'; omega)]
theorem rest_step {b n : Int} (hb : 2 ≤ b) (h : 0 < n) : rest b n = (n % b) :: rest b (n / b) := by
  rw [rest_pos h, digs_rest hb (by omega)]
theorem digs_range {b : Int} (hb : 2 ≤ b) : ∀ n, 0 ≤ n → ∀ x ∈ digs b n, 0 ≤ x ∧ x < b := by
  refine digs_ind hb (fun n h0 h1 x hx => ?_) (fun n h ih x hx => ?_)
  · rw [digs_lt h1, List.mem_singleton] at hx
    omega
  · rw [digs_ge hb h] at hx
    rcases List.mem_cons.mp hx with e | hx
    · rw [e]
      exact ⟨Int.emod_nonneg _ (by omega), Int.emod_lt_of_pos _ (by omega)⟩
    · exact ih x hx
theorem digs_ne {b n : Int} (hb : 2 ≤ b) (h0 : 0 ≤ n) : digs b n ≠ [] := by
  rw [digs_rest hb h0]
  simp
theorem digs_len {b : Int} (hb : 2 ≤ b) : ∀ (k : Nat) (n : Int), 0 ≤ n → n < 2 ^ (k + 1) → (digs b n).length ≤ k + 1 := by
  intro k
  induction k with
  | zero =>
    intro n h0 h1
    rw [digs_lt (by omega)]
    simp
  | succ k ih =>
    intro n h0 h1
    by_cases c : n < b
    · rw [digs_lt c]
      simp
    · have c' := Int.not_lt.mp c
      rw [digs_ge hb c', List.length_cons]
      have e : (2 : Int) ^ (k + 1 + 1) = 2 ^ (k + 1) * 2 := Int.pow_succ _ _
      have h2 : n / b ≤ n / 2 := by
        have h3 : n / b * b ≤ n := Int.ediv_mul_le _ (by omega)
        have h4 : n / b * 2 ≤ n / b * b := Int.mul_le_mul_of_nonneg_left hb (div_nn hb h0)
        omega
      have := ih (n / b) (div_nn hb h0) (by omega)
      omega
theorem digs_small {b n : Int} (hb : 2 ≤ b) (h0 : 0 ≤ n) (s : Sm n) : (digs b n).length ≤ 1900 := by
  refine digs_len hb 1899 n h0 ?_
  have h : n.natAbs < 2 ^ 1900 := s
  have e : ((2 ^ 1900 : Nat) : Int) = (2 : Int) ^ (1899 + 1) := by
    rw [Int.natCast_pow]
    rfl
  omega
theorem Sm.div {b n : Int} (hb : 2 ≤ b) (h0 : 0 ≤ n) (s : Sm n) : Sm (n / b) := by
  refine s.le (div_nn hb h0) ?_
  by_cases c : n < b
  · rw [div_zero h0 c]
    exact h0
  · have := div_lt hb (Int.not_lt.mp c)
    omega
/-- the sum of the figures -/
def dsum (b n : Int) : Int := (digs b n).sum
theorem dsum_nn {b : Int} (hb : 2 ≤ b) : ∀ n, 0 ≤ n → 0 ≤ dsum b n := by
  unfold dsum
  refine digs_ind hb (fun n h0 h1 => ?_) (fun n h ih => ?_)
  · rw [digs_lt h1]
    simpa using h0
  · rw [digs_ge hb h, List.sum_cons]
    have := Int.emod_nonneg n (show b ≠ 0 by omega)
    omega
theorem dsum_le {b : Int} (hb : 2 ≤ b) : ∀ n, 0 ≤ n → dsum b n ≤ n := by
  unfold dsum
  refine digs_ind hb (fun n h0 h1 => ?_) (fun n h ih => ?_)
  · rw [digs_lt h1]
    simp
  · rw [digs_ge hb h, List.sum_cons]
    have h1 := Int.emod_add_mul_ediv n b
    have h2 : 1 * (n / b) ≤ b * (n / b) := Int.mul_le_mul_of_nonneg_right (by omega) (div_nn hb (by omega))
    omega
theorem dsum_lt {b n : Int} (hb : 2 ≤ b) (h : b ≤ n) : dsum b n < n := by
  unfold dsum
  rw [digs_ge hb h, List.sum_cons]
  have h1 := Int.emod_add_mul_ediv n b
  have h2 : 2 * (n / b) ≤ b * (n / b) := Int.mul_le_mul_of_nonneg_right hb (div_nn hb (by omega))
  have h3 := div_pos hb h
  have h4 := dsum_le hb (n / b) (by omega)
  unfold dsum at h4
  omega
theorem dsum_small {b n : Int} (h : n < b) : dsum b n = n := by
  unfold dsum
  rw [digs_lt h]
  simp
/-- the figure that is left -/
def rooted (b n : Int) : Int := if h : 2 ≤ b ∧ b ≤ n then rooted b (dsum b n) else n
termination_by n.toNat
decreasing_by
  have h1 := dsum_lt h.1 h.2
  omega
theorem rooted_lt {b n : Int} (h : n < b) : rooted b n = n := by
  rw [rooted, dif_neg (by omega)]
theorem rooted_ge {b n : Int} (hb : 2 ≤ b) (h : b ≤ n) : rooted b n = rooted b (dsum b n) := by
  rw [rooted, dif_pos ⟨hb, h⟩]
theorem rooted_dsum {b n : Int} (hb : 2 ≤ b) : rooted b (dsum b n) = rooted b n := by
  by_cases c : n < b
  · rw [dsum_small c]
  · exact (rooted_ge hb (Int.not_lt.mp c)).symm
theorem rooted_ind {b : Int} (hb : 2 ≤ b) {P : Int → Prop} (h0 : ∀ n, 0 ≤ n → n < b → P n) (h1 : ∀ n, b ≤ n → P (dsum b n) → P n) : ∀ n, 0 ≤ n → P n := by
  have go : ∀ (k : Nat) (n : Int), n.toNat ≤ k → 0 ≤ n → P n := by
    intro k
    induction k with
    | zero =>
      intro n hk hn
      exact h0 n hn (by omega)
    | succ k ih =>
      intro n hk hn
      by_cases c : n < b
      · exact h0 n hn c
      · have a := dsum_lt hb (Int.not_lt.mp c)
        have d := dsum_nn hb n hn
        exact h1 n (Int.not_lt.mp c) (ih _ (by omega) d)
  intro n hn
  exact go n.toNat n (Nat.le_refl _) hn
theorem rooted_le {b : Int} (hb : 2 ≤ b) : ∀ n, 0 ≤ n → rooted b n ≤ n ∧ 0 ≤ rooted b n := by
  refine rooted_ind hb (fun n h0 h1 => ?_) (fun n h ih => ?_)
  · rw [rooted_lt h1]
    omega
  · rw [rooted_ge hb h]
    have := dsum_le hb n (by omega)
    omega
end Eb
namespace Eb
/-- the number with some figures, the greatest place first -/
def ofs (b : Int) (xs : List Int) : Int := xs.foldl (fun a x => a * b + x) 0
theorem ofs_snoc (b : Int) (xs : List Int) (x : Int) : ofs b (xs ++ [x]) = ofs b xs * b + x := by
  unfold ofs
  rw [List.foldl_append]
  rfl
theorem ofs_take {b : Int} {xs : List Int} {i : Nat} {x : Int} (h : xs[i]? = some x) : ofs b (xs.take (i + 1)) = ofs b (xs.take i) * b + x := by
  rw [List.take_add_one, h, ← ofs_snoc]
  rfl
/-- all figures lie below the base -/
def InB (b : Int) (xs : List Int) : Prop := ∀ x ∈ xs, 0 ≤ x ∧ x < b
theorem InB.take {b : Int} {xs : List Int} (h : InB b xs) (i : Nat) : InB b (xs.take i) := fun x hx => h x (List.mem_of_mem_take hx)
theorem InB.drop {b : Int} {xs : List Int} (h : InB b xs) (i : Nat) : InB b (xs.drop i) := fun x hx => h x (List.mem_of_mem_drop hx)
theorem InB.append {b : Int} {xs ys : List Int} (h : InB b xs) (g : InB b ys) : InB b (xs ++ ys) := fun x hx => (List.mem_append.mp hx).elim (h x) (g x)
theorem InB.reverse {b : Int} {xs : List Int} (h : InB b xs) : InB b xs.reverse := fun x hx => h x (List.mem_reverse.mp hx)
theorem ofs_range {b : Int} (hb : 2 ≤ b) : ∀ (xs : List Int), InB b xs → 0 ≤ ofs b xs ∧ ofs b xs < b ^ xs.length := by
  intro xs
  have go : ∀ (n : Nat) (xs : List Int), xs.length = n → InB b xs → 0 ≤ ofs b xs ∧ ofs b xs < b ^ xs.length := by
    intro n
    induction n with
    | zero =>
      intro xs e _
      rw [List.length_eq_zero_iff.mp e]
      exact ⟨Int.le_refl _, by rw [List.length_nil, Int.pow_zero]; exact (by decide : (0 : Int) < 1)⟩
    | succ n ih =>
      intro xs e h
      have hne : xs ≠ [] := fun z => by rw [z] at e; cases e
      obtain ⟨ys, z, rfl⟩ : ∃ ys z, xs = ys ++ [z] := ⟨xs.dropLast, xs.getLast hne, (List.dropLast_concat_getLast hne).symm⟩
      have el : ys.length = n := by simpa using e
      have i1 := ih ys el fun x hx => h x (List.mem_append_left _ hx)
      have i2 := h z (by simp)
      rw [ofs_snoc, List.length_append, List.length_singleton, Int.pow_succ]
      have p1 : 0 ≤ ofs b ys * b := Int.mul_nonneg i1.1 (by omega)
      have p2 : (ofs b ys + 1) * b ≤ b ^ ys.length * b := Int.mul_le_mul_of_nonneg_right (by omega) (by omega)
      rw [Int.add_mul] at p2
      omega
  exact go xs.length xs rfl
theorem pow_mono {b : Int} (hb : 2 ≤ b) {i j : Nat} (h : i ≤ j) : b ^ i ≤ b ^ j := by
  induction j with
  | zero =>
    have : i = 0 := by omega
    subst this
    exact Int.le_refl _
  | succ j ih =>
    by_cases e : i = j + 1
    · subst e
      exact Int.le_refl _
    · have h1 := ih (by omega)
      have h0 : 0 < b ^ j := Int.pow_pos (by omega)
      rw [Int.pow_succ]
      have h2 : b ^ j * 1 ≤ b ^ j * b := Int.mul_le_mul_of_nonneg_left (by omega) (by omega)
      omega
/-- partial numbers of figures that are small are small -/
theorem ofs_sm {b : Int} (hb : 2 ≤ b) {xs : List Int} (h : InB b xs) (hs : b ^ xs.length ≤ 10 ^ 61) : ∀ i, i ≤ xs.length → Sm (ofs b (xs.take i)) := fun i hi => by
  have r := ofs_range hb _ (h.take i)
  have e : (xs.take i).length ≤ xs.length := by
    rw [List.length_take]
    omega
  have m := pow_mono hb e
  exact sm_of r.1 (by omega)
theorem pow_le {a b : Int} (h0 : 0 ≤ a) (h : a ≤ b) : ∀ k : Nat, a ^ k ≤ b ^ k
  | 0 => by rw [Int.pow_zero, Int.pow_zero]; exact Int.le_refl _
  | k + 1 => by
    rw [Int.pow_succ, Int.pow_succ]
    exact Int.mul_le_mul (pow_le h0 h k) h h0 (Int.pow_nonneg (by omega))
theorem pow_two_le {b : Int} (hb : 2 ≤ b) : ∀ k : Nat, (2 : Int) ^ k ≤ b ^ k
  | 0 => by rw [Int.pow_zero, Int.pow_zero]; decide
  | k + 1 => by
    rw [Int.pow_succ, Int.pow_succ]
    have h1 := pow_two_le hb k
    have h0 : 0 < (2 : Int) ^ k := Int.pow_pos (by omega)
    exact Int.mul_le_mul h1 hb (by omega) (by omega)
theorem span_le {b : Int} (hb : 2 ≤ b) {k : Nat} (h : b ^ k < 10 ^ 60) : k < 200 := by
  by_cases c : k < 200
  · exact c
  · have h1 := pow_two_le hb k
    have h2 := pow_mono (b := 2) (by decide) (show 200 ≤ k by omega)
    have h3 : (10 : Int) ^ 60 < 2 ^ 200 := by decide +kernel
    omega
end Eb
namespace Eb
/-! ### figures by places -/
/-- the number of figures, the last one first -/
def val (b : Int) : List Int → Int
  | [] => 0
  | x :: r => x + b * val b r
theorem ofs_append (b : Int) : ∀ ys xs : List Int, ofs b (xs ++ ys) = ofs b xs * b ^ ys.length + ofs b ys := by
  intro ys
  have go : ∀ (n : Nat) (ys : List Int), ys.length = n → ∀ xs, ofs b (xs ++ ys) = ofs b xs * b ^ ys.length + ofs b ys := by
    intro n
    induction n with
    | zero =>
      intro ys e xs
      rw [List.length_eq_zero_iff.mp e, List.append_nil, List.length_nil, Int.pow_zero, Int.mul_one]
      show ofs b xs = ofs b xs + 0
      omega
    | succ n ih =>
      intro ys e xs
      have hne : ys ≠ [] := fun z => by rw [z] at e; cases e
      obtain ⟨zs, z, rfl⟩ : ∃ zs z, ys = zs ++ [z] := ⟨ys.dropLast, ys.getLast hne, (List.dropLast_concat_getLast hne).symm⟩
      have el : zs.length = n := by simpa using e
      rw [← List.append_assoc, ofs_snoc, ih zs el, ofs_snoc, List.length_append, List.length_singleton, Int.pow_succ, Int.add_mul, Int.mul_assoc]
      omega
  exact go ys.length ys rfl
theorem ofs_rev (b : Int) : ∀ ds : List Int, ofs b ds.reverse = val b ds
  | [] => rfl
  | x :: r => by
    rw [List.reverse_cons, ofs_snoc, ofs_rev b r, val, Int.mul_comm]
    omega
theorem val_digs {b : Int} (hb : 2 ≤ b) : ∀ n, 0 ≤ n → val b (digs b n) = n := by
  refine digs_ind hb (fun n h0 h1 => ?_) (fun n h ih => ?_)
  · rw [digs_lt h1]
    show n + b * 0 = n
    rw [Int.mul_zero]
    omega
  · rw [digs_ge hb h, val, ih]
    exact Int.emod_add_mul_ediv n b
theorem ofs_digs {b n : Int} (hb : 2 ≤ b) (h0 : 0 ≤ n) : ofs b (digs b n).reverse = n := by
  rw [ofs_rev, val_digs hb n h0]
theorem val_split (b : Int) : ∀ (k : Nat) (ds : List Int), val b ds = val b (ds.take k) + b ^ k * val b (ds.drop k)
  | 0, ds => by
    rw [List.take_zero, List.drop_zero, Int.pow_zero, Int.one_mul]
    show val b ds = 0 + val b ds
    omega
  | k + 1, [] => by
    rw [List.take_nil, List.drop_nil]
    show (0 : Int) = 0 + b ^ (k + 1) * 0
    rw [Int.mul_zero]
    rfl
  | k + 1, x :: r => by
    rw [List.take_succ_cons, List.drop_succ_cons, val, val, val_split b k r, Int.mul_add, Int.pow_succ, Int.mul_comm (b ^ k) b, Int.mul_assoc]
    omega
theorem val_range {b : Int} (hb : 2 ≤ b) {ds : List Int} (h : InB b ds) : 0 ≤ val b ds ∧ val b ds < b ^ ds.length := by
  have r := ofs_range hb ds.reverse h.reverse
  rw [ofs_rev, List.length_reverse] at r
  exact r
theorem inB_digs {b n : Int} (hb : 2 ≤ b) (h0 : 0 ≤ n) : InB b (digs b n) := digs_range hb n h0
/-- the rest by a power: the last figures -/
theorem mod_pow {b n : Int} (hb : 2 ≤ b) (h0 : 0 ≤ n) (k : Nat) : n % b ^ k = val b ((digs b n).take k) := by
  have r := val_range hb ((inB_digs hb h0).take k)
  have e := val_split b k (digs b n)
  rw [val_digs hb n h0] at e
  have l : ((digs b n).take k).length ≤ k := by
    rw [List.length_take]
    omega
  have m := pow_mono hb l
  have e2 : (val b ((digs b n).take k) + b ^ k * val b ((digs b n).drop k)) % b ^ k = val b ((digs b n).take k) := by
    rw [Int.add_mul_emod_self_left, Int.emod_eq_of_lt r.1 (by omega)]
  rw [← e] at e2
  exact e2
/-- the quotient by a power: the first figures -/
theorem div_pow {b n : Int} (hb : 2 ≤ b) (h0 : 0 ≤ n) (k : Nat) : n / b ^ k = val b ((digs b n).drop k) := by
  have r := val_range hb ((inB_digs hb h0).take k)
  have e := val_split b k (digs b n)
  rw [val_digs hb n h0] at e
  have l : ((digs b n).take k).length ≤ k := by
    rw [List.length_take]
    omega
  have m := pow_mono hb l
  have p : 0 < b ^ k := Int.pow_pos (by omega)
  have e2 : (val b ((digs b n).take k) + b ^ k * val b ((digs b n).drop k)) / b ^ k = val b ((digs b n).drop k) := by
    rw [Int.add_mul_ediv_left _ _ (by omega), Int.ediv_eq_zero_of_lt r.1 (by omega)]
    omega
  rw [← e] at e2
  exact e2
theorem val_mod {b : Int} (hb : 2 ≤ b) {ds : List Int} (h : InB b ds) : val b ds % b = ds.headD 0 := by
  cases ds with
  | nil => rfl
  | cons x r =>
    have hx := h x (by simp)
    show (x + b * val b r) % b = x
    rw [Int.add_mul_emod_self_left, Int.emod_eq_of_lt hx.1 hx.2]
theorem figure_at {b n : Int} (hb : 2 ≤ b) (h0 : 0 ≤ n) (k : Nat) : n / b ^ k % b = (digs b n).getD k 0 := by
  rw [div_pow hb h0, val_mod hb ((inB_digs hb h0).drop k)]
  rw [List.headD_eq_head?_getD, List.head?_drop]
  rfl
theorem ofs_tail {b n : Int} (hb : 2 ≤ b) (h0 : 0 ≤ n) (k : Nat) : ofs b ((digs b n).reverse.drop ((digs b n).length - k)) = n % b ^ k := by
  rw [mod_pow hb h0, ← ofs_rev]
  congr 1
  rw [List.drop_reverse]
  by_cases c : k ≤ (digs b n).length
  · rw [show (digs b n).length - ((digs b n).length - k) = k by omega]
  · rw [List.take_of_length_le (by omega), List.take_of_length_le (by omega)]
theorem getD_rev {ds : List Int} {k : Nat} (h : k < ds.length) : ds.reverse[ds.length - 1 - k]? = some (ds.getD k 0) := by
  rw [List.getElem?_reverse (by omega), show ds.length - 1 - (ds.length - 1 - k) = k by omega]
  rw [List.getD_eq_getElem?_getD, List.getElem?_eq_getElem h]
  rfl
/-- the greatest place is a power at most the number -/
theorem digs_top {b : Int} (hb : 2 ≤ b) : ∀ n, 1 ≤ n → b ^ ((digs b n).length - 1) ≤ n := by
  intro n hn
  have go : ∀ n, 0 ≤ n → 1 ≤ n → b ^ ((digs b n).length - 1) ≤ n := by
    refine digs_ind hb (fun n h0 h1 h => ?_) (fun n h ih h1 => ?_)
    · rw [digs_lt h1]
      show b ^ 0 ≤ n
      rw [Int.pow_zero]
      exact h
    · have i := ih (div_pos hb h)
      rw [digs_ge hb h, List.length_cons, Nat.add_sub_cancel]
      have ne : (digs b (n / b)).length ≠ 0 := fun z => digs_ne hb (div_nn hb (by omega)) (List.length_eq_zero_iff.mp z)
      rw [show (digs b (n / b)).length = ((digs b (n / b)).length - 1) + 1 by omega, Int.pow_succ]
      have m : b ^ ((digs b (n / b)).length - 1) * b ≤ n / b * b := Int.mul_le_mul_of_nonneg_right i (by omega)
      have d : n / b * b ≤ n := Int.ediv_mul_le _ (by omega)
      omega
  exact go n (by omega) hn
/-- figures of a number below 10 ^ 60 in a base up to 10 ^ 30 -/
theorem len_pow {b n : Int} (hb : 2 ≤ b) (hb2 : b ≤ 10 ^ 30) (h0 : 0 ≤ n) (h1 : n < 10 ^ 60) : b ^ (digs b n).length ≤ 10 ^ 90 := by
  have hp : (10 : Int) ^ 60 * 10 ^ 30 = 10 ^ 90 := by decide
  by_cases c : n = 0
  · rw [c, digs_lt (by omega)]
    show b ^ 1 ≤ _
    rw [Int.pow_one]
    omega
  · have t := digs_top hb n (by omega)
    have ne : (digs b n).length ≠ 0 := fun z => digs_ne hb h0 (List.length_eq_zero_iff.mp z)
    rw [show (digs b n).length = ((digs b n).length - 1) + 1 by omega, Int.pow_succ]
    have m : b ^ ((digs b n).length - 1) * b ≤ 10 ^ 60 * 10 ^ 30 := Int.mul_le_mul (by omega) hb2 (by omega) (by decide)
    omega
theorem len_two {b : Int} (hb : 2 ≤ b) {k : Nat} (h : b ^ k ≤ 10 ^ 90) : k < 300 := by
  by_cases c : k < 300
  · exact c
  · have h1 := pow_two_le hb k
    have h2 := pow_mono (b := 2) (by decide) (show 300 ≤ k by omega)
    have h3 : (10 : Int) ^ 90 < 2 ^ 300 := by decide +kernel
    have h4 : (2 : Int) ^ 300 ≤ 10 ^ 90 := Int.le_trans h2 (Int.le_trans h1 h)
    exact absurd h4 (Int.not_le.mpr h3)
/-- partial numbers of figures are small -/
theorem ofs_smB {b : Int} (hb : 2 ≤ b) {xs : List Int} (h : InB b xs) (hs : b ^ xs.length ≤ 10 ^ 250) : ∀ i, i ≤ xs.length → Sm (ofs b (xs.take i)) := fun i hi => by
  have r := ofs_range hb _ (h.take i)
  have e : (xs.take i).length ≤ xs.length := by
    rw [List.length_take]
    omega
  have m := pow_mono hb e
  exact sm_big r.1 (by omega)
/-- a power of a base has bounded bits -/
theorem pow_bits {b : Int} (h0 : 0 ≤ b) (h1 : b ≤ 10 ^ 31) (k : Nat) : (b ^ k).natAbs < 2 ^ (103 * k + 1) := by
  have hb : b.natAbs < 2 ^ 103 := by
    have : (10 : Int) ^ 31 < 2 ^ 103 := by decide +kernel
    omega
  induction k with
  | zero =>
    rw [Int.pow_zero]
    decide
  | succ k ih =>
    rw [Int.pow_succ, Int.natAbs_mul, show 103 * (k + 1) + 1 = (103 * k + 1) + 103 by omega, Nat.pow_add]
    exact Nat.mul_lt_mul'' ih hb
end Eb
namespace Eb
/-! ### order -/
/-- ascending -/
def srt (xs : List Int) : List Int := xs.mergeSort (fun x y => decide (x ≤ y))
theorem srt_perm (xs : List Int) : (srt xs).Perm xs := List.mergeSort_perm _ _
theorem srt_sorted (xs : List Int) : (srt xs).Pairwise (· ≤ ·) := by
  have h := List.pairwise_mergeSort (le := fun (x y : Int) => decide (x ≤ y)) (fun a b c h1 h2 => decide_eq_true (Int.le_trans (of_decide_eq_true h1) (of_decide_eq_true h2))) (fun a b => by
    rcases Int.le_total a b with h | h
    · rw [decide_eq_true h]
      rfl
    · rw [decide_eq_true h, Bool.or_true]) xs
  exact h.imp fun z => of_decide_eq_true z
theorem srt_eq {xs ys : List Int} (p : ys.Perm xs) (s : ys.Pairwise (· ≤ ·)) : ys = srt xs :=
  List.Perm.eq_of_pairwise (fun a b _ _ h1 h2 => Int.le_antisymm h1 h2) s (srt_sorted xs) (p.trans (srt_perm xs).symm)
theorem srt_same {xs ys : List Int} (p : xs.Perm ys) : srt xs = srt ys := srt_eq ((srt_perm xs).trans p) (srt_sorted xs)
/-- how many unlike ones: as many as there are exactly if none stands twice -/
theorem unlike_len : ∀ (ns ks : List Int), ks.Nodup → (∀ z, z ∈ ks ↔ z ∈ ns) → ks.length ≤ ns.length ∧ (ks.length = ns.length ↔ ns.Nodup)
  | [], ks, _, mem => by
    have : ks = [] := by
      cases ks with
      | nil => rfl
      | cons x r => exact absurd ((mem x).mp (by simp)) (by simp)
    subst this
    simp
  | x :: r, ks, nd, mem => by
    by_cases c : x ∈ r
    · have m2 : ∀ z, z ∈ ks ↔ z ∈ r := fun z => (mem z).trans ⟨fun h => (List.mem_cons.mp h).elim (fun e => e ▸ c) id, fun h => List.mem_cons_of_mem _ h⟩
      have i := unlike_len r ks nd m2
      rw [List.length_cons]
      refine ⟨by omega, fun z => by omega, fun z => absurd c (List.nodup_cons.mp z).1⟩
    · have hx : x ∈ ks := (mem x).mpr (by simp)
      have nd2 := nd.erase x
      have m2 : ∀ z, z ∈ ks.erase x ↔ z ∈ r := fun z => by
        rw [nd.mem_erase_iff, mem z, List.mem_cons]
        constructor
        · rintro ⟨h1, h2⟩
          exact h2.resolve_left h1
        · intro h
          exact ⟨fun e => c (e ▸ h), .inr h⟩
      have i := unlike_len r (ks.erase x) nd2 m2
      have l := List.length_erase_of_mem hx
      have lp : 0 < ks.length := List.length_pos_of_mem hx
      rw [List.length_cons, List.nodup_cons]
      refine ⟨by omega, fun z => ⟨c, i.2.mp (by omega)⟩, fun z => ?_⟩
      have := i.2.mpr z.2
      omega
theorem nodup_take {xs : List Int} {i : Nat} {x : Int} (h : xs[i]? = some x) : (xs.take (i + 1)).Nodup ↔ (xs.take i).Nodup ∧ x ∉ xs.take i := by
  rw [List.take_add_one, h, Option.toList_some, List.nodup_append]
  constructor
  · rintro ⟨h1, _, h3⟩
    exact ⟨h1, fun z => h3 x z x (by simp) rfl⟩
  · rintro ⟨h1, h2⟩
    exact ⟨h1, by simp, fun a ha b hb e => h2 (by rw [List.mem_singleton.mp hb] at e; exact e ▸ ha)⟩
end Eb

/-! ## figures: more mathematics (order, joined numbers, sums) -/
namespace Eb
theorem val_append (b : Int) : ∀ xs ys : List Int, val b (xs ++ ys) = val b xs + b ^ xs.length * val b ys
  | [], ys => by
    rw [List.nil_append, List.length_nil, Int.pow_zero, Int.one_mul]
    show val b ys = 0 + val b ys
    omega
  | x :: r, ys => by
    rw [List.cons_append, val, val, val_append b r ys, List.length_cons, Int.pow_succ, Int.mul_add, Int.mul_comm (b ^ r.length) b, Int.mul_assoc]
    omega
/-- noughts at the end taken away -/
def tz : List Int → List Int
  | [] => []
  | x :: r => if tz r = [] ∧ x = 0 then [] else x :: tz r
def nz (l : List Int) : List Int := if l = [] then [0] else l
theorem nz_ne {l : List Int} (h : l ≠ []) : nz l = l := if_neg h
theorem tz_zero {b : Int} (hb : 2 ≤ b) : ∀ ds : List Int, InB b ds → (val b ds = 0 ↔ tz ds = [])
  | [], _ => by simp [val, tz]
  | x :: r, h => by
    have i := tz_zero hb r fun y hy => h y (by simp [hy])
    have hx := h x (by simp)
    have hv := (val_range hb (ds := r) fun y hy => h y (by simp [hy])).1
    have hm : 0 ≤ b * val b r := Int.mul_nonneg (by omega) hv
    rw [val, tz]
    constructor
    · intro z
      have x0 : x = 0 := by omega
      have m0 : b * val b r = 0 := by omega
      have v0 : val b r = 0 := by
        rcases Int.mul_eq_zero.mp m0 with e | e
        · omega
        · exact e
      rw [if_pos ⟨i.mp v0, x0⟩]
    · intro z
      by_cases c : tz r = [] ∧ x = 0
      · rw [i.mpr c.1, c.2, Int.mul_zero]
        rfl
      · rw [if_neg c] at z
        cases z
theorem digs_snoc {b m x : Int} (hb : 2 ≤ b) (hm : 1 ≤ m) (x0 : 0 ≤ x) (x1 : x < b) : digs b (x + b * m) = x :: digs b m := by
  have h1 : b * 1 ≤ b * m := Int.mul_le_mul_of_nonneg_left hm (by omega)
  rw [digs_ge hb (by omega), Int.add_mul_emod_self_left, Int.emod_eq_of_lt x0 x1, Int.add_mul_ediv_left _ _ (by omega), Int.ediv_eq_zero_of_lt x0 x1, Int.zero_add]
theorem digs_val {b : Int} (hb : 2 ≤ b) : ∀ ds : List Int, InB b ds → digs b (val b ds) = nz (tz ds)
  | [], _ => by
    show digs b 0 = nz []
    rw [digs_lt (by omega)]
    rfl
  | x :: r, h => by
    have hr : InB b r := fun y hy => h y (by simp [hy])
    have hx := h x (by simp)
    have i := digs_val hb r hr
    have t := tz_zero hb r hr
    have hv := (val_range hb hr).1
    rw [val, tz]
    by_cases c : val b r = 0
    · rw [c, Int.mul_zero, Int.add_zero, digs_lt hx.2]
      have e := t.mp c
      by_cases x0 : x = 0
      · rw [if_pos ⟨e, x0⟩, x0]
        rfl
      · rw [if_neg (fun z => x0 z.2), e]
        rfl
    · have e : tz r ≠ [] := fun z => c (t.mpr z)
      rw [digs_snoc hb (by omega) hx.1 hx.2, i, nz_ne e, if_neg (fun z => e z.1), nz_ne (by simp)]
theorem tz_sum : ∀ ds : List Int, (tz ds).sum = ds.sum
  | [] => rfl
  | x :: r => by
    rw [tz, List.sum_cons, ← tz_sum r]
    by_cases c : tz r = [] ∧ x = 0
    · rw [if_pos c, c.1, c.2]
      rfl
    · rw [if_neg c, List.sum_cons]
theorem nz_sum (l : List Int) : (nz l).sum = l.sum := by
  unfold nz
  split
  · rename_i h
    rw [h]
    rfl
  · rfl
theorem dsum_val {b : Int} (hb : 2 ≤ b) {ds : List Int} (h : InB b ds) : dsum b (val b ds) = ds.sum := by
  unfold dsum
  rw [digs_val hb ds h, nz_sum, tz_sum]
theorem ofs_val (b : Int) (xs : List Int) : ofs b xs = val b xs.reverse := by
  rw [← ofs_rev, List.reverse_reverse]
theorem perm_sum {xs ys : List Int} (p : xs.Perm ys) : xs.sum = ys.sum := by
  induction p with
  | nil => rfl
  | cons x _ ih => rw [List.sum_cons, List.sum_cons, ih]
  | swap x y l =>
    simp only [List.sum_cons]
    omega
  | trans _ _ a b => exact a.trans b
theorem dsum_ofs {b : Int} (hb : 2 ≤ b) {xs : List Int} (h : InB b xs) : dsum b (ofs b xs) = xs.sum := by
  rw [ofs_val, dsum_val hb h.reverse]
  exact perm_sum (List.reverse_perm xs)
/-! ### rests by the base less 1 -/
theorem val_dvd (b : Int) : ∀ ds : List Int, (b - 1) ∣ (val b ds - ds.sum)
  | [] => ⟨0, by simp [val]⟩
  | x :: r => by
    obtain ⟨c, hc⟩ := val_dvd b r
    refine ⟨val b r + c, ?_⟩
    rw [val, List.sum_cons, Int.mul_add, ← hc, Int.sub_mul, Int.one_mul]
    omega
theorem emod_same {a b m : Int} (h : m ∣ (a - b)) : a % m = b % m := Int.emod_eq_emod_iff_emod_sub_eq_zero.mpr (Int.emod_eq_zero_of_dvd h)
theorem dsum_mod {b n : Int} (hb : 2 ≤ b) (h0 : 0 ≤ n) : dsum b n % (b - 1) = n % (b - 1) := by
  have h := val_dvd b (digs b n)
  rw [val_digs hb n h0] at h
  exact (emod_same h).symm
theorem rooted_mod {b : Int} (hb : 2 ≤ b) : ∀ n, 0 ≤ n → rooted b n % (b - 1) = n % (b - 1) := by
  refine rooted_ind hb (fun n h0 h1 => ?_) (fun n h ih => ?_)
  · rw [rooted_lt h1]
  · rw [rooted_ge hb h, ih, dsum_mod hb (by omega)]
theorem dsum_pos {b : Int} (hb : 2 ≤ b) : ∀ n, 0 ≤ n → 1 ≤ n → 1 ≤ dsum b n := by
  unfold dsum
  refine digs_ind hb (fun n h0 h1 h => ?_) (fun n h ih h1 => ?_)
  · rw [digs_lt h1]
    simpa using h
  · rw [digs_ge hb h, List.sum_cons]
    have := ih (div_pos hb h)
    have := Int.emod_nonneg n (show b ≠ 0 by omega)
    omega
theorem rooted_range {b : Int} (hb : 2 ≤ b) : ∀ n, 0 ≤ n → 0 ≤ rooted b n ∧ rooted b n < b ∧ (rooted b n = 0 ↔ n = 0) := by
  refine rooted_ind hb (fun n h0 h1 => ?_) (fun n h ih => ?_)
  · rw [rooted_lt h1]
    exact ⟨h0, h1, Iff.rfl⟩
  · rw [rooted_ge hb h]
    have p := dsum_pos hb n (by omega) (by omega)
    refine ⟨ih.1, ih.2.1, ih.2.2.trans ⟨fun z => by omega, fun z => by omega⟩⟩
/-! ### the least and the greatest number -/
theorem ofs_cons (b x : Int) (r : List Int) : ofs b (x :: r) = x * b ^ r.length + ofs b r := by
  rw [show x :: r = [x] ++ r from rfl, ofs_append]
  congr 1
  congr 1
  show (0 : Int) * b + x = x
  omega
theorem least_le {b : Int} (hb : 2 ≤ b) : ∀ (n : Nat) (xs s : List Int), xs.length = n → InB b xs → s.Perm xs → s.Pairwise (· ≤ ·) → ofs b s ≤ ofs b xs := by
  intro n
  induction n with
  | zero =>
    intro xs s e _ p _
    rw [List.length_eq_zero_iff.mp e] at p ⊢
    rw [p.eq_nil]
    exact Int.le_refl _
  | succ n ih =>
    intro xs s e h p ps
    cases xs with
    | nil => cases e
    | cons x r =>
      cases s with
      | nil => exact absurd p.symm.eq_nil (by simp)
      | cons m t =>
        have lt : t.length = r.length := by
          have := p.length_eq
          simpa using this
        have hs : InB b (m :: t) := fun y hy => h y (p.mem_iff.mp hy)
        have mx : m ≤ x := by
          have : x ∈ m :: t := p.mem_iff.mpr (by simp)
          rcases List.mem_cons.mp this with e' | e'
          · omega
          · exact (List.pairwise_cons.mp ps).1 x e'
        rw [ofs_cons, ofs_cons, lt]
        by_cases c : m = x
        · subst c
          have p' : t.Perm r := (List.perm_cons m).mp p
          have := ih r t (by simpa using e) (fun y hy => h y (by simp [hy])) p' (List.pairwise_cons.mp ps).2
          omega
        · have rt := ofs_range hb t fun y hy => hs y (by simp [hy])
          have rr := ofs_range hb r fun y hy => h y (by simp [hy])
          rw [lt] at rt
          have m2 : (m + 1) * b ^ r.length ≤ x * b ^ r.length := Int.mul_le_mul_of_nonneg_right (by omega) (Int.le_of_lt (Int.pow_pos (by omega)))
          rw [Int.add_mul, Int.one_mul] at m2
          omega
theorem greatest_ge {b : Int} (hb : 2 ≤ b) : ∀ (n : Nat) (xs s : List Int), xs.length = n → InB b xs → s.Perm xs → s.Pairwise (fun x y => y ≤ x) → ofs b xs ≤ ofs b s := by
  intro n
  induction n with
  | zero =>
    intro xs s e _ p _
    rw [List.length_eq_zero_iff.mp e] at p ⊢
    rw [p.eq_nil]
    exact Int.le_refl _
  | succ n ih =>
    intro xs s e h p ps
    cases xs with
    | nil => cases e
    | cons x r =>
      cases s with
      | nil => exact absurd p.symm.eq_nil (by simp)
      | cons m t =>
        have lt : t.length = r.length := by
          have := p.length_eq
          simpa using this
        have hs : InB b (m :: t) := fun y hy => h y (p.mem_iff.mp hy)
        have mx : x ≤ m := by
          have : x ∈ m :: t := p.mem_iff.mpr (by simp)
          rcases List.mem_cons.mp this with e' | e'
          · omega
          · exact (List.pairwise_cons.mp ps).1 x e'
        rw [ofs_cons, ofs_cons, lt]
        by_cases c : m = x
        · subst c
          have p' : t.Perm r := (List.perm_cons m).mp p
          have := ih r t (by simpa using e) (fun y hy => h y (by simp [hy])) p' (List.pairwise_cons.mp ps).2
          omega
        · have rt := ofs_range hb t fun y hy => hs y (by simp [hy])
          have rr := ofs_range hb r fun y hy => h y (by simp [hy])
          have m2 : (x + 1) * b ^ r.length ≤ m * b ^ r.length := Int.mul_le_mul_of_nonneg_right (by omega) (Int.le_of_lt (Int.pow_pos (by omega)))
          rw [Int.add_mul, Int.one_mul] at m2
          omega
theorem srt_le {b : Int} (hb : 2 ≤ b) {xs ys : List Int} (h : InB b xs) (p : xs.Perm ys) : ofs b (srt ys) ≤ ofs b xs := by
  rw [← srt_same p]
  exact least_le hb xs.length xs (srt xs) rfl h (srt_perm xs) (srt_sorted xs)
theorem srt_desc (xs : List Int) : (srt xs).reverse.Pairwise (fun x y => y ≤ x) := List.pairwise_reverse.mpr (srt_sorted xs)
theorem srt_ge {b : Int} (hb : 2 ≤ b) {xs ys : List Int} (h : InB b xs) (p : xs.Perm ys) : ofs b xs ≤ ofs b (srt ys).reverse := by
  rw [← srt_same p]
  exact greatest_ge hb xs.length xs (srt xs).reverse rfl h ((List.reverse_perm _).trans (srt_perm xs)) (srt_desc xs)
/-! ### noughts at the end -/
theorem tz_ends : ∀ l : List Int, ∃ k, l = tz l ++ List.replicate k 0
  | [] => ⟨0, rfl⟩
  | x :: r => by
    obtain ⟨k, hk⟩ := tz_ends r
    rw [tz]
    by_cases c : tz r = [] ∧ x = 0
    · refine ⟨k + 1, ?_⟩
      rw [if_pos c, List.nil_append, List.replicate_succ, c.2]
      congr 1
      rw [c.1, List.nil_append] at hk
      exact hk
    · refine ⟨k, ?_⟩
      rw [if_neg c, List.cons_append, ← hk]
theorem tz_snoc (x : Int) (hx : x ≠ 0) : ∀ l : List Int, tz (l ++ [x]) = l ++ [x]
  | [] => by
    show (if tz [] = [] ∧ x = 0 then [] else x :: tz []) = [x]
    rw [if_neg (fun z => hx z.2)]
    rfl
  | y :: r => by
    rw [List.cons_append, tz, tz_snoc x hx r, if_neg (fun z => by simp at z)]
theorem tz_snoc0 : ∀ l : List Int, tz (l ++ [0]) = tz l
  | [] => by
    show (if tz [] = [] ∧ (0 : Int) = 0 then [] else 0 :: tz []) = []
    rw [if_pos ⟨rfl, rfl⟩]
  | y :: r => by
    rw [List.cons_append, tz, tz_snoc0 r, tz]
/-- figures of a number end (the greatest place) in none 0 -/
theorem digs_tz {b n : Int} (hb : 2 ≤ b) (hn : 1 ≤ n) : tz (digs b n) = digs b n := by
  have h := digs_val hb (digs b n) (inB_digs hb (by omega))
  rw [val_digs hb n (by omega)] at h
  unfold nz at h
  split at h
  · rename_i z
    have v := (tz_zero hb (digs b n) (inB_digs hb (by omega))).mpr z
    rw [val_digs hb n (by omega)] at v
    omega
  · exact h.symm
theorem tz_app {xs ys : List Int} (h : tz ys = ys) (hne : ys ≠ []) : tz (xs ++ ys) = xs ++ ys := by
  induction xs with
  | nil => exact h
  | cons x r ih =>
    rw [List.cons_append, tz, ih, if_neg]
    intro z
    have := z.1
    simp at this
    exact hne this.2
/-- the greatest number's figures -/
theorem digs_high {b n : Int} (hb : 2 ≤ b) (h0 : 0 ≤ n) : digs b (ofs b (srt (digs b n)).reverse) = srt (digs b n) := by
  have inb : InB b (srt (digs b n)) := fun x hx => inB_digs hb h0 x ((srt_perm _).mem_iff.mp hx)
  rw [ofs_rev, digs_val hb _ inb]
  have hne : srt (digs b n) ≠ [] := fun z => by
    have := (srt_perm (digs b n)).length_eq
    rw [z] at this
    exact digs_ne hb h0 (List.length_eq_zero_iff.mp this.symm)
  by_cases c : n = 0
  · subst c
    rw [digs_lt (show (0 : Int) < b by omega)]
    have e : srt [(0 : Int)] = [0] := (srt_eq (List.Perm.refl _) (by simp)).symm
    rw [e]
    rfl
  · obtain ⟨ys, z, e⟩ : ∃ ys z, srt (digs b n) = ys ++ [z] := ⟨(srt (digs b n)).dropLast, (srt (digs b n)).getLast hne, (List.dropLast_concat_getLast hne).symm⟩
    have hz : z ≠ 0 := fun z0 => by
      have s := srt_sorted (digs b n)
      rw [e, List.pairwise_append] at s
      have all0 : ∀ x ∈ digs b n, x = 0 := fun x hx => by
        have hx' := (srt_perm (digs b n)).mem_iff.mpr hx
        have r := inB_digs hb h0 x hx
        rw [e] at hx'
        rcases List.mem_append.mp hx' with q | q
        · have := s.2.2 x q z (by simp)
          omega
        · rw [List.mem_singleton.mp q]
          exact z0
      have sm : (digs b n).sum = 0 := by
        have go : ∀ l : List Int, (∀ x ∈ l, x = 0) → l.sum = 0 := by
          intro l
          induction l with
          | nil => intro _; rfl
          | cons x r ih =>
            intro q
            rw [List.sum_cons, q x (by simp), ih fun y hy => q y (by simp [hy])]
            rfl
        exact go _ all0
      have := dsum_pos hb n h0 (by omega)
      unfold dsum at this
      omega
    rw [e, tz_snoc z hz, nz_ne (by simp)]
/-! ### noughts ahead -/
theorem ofs_zeros (b : Int) : ∀ (k : Nat) (ys : List Int), ofs b (List.replicate k 0 ++ ys) = ofs b ys
  | 0, ys => rfl
  | k + 1, ys => by
    rw [List.replicate_succ, List.cons_append, ofs_cons, ofs_zeros b k ys, Int.zero_mul, Int.zero_add]
theorem ofs_shift (b : Int) (xs : List Int) (k : Nat) : ofs b (xs ++ List.replicate k 0) = ofs b xs * b ^ k := by
  rw [ofs_append, List.length_replicate]
  have : ofs b (List.replicate k 0) = 0 := by
    have := ofs_zeros b k []
    rw [List.append_nil] at this
    exact this
  omega
theorem srt_zeros {b : Int} {l : List Int} (h : InB b l) (k : Nat) : srt (l ++ List.replicate k 0) = List.replicate k 0 ++ srt l := by
  refine (srt_eq ?_ ?_).symm
  · exact (List.perm_append_comm.trans (List.Perm.append_right _ (srt_perm l)))
  · rw [List.pairwise_append]
    refine ⟨?_, srt_sorted l, fun x hx y hy => ?_⟩
    · exact List.pairwise_replicate.mpr (.inr (Int.le_refl _))
    · rw [List.eq_of_mem_replicate hx]
      exact (h y ((srt_perm l).mem_iff.mp hy)).1
/-- sorted figures of what has lost noughts -/
theorem low_same {b : Int} {l : List Int} (h : InB b l) : ofs b (srt (nz (tz l))) = ofs b (srt l) := by
  obtain ⟨k, hk⟩ := tz_ends l
  have ht : InB b (tz l) := fun x hx => h x (by rw [hk]; exact List.mem_append_left _ hx)
  have e : srt l = List.replicate k 0 ++ srt (tz l) := by
    conv => lhs; rw [hk]
    exact srt_zeros ht k
  rw [e, ofs_zeros]
  unfold nz
  split
  · rename_i z
    rw [z, show srt [(0 : Int)] = [0] from (srt_eq (List.Perm.refl _) (by simp)).symm, show srt ([] : List Int) = [] from (srt_eq (List.Perm.refl _) (by simp)).symm]
    exact ofs_zeros b 1 []
  · rfl
/-- what is left if noughts at the end are cut off -/
def bare (b n : Int) : Int := if h : 2 ≤ b ∧ 0 < n ∧ n % b = 0 then bare b (n / b) else n
termination_by n.toNat
decreasing_by
  have hle : b ≤ n := by
    by_cases c : b ≤ n
    · exact c
    · have := Int.emod_eq_of_lt (a := n) (b := b) (by omega) (by omega)
      omega
  have h1 : n / b < n := Int.ediv_lt_self_of_pos_of_ne_one (by omega) (by omega)
  have h2 : 0 ≤ n / b := Int.ediv_nonneg (by omega) (by omega)
  omega
theorem bare_step {b n : Int} (hb : 2 ≤ b) (h : 0 < n) (m : n % b = 0) : bare b n = bare b (n / b) := by
  rw [bare, dif_pos ⟨hb, h, m⟩]
theorem bare_end {b n : Int} (h : ¬ (0 < n ∧ n % b = 0)) : bare b n = n := by
  rw [bare, dif_neg (fun z => h z.2)]
theorem bare_ofs {b : Int} (hb : 2 ≤ b) : ∀ (k : Nat) (l : List Int), l.length = k → InB b l → bare b (ofs b l) = ofs b (tz l) := by
  intro k
  induction k with
  | zero =>
    intro l e _
    rw [List.length_eq_zero_iff.mp e]
    exact bare_end (fun z => absurd z.1 (Int.lt_irrefl 0))
  | succ k ih =>
    intro l e h
    have hne : l ≠ [] := fun z => by rw [z] at e; cases e
    obtain ⟨ys, x, rfl⟩ : ∃ ys x, l = ys ++ [x] := ⟨l.dropLast, l.getLast hne, (List.dropLast_concat_getLast hne).symm⟩
    have hy : InB b ys := fun y q => h y (List.mem_append_left _ q)
    have hx := h x (by simp)
    have ry := (ofs_range hb ys hy).1
    have i := ih ys (by simpa using e) hy
    rw [ofs_snoc]
    have md : (ofs b ys * b + x) % b = x := by
      rw [Int.add_comm, Int.add_mul_emod_self_right, Int.emod_eq_of_lt hx.1 hx.2]
    by_cases c : x = 0
    · subst c
      rw [tz_snoc0, ← i, Int.add_zero]
      by_cases z : ofs b ys = 0
      · rw [z, Int.zero_mul]
      · have p : 1 * b ≤ ofs b ys * b := Int.mul_le_mul_of_nonneg_right (by omega) (by omega)
        rw [bare_step hb (by omega) (Int.mul_emod_left _ _), Int.mul_ediv_cancel _ (by omega)]
    · rw [tz_snoc x c, ofs_snoc]
      exact bare_end fun z => c (by rw [md] at z; exact z.2)
/-- a number turned about twice -/
theorem turned_twice {b n : Int} (hb : 2 ≤ b) (h0 : 0 ≤ n) : ofs b (digs b (ofs b (digs b n))) = bare b n := by
  have inr := (inB_digs hb h0).reverse
  have e1 : ofs b (digs b n) = val b (digs b n).reverse := ofs_val b _
  rw [e1, digs_val hb _ inr]
  have e2 := bare_ofs hb _ (digs b n).reverse rfl inr
  rw [ofs_digs hb h0] at e2
  rw [e2]
  unfold nz
  split
  · rename_i z
    rw [z]
    exact ofs_zeros b 1 []
  · rfl
theorem ofs_inj {b : Int} (hb : 2 ≤ b) : ∀ (k : Nat) (xs ys : List Int), xs.length = k → ys.length = k → InB b xs → InB b ys → ofs b xs = ofs b ys → xs = ys := by
  intro k
  induction k with
  | zero =>
    intro xs ys e1 e2 _ _ _
    rw [List.length_eq_zero_iff.mp e1, List.length_eq_zero_iff.mp e2]
  | succ k ih =>
    intro xs ys e1 e2 h1 h2 e
    cases xs with
    | nil => cases e1
    | cons x r =>
      cases ys with
      | nil => cases e2
      | cons y q =>
        have lr : r.length = k := by simpa using e1
        have lq : q.length = k := by simpa using e2
        have rr := ofs_range hb r fun z hz => h1 z (by simp [hz])
        have rq := ofs_range hb q fun z hz => h2 z (by simp [hz])
        rw [ofs_cons, ofs_cons, lr, lq] at e
        rw [lr] at rr
        rw [lq] at rq
        have p : 0 < b ^ k := Int.pow_pos (by omega)
        have xy : x = y := by
          rcases Int.lt_trichotomy x y with c | c | c
          · have m : (x + 1) * b ^ k ≤ y * b ^ k := Int.mul_le_mul_of_nonneg_right (by omega) (by omega)
            rw [Int.add_mul, Int.one_mul] at m
            omega
          · exact c
          · have m : (y + 1) * b ^ k ≤ x * b ^ k := Int.mul_le_mul_of_nonneg_right (by omega) (by omega)
            rw [Int.add_mul, Int.one_mul] at m
            omega
        subst xy
        rw [ih r q lr lq (fun z hz => h1 z (by simp [hz])) (fun z hz => h2 z (by simp [hz])) (by omega)]
theorem mirrored_iff {b n : Int} (hb : 2 ≤ b) (h0 : 0 ≤ n) : ((digs b n).reverse = digs b n ↔ ofs b (digs b n) = n) := by
  have inb := inB_digs hb h0
  constructor
  · intro e
    conv => lhs; rw [← e]
    exact ofs_digs hb h0
  · intro e
    refine ofs_inj hb (digs b n).length _ _ (by rw [List.length_reverse]) rfl inb.reverse inb ?_
    rw [ofs_digs hb h0, e]
/-! ### joined -/
theorem digs_joined {b n o : Int} (hb : 2 ≤ b) (hn : 1 ≤ n) (ho : 0 ≤ o) : digs b (n * b ^ (digs b o).length + o) = digs b o ++ digs b n := by
  have e : n * b ^ (digs b o).length + o = val b (digs b o ++ digs b n) := by
    rw [val_append, val_digs hb n (by omega), val_digs hb o ho, Int.mul_comm]
    omega
  have inb : InB b (digs b o ++ digs b n) := (inB_digs hb ho).append (inB_digs hb (by omega))
  have t := tz_app (xs := digs b o) (digs_tz hb hn) (digs_ne hb (by omega))
  rw [e, digs_val hb _ inb, t, nz_ne]
  intro z
  exact digs_ne hb ho (List.append_eq_nil_iff.mp z).1
theorem lt_pow {b n : Int} (hb : 2 ≤ b) (h0 : 0 ≤ n) : n < b ^ (digs b n).length := by
  have r := (val_range hb (inB_digs hb h0)).2
  rw [val_digs hb n h0] at r
  exact r
theorem ofs_one (b : Int) (k : Nat) : ofs b (1 :: List.replicate k 0) = b ^ k := by
  rw [ofs_cons, List.length_replicate, Int.one_mul]
  have := ofs_zeros b k []
  rw [List.append_nil] at this
  rw [this]
  show b ^ k + 0 = b ^ k
  omega
theorem head_div {b n : Int} (hb : 2 ≤ b) (h0 : 0 ≤ n) {k : Nat} (hk : k ≤ (digs b n).length) : ofs b ((digs b n).reverse.take ((digs b n).length - k)) = n / b ^ k := by
  rw [div_pow hb h0, ← ofs_rev]
  congr 1
  rw [List.take_reverse, show (digs b n).length - ((digs b n).length - k) = k by omega]
theorem sum_places (b : Int) (ds : List Int) : ∀ k : Nat, ((List.range k).map fun j => ds.getD j 0 * b ^ j).sum = val b (ds.take k)
  | 0 => by simp [val]
  | k + 1 => by
    rw [List.range_succ, List.map_append, List.sum_append, sum_places b ds k, List.take_add_one, val_append]
    by_cases c : k < ds.length
    · have e : ds[k]? = some ds[k] := List.getElem?_eq_getElem c
      rw [e, Option.toList_some]
      have g : ds.getD k 0 = ds[k] := by
        rw [List.getD_eq_getElem?_getD, e]
        rfl
      simp only [List.map_cons, List.map_nil, List.sum_cons, List.sum_nil, val, g, Int.mul_zero, Int.add_zero]
      rw [List.length_take, Nat.min_eq_left (by omega), Int.mul_comm]
    · have e : ds[k]? = none := List.getElem?_eq_none (by omega)
      rw [e]
      have g : ds.getD k 0 = 0 := by
        rw [List.getD_eq_getElem?_getD, e]
        rfl
      simp only [List.map_cons, List.map_nil, List.sum_cons, List.sum_nil, g, Int.zero_mul, Option.toList_none, val, Int.mul_zero, Int.add_zero]
theorem first_le {b n : Int} (hb : 2 ≤ b) (h0 : 0 ≤ n) (k : Nat) : 0 ≤ ofs b ((digs b n).reverse.take k) ∧ ofs b ((digs b n).reverse.take k) ≤ n := by
  have inr := (inB_digs hb h0).reverse
  have e := ofs_append b ((digs b n).reverse.drop k) ((digs b n).reverse.take k)
  rw [List.take_append_drop, ofs_digs hb h0] at e
  have r1 := (ofs_range hb _ (inr.take k)).1
  have r2 := (ofs_range hb _ (inr.drop k)).1
  have p : 1 ≤ b ^ ((digs b n).reverse.drop k).length := Int.pow_pos (by omega)
  have m : ofs b ((digs b n).reverse.take k) * 1 ≤ ofs b ((digs b n).reverse.take k) * b ^ ((digs b n).reverse.drop k).length := Int.mul_le_mul_of_nonneg_left p r1
  omega
end Eb
namespace Eb
/-- the power behind the figures of a number that is no giant -/
theorem lenB {b m : Int} (hb : 2 ≤ b) (hb2 : b ≤ 10 ^ 30) (h0 : 0 ≤ m) (h1 : m ≤ 10 ^ 200) : b ^ (digs b m).length ≤ 10 ^ 230 := by
  have hp : (10 : Int) ^ 200 * 10 ^ 30 = 10 ^ 230 := by decide +kernel
  by_cases c : m = 0
  · rw [c, digs_lt (by omega)]
    show b ^ 1 ≤ _
    rw [Int.pow_one]
    have : (10 : Int) ^ 30 ≤ 10 ^ 230 := by decide +kernel
    omega
  · have t := digs_top hb m (by omega)
    have ne : (digs b m).length ≠ 0 := fun z => digs_ne hb h0 (List.length_eq_zero_iff.mp z)
    rw [show (digs b m).length = ((digs b m).length - 1) + 1 by omega, Int.pow_succ]
    have m2 : b ^ ((digs b m).length - 1) * b ≤ 10 ^ 200 * 10 ^ 30 := Int.mul_le_mul (by omega) hb2 (by omega) (by decide +kernel)
    omega
theorem lenB2 {b m : Int} (hb : 2 ≤ b) (hb2 : b ≤ 10 ^ 30) (h0 : 0 ≤ m) (h1 : m ≤ 10 ^ 200) : b ^ (digs b m).length ≤ 10 ^ 250 := by
  have := lenB hb hb2 h0 h1
  have e : (10 : Int) ^ 230 ≤ 10 ^ 250 := by decide +kernel
  omega
/-- the greatest number by the least one -/
theorem high_low {b n : Int} (hb : 2 ≤ b) (h0 : 0 ≤ n) : (digs b (ofs b (srt (digs b n)))).length ≤ (digs b n).length ∧
    ofs b (srt (digs b (ofs b (srt (digs b n))))).reverse * b ^ ((digs b n).length - (digs b (ofs b (srt (digs b n)))).length) = ofs b (srt (digs b n)).reverse := by
  have inb : InB b (srt (digs b n)).reverse := fun x hx => inB_digs hb h0 x ((srt_perm _).mem_iff.mp (List.mem_reverse.mp hx))
  have ll : (srt (digs b n)).reverse.length = (digs b n).length := by
    rw [List.length_reverse, (srt_perm _).length_eq]
  have e1 : digs b (ofs b (srt (digs b n))) = nz (tz (srt (digs b n)).reverse) := by
    rw [ofs_val, digs_val hb _ inb]
  obtain ⟨k, hk⟩ := tz_ends (srt (digs b n)).reverse
  rw [e1]
  by_cases c : tz (srt (digs b n)).reverse = []
  · have n0 : n = 0 := by
      by_cases z : n = 0
      · exact z
      · have p := dsum_pos hb n h0 (by omega)
        unfold dsum at p
        have s1 := perm_sum ((List.reverse_perm (srt (digs b n))).trans (srt_perm (digs b n)))
        have s2 := tz_sum (srt (digs b n)).reverse
        rw [c] at s2
        have s3 : ([] : List Int).sum = 0 := rfl
        omega
    subst n0
    rw [c]
    have d0 : digs b 0 = [0] := digs_lt (by omega)
    rw [d0]
    have e : srt [(0 : Int)] = [0] := (srt_eq (List.Perm.refl _) (by simp)).symm
    rw [e]
    show 1 ≤ 1 ∧ ofs b (srt [0]).reverse * b ^ (1 - 1) = ofs b [0]
    rw [e]
    refine ⟨Nat.le_refl _, ?_⟩
    rw [Nat.sub_self, Int.pow_zero, Int.mul_one]
    rfl
  · rw [nz_ne c]
    have lk : (tz (srt (digs b n)).reverse).length + k = (digs b n).length := by
      have := congrArg List.length hk
      rw [ll, List.length_append, List.length_replicate] at this
      exact this.symm
    have pw : (tz (srt (digs b n)).reverse).Pairwise (fun x y => y ≤ x) := by
      have q := srt_desc (digs b n)
      rw [hk, List.pairwise_append] at q
      exact q.1
    have e2 : srt (tz (srt (digs b n)).reverse) = (tz (srt (digs b n)).reverse).reverse := (srt_eq (List.reverse_perm _) (List.pairwise_reverse.mpr pw)).symm
    refine ⟨by omega, ?_⟩
    rw [e2, List.reverse_reverse, show (digs b n).length - (tz (srt (digs b n)).reverse).length = k by omega, ← ofs_shift, ← hk]
end Eb

/-! ## repr of data: defs that are run where no repr is under way -/
namespace Eb
open PySem PySem.Spec PyProof.Rows L2
/-- no repr is under way around -/
def Grd (A : Around) : Prop := A.guards = some []
/-- a def's promise where no repr is under way -/
structure FnG (P : Program) (w : World) (K : PySem.W.Frag) (mg : Str → Option Value) (base : Heap) (CX : CXT) (k : Nat) (f : Addr) (fd : FuncData) (ps : List Str) (sp : Sp) : Prop where
  len : ∀ vs H Q E, sp vs H Q E → vs.length = ps.length
  go : ∀ (A : Around) (out : List Env) (s : Shared) (H : Hp) (args : Args) (us : List Value) (vs : List V) (Q : VK) (E : XK), Grd A → Room k A → Env0 P w K mg base A out s H → BindsTo s fd args (ps.zip us) →
    Vals vs us → sp vs H Q E → codeAny (model P w) A (.call (.ref f) args) (CR CX out P w H s Q E) s
theorem FnG.of {P : Program} {w : World} {K : PySem.W.Frag} {mg : Str → Option Value} {base : Heap} {CX : CXT} {k : Nat} {f : Addr} {fd : FuncData} {ps : List Str} {sp : Sp} (F : FnOk P w K mg base CX k f fd ps sp) : FnG P w K mg base CX k f fd ps sp :=
  ⟨F.len, fun A out s H args us vs Q E _ => F.run A out s H args us vs Q E⟩
section
variable {P : Program} {w : World} {K : PySem.W.Frag} {mg : Str → Option Value} {base : Heap} {CX : CXT}
/-- a def of the text, by its body, where no repr is under way -/
theorem fun_g {x qual : Str} {st : Stmt} {f : Addr} {fd : FuncData} {N ps : List Str} {k : Nat} {sp : Sp} (F : Fun K x qual st f fd) (S : FnScope N ps (defScope st)) (len : ∀ vs H Q E, sp vs H Q E → vs.length = ps.length)
    (body : ∀ (cdv : Value) (A : Around) (out : List Env) (s : Shared) (H : Hp) (vs : List V) (Q : VK) (E : XK), Grd A → Room k (A.deeper (envOfC qual (defScope st) s.heap.objs.size f cdv)) → sp vs H Q E →
      ∃ t, PSs (cxOf CX0 P w K mg base N qual (defScope st) f cdv A out s H E).nox (defBody st) t ∧ t { nx := fun _ H' => Q .non H', rt := Q } (start N vs) H) : FnG P w K mg base CX0 (k + 1) f fd ps sp := by
  obtain ⟨oc, od, kV, doc, pm, an, cdv, ct, osl, rfl, lk, hcd⟩ := F.ex
  refine ⟨len, fun A out s H args us vs Q E hg hr e0 hb rv hsp => ?_⟩
  have there : ∀ b o, base.get? b = some o → s.heap.get? b = some o := fun b o e => (e0.bs b o e).1
  have KX : K.In s.heap := e0.mod.kin.keeps there
  refine codeAny_call_function hr.depth (KX _ _ lk) rfl S.co S.gen rfl (PySem.W.codeRec_of KX hcd) (hb _ _ _ _ ?_)
  refine wpAny_newFunctionEnv_cells S.kind (fun y hy => (S.par y.1 (List.of_mem_zip hy).1).imp id fun q => ⟨q, PySem.W.cellsFrom_some _ _ _ (.inl q)⟩) fun env he s1 ic => ?_
  subst he
  refine ⟨(e0.mod.nolimit.keeps there).keeps ic.toInCall.keep, codeAny_func ?_⟩
  obtain ⟨t, ht, hq⟩ := body cdv A out s H vs Q E hg (hr.deeper _) hsp
  refine wpAny_mono (ht.nox.run [] s1 (start N vs) H _ (inv_start S hr.hd e0 (len _ _ _ _ hsp) rv ic) hq) (fun fl s' hs => ?_) fun _ _ z => z
  cases fl with
  | next =>
    obtain ⟨_, H', J, q⟩ := hs
    exact ⟨.non, H', J.os, J.bare, J.base, J.hok, rfl, q⟩
  | ret u =>
    obtain ⟨v, _, H', J, rv', q⟩ := hs
    exact ⟨v, H', J.os, J.bare, J.base, J.hok, rv', q⟩
  | brk =>
    obtain ⟨_, _, _, z⟩ := hs
    exact z.elim
  | cont =>
    obtain ⟨_, _, _, z⟩ := hs
    exact z.elim
end
section
variable {X : Cx}
/-- f(e, ..) of such a def -/
theorem pe_callG {CX : CXT} {k : Nat} {f : Addr} {fd : FuncData} {ps : List Str} {sp : Sp} {x : Str} {p pos : Pos} {e : Expr} {es : List Expr} {t : TA} {E : XK} (hG : Grd X.A) (F : FnG X.prog X.w X.K X.mg X.base CX k f fd ps sp) (hr : Room k X.A) (hg : Gl X x)
    (hm : X.mg x = some (.ref f)) (hk : PySem.W.keepIn X.K (.ref f) = true) (hb : Binds X.K fd ps []) (hx : Passes CX X E) (ha : PA X (e :: es) t) (hdb : (x == ("__debug__" : Str)) = false := by decide)
    (he : starEach (e :: es) X.env = (false, eval e X.env) :: starEach es X.env := by rfl) (hpl : (backTo pos (starEach es X.env)).any (·.1) = false := by rfl) :
    PE X (.Call (.Name x p) (e :: es) [] pos) (tCall sp [] E t) := by
  refine ⟨fun pins s σ H Q I h => wpAny_Call_Name_kw (ld_glob I hg hm ?_ hdb)⟩
  refine PySem.W.callWith_K (h₀ := X.base) I.ok.mod.kin hk (thn (ha.run pos pins s σ H _ I h) fun us s1 hh => ?_) he hpl
  obtain ⟨vs, H1, I1, rv, q⟩ := hh
  refine ⟨I1.kIn, ?_⟩
  rw [List.append_nil] at q
  have hl : us.length = ps.length := rv.length.symm.trans (F.len _ _ _ _ q)
  have bt := hb s1 us I1.kIn (by rw [List.append_nil]; exact hl)
  rw [List.append_nil] at bt
  refine wpAny_call (codeAny_mono (F.go X.A X.stack s1 H1 ⟨us, []⟩ us vs Q E hG hr I1.env0 bt rv q) fun r s' hq => ?_)
  cases r with
  | error e => exact hx pins σ H1 s1 e s' I1 hq
  | ok fl =>
    cases fl with
    | ret u => exact I1.after hq
    | next => exact hq.elim
    | brk => exact hq.elim
    | cont => exact hq.elim
/-- an upper bound of the text that repr gives -/
def bnd : PyData → Nat
  | .none => 8
  | .bool _ => 8
  | .int _ => 1921
  | .str x => (reprText x).length
  | .list xs => bndAll xs + 3
  | .tuple xs => bndAll xs + 3
  | .dict _ => 0
where bndAll : List PyData → Nat
  | [] => 0
  | x :: r => bnd x + 2 + bndAll r
def noDict : PyData → Bool
  | .none | .bool _ | .int _ | .str _ => true
  | .list xs => noDictAll xs
  | .tuple xs => noDictAll xs
  | .dict _ => false
where noDictAll : List PyData → Bool
  | [] => true
  | x :: r => noDict x && noDictAll r
mutual
theorem shown_bnd : ∀ d : PyData, d.showable = true → noDict d = true → d.shown.length ≤ bnd d
  | .none, _, _ => by simp only [PyData.shown, bnd]; decide
  | .bool b, _, _ => by cases b <;> simp only [PyData.shown, bnd] <;> decide
  | .int i, h, _ => by
    simp only [PyData.shown, bnd]
    exact PyProof.Rows.int_text_len_1921 (by simpa [PyData.showable] using h)
  | .str x, _, _ => by simp only [PyData.shown, bnd]; exact Nat.le_refl _
  | .list xs, h, g => by
    simp only [PyData.shown, bnd]
    have a := listText_len_le (PyData.shownAll xs)
    have b := shownAll_bnd xs (by simpa [PyData.showable] using h) (by simpa [noDict] using g)
    omega
  | .tuple xs, h, g => by
    simp only [PyData.shown, bnd]
    have a := tupleText_len_le (PyData.shownAll xs)
    have b := shownAll_bnd xs (by simpa [PyData.showable] using h) (by simpa [noDict] using g)
    omega
  | .dict _, _, g => by simp [noDict] at g
theorem shownAll_bnd : ∀ xs : List PyData, PyData.showableAll xs = true → noDict.noDictAll xs = true → ((PyData.shownAll xs).map (·.length)).sum + 2 * (PyData.shownAll xs).length ≤ bnd.bndAll xs
  | [], _, _ => by simp [PyData.shownAll, bnd.bndAll]
  | x :: r, h, g => by
    have h' : x.showable = true ∧ PyData.showableAll r = true := by simpa [PyData.showableAll] using h
    have g' : noDict x = true ∧ noDict.noDictAll r = true := by simpa [noDict.noDictAll] using g
    have a := shown_bnd x h'.1 g'.1
    have b := shownAll_bnd r h'.2 g'.2
    simp only [PyData.shownAll, bnd.bndAll, List.map_cons, List.sum_cons, List.length_cons]
    omega
end
mutual
theorem dp_noDict {K : PySem.W.Frag} {H : Hp} : ∀ (d : PyData) (x : V), Dp K H x d → noDict d = true ∧ d.hasDict = false
  | .none, _, _ => ⟨rfl, by simp [PyData.hasDict]⟩
  | .bool _, _, _ => ⟨rfl, by simp [PyData.hasDict]⟩
  | .int _, _, _ => ⟨rfl, by simp [PyData.hasDict]⟩
  | .str _, _, _ => ⟨rfl, by simp [PyData.hasDict]⟩
  | .list ds, _, h => by
    cases h with
    | lst _ ha =>
      have q := dp_noDictAll ds _ ha
      exact ⟨by simpa [noDict] using q.1, by simpa [PyData.hasDict] using q.2⟩
  | .tuple ds, _, h => by
    cases h with
    | tup _ ha =>
      have q := dp_noDictAll ds _ ha
      exact ⟨by simpa [noDict] using q.1, by simpa [PyData.hasDict] using q.2⟩
  | .dict _, _, h => by cases h
theorem dp_noDictAll {K : PySem.W.Frag} {H : Hp} : ∀ (ds : List PyData) (xs : List V), DpAll K H xs ds → noDict.noDictAll ds = true ∧ PyData.hasDictAll ds = false
  | [], _, _ => ⟨rfl, by simp [PyData.hasDictAll]⟩
  | d :: ds, _, h => by
    cases h with
    | cons h1 h2 =>
      have a := dp_noDict d _ h1
      have b := dp_noDictAll ds _ h2
      exact ⟨by simp [noDict.noDictAll, a.1, b.1], by simp [PyData.hasDictAll, a.2, b.2]⟩
end
/-- repr(x) of data -/
def rRepr (K : PySem.W.Frag) : List V → Hp → VK → Prop := fun xs H Q => ∃ x d, xs = [x] ∧ Dp K H x d ∧ d.showable = true ∧ bnd d ≤ 16000000 ∧ d.depth ≤ 60 ∧ Q (.str d.shown) H
theorem call_repr (hG : Grd X.A) (hu : X.A.units + 64 < cLine) : CallR X (.builtin "repr") (rRepr X.K) := by
  intro pins s σ H xs us Q I r h
  obtain ⟨x, d, rfl, hd, sh, hb, dp, q⟩ := h
  obtain ⟨u, rfl, rx⟩ := vals1 r
  obtain ⟨nd, nd2⟩ := dp_noDict d x hd
  have hz : d.shown.length ≤ sizeLine := Nat.le_trans (shown_bnd d sh nd) (Nat.le_trans hb (by decide))
  obtain ⟨as, rd⟩ := Dp.reads I d x u hd rx
  cases hd with
  | non =>
    cases rx
    exact PySem.P.repr_of_none ⟨.str _, H, I.tok _, ⟨_, rfl⟩, by simpa only [PyData.shown] using q⟩
  | bl b =>
    cases rx
    exact PySem.P.repr_of_bool ⟨.str _, H, I.tok _, ⟨_, rfl⟩, by simpa only [PyData.shown] using q⟩
  | int i =>
    obtain ⟨t, rfl⟩ := rx
    exact PySem.P.repr_of_int (by simpa [PyData.showable] using sh) ⟨.str _, H, I.tok _, ⟨_, rfl⟩, by simpa only [PyData.shown] using q⟩
  | str y =>
    obtain ⟨t, rfl⟩ := rx
    exact PySem.P.repr_of_str ⟨.str _, H, I.tok _, ⟨_, rfl⟩, by simpa only [PyData.shown] using q⟩ (by simpa only [PyData.shown] using hz)
  | lst _ _ =>
    cases rx
    exact repr_of_reads' rd sh (fun z => by rw [nd2] at z; cases z) hG (by omega) (fun _ _ e => e) (fun h' u tk hk => ⟨.str _, H, I.kept hk, ⟨_, rfl⟩, q⟩) hz
  | tup _ _ =>
    cases rx
    exact repr_of_reads' rd sh (fun z => by rw [nd2] at z; cases z) hG (by omega) (fun _ _ e => e) (fun h' u tk hk => ⟨.str _, H, I.kept hk, ⟨_, rfl⟩, q⟩) hz
end

theorem bnd_ints : ∀ ns : List Int, bnd.bndAll (ns.map PyData.int) = 1923 * ns.length
  | [] => rfl
  | n :: r => by
    show bnd (.int n) + 2 + bnd.bndAll (r.map PyData.int) = 1923 * (r.length + 1)
    rw [bnd_ints r]
    show 1921 + 2 + _ = _
    omega
theorem show_ints : ∀ ns : List Int, (∀ n ∈ ns, Sm n) → PyData.showableAll (ns.map PyData.int) = true
  | [], _ => by simp [PyData.showableAll]
  | n :: r, h => by
    have a := (h n (by simp)).log
    simp only [List.map_cons, PyData.showableAll, PyData.showable, show_ints r (fun x hx => h x (by simp [hx])), Bool.and_true, decide_eq_true_eq]
    omega
/-- what repr asks of a list, a tuple of ints -/
theorem repL {ns : List Int} (hs : ∀ n ∈ ns, Sm n) (hl : ns.length ≤ 8000) : (PyData.list (ns.map PyData.int)).showable = true ∧ bnd (.list (ns.map PyData.int)) ≤ 16000000 ∧ (PyData.list (ns.map PyData.int)).depth ≤ 60 := by
  refine ⟨by simpa [PyData.showable] using show_ints ns hs, ?_, by simp [PyData.depth, depth_ints]⟩
  show bnd.bndAll (ns.map PyData.int) + 3 ≤ 16000000
  rw [bnd_ints]
  omega
theorem repT {ns : List Int} (hs : ∀ n ∈ ns, Sm n) (hl : ns.length ≤ 8000) : (PyData.tuple (ns.map PyData.int)).showable = true ∧ bnd (.tuple (ns.map PyData.int)) ≤ 16000000 ∧ (PyData.tuple (ns.map PyData.int)).depth ≤ 60 := by
  refine ⟨by simpa [PyData.showable] using show_ints ns hs, ?_, by simp [PyData.depth, depth_ints]⟩
  show bnd.bndAll (ns.map PyData.int) + 3 ≤ 16000000
  rw [bnd_ints]
  omega
theorem ne_same {H : Hp} {x : V} {Q : VK} (hs : scal x x = true) (q : Q (.bl false) H) : rNe x x H Q := ⟨hs, by rw [decide_eq_true rfl]; exact q⟩

/-- the law's call, by a promise that asks that no repr is under way (none is, at the caller) -/
theorem law_g {P : Program} {w : World} {K : PySem.W.Frag} {mg mb : Str → Option Value} {k : Nat} {fa a : Addr} {fd : FuncData} {x : Str} {sp : Sp} {s : Shared} {vs : List Value} {ns : List Int} (KX : K.In s.heap) (hns : s.heap.Ns mainGlobals mg)
    (hb : s.heap.Ns builtinsNs mb) (hbb : ∀ y : Str, y ≠ "__name__" → mb y = bootBuiltins y) (hlim : s.heap.NoLimit) (hg : s.gens = #[]) (ha : s.heap.get? a = some { cls := .type "list", data := .seq vs.toArray }) (hi : IntsAre vs ns)
    (hl : ns.length ≤ sizeLine) (hr : Room k callerA) (F : ∀ base : Heap, K.In base → base.Ns mainGlobals mg → FnG P w K mg base CX0 k fa fd [x] sp) (bind : ∀ (t : Shared) (u : Value), BindsTo t fd ⟨[u], []⟩ [(x, u)])
    (hsp : ∀ H : Hp, SqL K H a (ns.map V.int) → sp [.ref a] H (fun v _ => v = .bl true) fun _ _ _ => False) :
    codeAny (model P w) callerA (.call (.ref fa) ⟨[.ref a], []⟩) (fun r s' => r = .ok (.ret (.bool true)) ∧ OldK s.heap s'.heap ∧ s'.os = s.os ∧ AllBare s'.gens) s := by
  obtain ⟨H, hS, hok, hO⟩ : ∃ H : Hp, SqL K H a (ns.map V.int) ∧ HOk P w H s.heap ∧ ∀ b, H b = none ∨ (b = a ∧ K.lookup a = none ∧ H b = some (.frz { cls := .type "list", data := .seq vs.toArray } (.lst (ns.map V.int)))) := by
    cases hk : K.lookup a with
    | none =>
      refine ⟨upd (fun _ => none) a (.frz { cls := .type "list", data := .seq vs.toArray } (.lst (ns.map V.int))), .inl (.inr ⟨_, upd_same⟩), fun b o e => ?_, fun b => ?_⟩
      · by_cases q : b = a
        · subst q
          rw [upd_same] at e
          cases e
          exact ⟨ha, by rw [List.length_map]; exact hl, vs, _, vals_ints hi, ha⟩
        · rw [upd_ne q] at e
          cases e
      · by_cases q : b = a
        · subst q
          exact .inr ⟨rfl, rfl, upd_same⟩
        · exact .inl (upd_ne q)
    | some o =>
      have e := KX a o hk
      rw [ha] at e
      cases e
      exact ⟨fun _ => none, .inr ⟨_, vs.toArray, _, hk, rfl, rfl, rfl, by rw [List.size_toArray, hi.length]; exact hl, by simpa using vals_ints hi⟩, (fun b o e => by cases e), fun _ => .inl rfl⟩
  have free : ∀ {b : Addr} {o : Obj}, s.heap.get? b = some o → (b = a → K.lookup a = none → False) → H b = none := fun {b o} e n => by
    rcases hO b with z | ⟨z, zk, _⟩
    · exact z
    · exact (n z zk).elim
  have nsB : ∀ {b : Addr} {m : Str → Option Value}, s.heap.Ns b m → (hidT s.heap H).Ns b m := fun {b m} z => by
    obtain ⟨o, es, ep, e, d, r⟩ := z
    refine ⟨o, es, ep, hidT_get e (free e fun q _ => ?_), d, r⟩
    subst q
    rw [ha] at e
    cases e
    cases (show Data.seq vs.toArray _ = Data.dict es ep from d)
  have kB : K.In (hidT s.heap H) := fun b o e => hidT_get (KX b o e) (free (KX b o e) fun q z => by
    subst q
    rw [z] at e
    cases e)
  have M : Mod K mg (hidT s.heap H) := by
    obtain ⟨mc, h1, h2⟩ := hlim
    exact ⟨kB, nsB hns, ⟨mb, nsB hb, hbb⟩, ⟨mc, nsB h1, h2⟩⟩
  have e0 : Env0 P w K mg (hidT s.heap H) callerA [] s H := ⟨rfl, M, fun b o e => of_hidT e, Nat.le_of_eq (hidT_size _ _), trivial, (fun b z => nomatch (show b ∈ ([] : List Addr) from z)), hok, .of_eq hg⟩
  refine codeAny_mono ((F _ kB (nsB hns)).go callerA [] s H ⟨[.ref a], []⟩ [.ref a] [.ref a] _ _ rfl hr e0 (bind s (.ref a)) (.cons rfl .nil) (hsp H hS)) fun r s' h => ?_
  cases r with
  | error e => exact (show False from h).elim
  | ok fl =>
    cases fl with
    | next => exact (show False from h).elim
    | brk => exact (show False from h).elim
    | cont => exact (show False from h).elim
    | ret u =>
      obtain ⟨v, H', os, bare, un, hok', rv, q⟩ := h
      obtain rfl : v = .bl true := q
      obtain rfl : u = Value.bool true := rv
      refine ⟨rfl, OldK.of_keep fun b o e => ?_, os, bare⟩
      rcases hO b with z | ⟨z, zk, z3⟩
      · exact un.keep b o e z (fun y => nomatch (show b ∈ ([] : List Addr) from y)) (by simp)
      · have e1 := (hok' b _ (un.frzs b _ _ z3)).1
        have e2 := (hok b _ z3).1
        rw [e] at e2
        cases e2
        exact e1
/-- the end of a law's row by such a promise -/
theorem walk_g {l : PySem.W.OpenLaw} {n k : Nat} {q : Program} {loose : List Str} {XP : (Str → Option Value) → Heap → Prop} {YP : World → Heap → Prop} {d : DefRec} {K : Params → PySem.W.Frag} {sp : World → Sp} {x : Str} (hn : l.most = some n)
    (hn2 : n ≤ sizeLine) (hdf : d.params.defaults = []) (hr : Room k callerA) (hY : ∀ (w : World) (h : Heap), YP w h → (K w.params).In h)
    (F : ∀ (w : World) (mg : Str → Option Value) (fa : Addr) (h : Heap), (K w.params).In h → h.Ns mainGlobals mg → mg d.name = some (.ref fa) → ∃ fd : FuncData, (∀ (s : Shared) (u : Value), BindsTo s fd ⟨[u], []⟩ [(x, u)]) ∧
      ∀ base : Heap, (K w.params).In base → base.Ns mainGlobals mg → FnG l.prog w (K w.params) mg base CX0 k fa fd [x] (sp w))
    (hsp : ∀ (w : World) (H : Hp) (a : Addr) (ns : List Int), ns.length ≤ n → SqL (K w.params) H a (ns.map V.int) → sp w [.ref a] H (fun v _ => v = .bl true) fun _ _ _ => False) :
    PySem.W.WalkO q loose XP YP l.row.toRowW d [] (fun f vs => PySem.call f vs) :=
  Att.attach_call hn hdf fun w s₀ s₁ mg mb fa o pm cd doc a vs ns G Y ho hd hcd hmg hobj hints hlen hg => by
    have KX := hY w _ Y
    obtain ⟨fd, hb, hF⟩ := F w mg fa _ KX G.T.g hmg
    exact law_g KX G.T.g G.T.b G.T.builtins G.T.nolimit hg hobj hints (Nat.le_trans hlen hn2) hr hF hb fun H hS => hsp w H a ns hlen hS
end Eb

/-! ## tuples turned about; len(set(t)) -/
namespace Eb
open PySem PySem.Spec PyProof.Rows L2
section
variable {prog : Program} {w : World} {A : Around} {E : Value → Shared → Prop} {s : Shared}
theorem adjust_rev (n : Nat) : Builtin.Slice.sliceAdjust none none (-1) (n : Int) = ((n : Int) - 1, -1) := by
  unfold Builtin.Slice.sliceAdjust
  simp
theorem places_rev (n : Nat) : Builtin.Slice.slicePlaces ((n : Int) - 1) (-1) (-1) = n := by
  unfold Builtin.Slice.slicePlaces
  rw [if_neg (by decide)]
  by_cases c : (n : Int) - 1 > -1
  · rw [if_pos c]
    show (((n : Int) - 1 - (-1) - 1) / 1 + 1).toNat = n
    rw [Int.ediv_one]
    omega
  · rw [if_neg c]
    omega
theorem applied_rev {sl : Addr} {v3 : Value} {n : Nat} {Q : Int × Int × Nat → Shared → Prop} (hs : s.heap.IsSliceOf sl .none .none v3) (p3 : IsPart v3 (some (-1))) (h : Q ((n : Int) - 1, -1, n) s) :
    wpAny (model prog w) A (Builtin.Slice.sliceApplied (.ref sl) (pure (n : Int))) Q E s := by
  obtain ⟨os, hos, hcs, hds⟩ := id hs
  unfold Builtin.Slice.sliceApplied Builtin.Slice.sliceFields
  refine wpAny_bind (wpAny_bind (wpAny_field hos hds (x := .none) rfl (wpAny_bind (wpAny_field hos hds (x := .none) rfl (wpAny_bind (wpAny_field hos hds (x := v3) rfl (wpAny_pure ?_)))))))
  refine wpAny_bind (HT.slicePart_ p3 ?_)
  show wpAny _ _ (if ((-1 : Int) == 0) = true then _ else _) _ _ s
  rw [if_neg (by decide)]
  refine wpAny_bind (HT.slicePart_ .none (wpAny_bind (HT.slicePart_ .none (wpAny_bind (wpAny_pure ?_)))))
  show wpAny _ _ (match Builtin.Slice.sliceAdjust none none (-1) (n : Int) with | (lo, hi) => pure (lo, (-1 : Int), Builtin.Slice.slicePlaces lo hi (-1))) _ _ s
  rw [adjust_rev]
  show wpAny _ _ (pure ((n : Int) - 1, (-1 : Int), Builtin.Slice.slicePlaces ((n : Int) - 1) (-1) (-1))) _ _ s
  rw [places_rev]
  exact wpAny_pure h
theorem fm_some {α β : Type} {f : α → Option β} {g : α → β} : ∀ {l : List α}, (∀ m ∈ l, f m = some (g m)) → l.filterMap f = l.map g
  | [], _ => rfl
  | x :: r, h => by
    rw [List.filterMap_cons, h x (by simp), List.map_cons, fm_some fun m hm => h m (by simp [hm])]
theorem pick_rev (xs : Array Value) : ((List.range xs.size).filterMap fun (m : Nat) => xs[(((xs.size : Nat) : Int) - 1 + (m : Int) * (-1)).toNat]?) = xs.toList.reverse := by
  apply List.ext_getElem?
  intro i
  have e1 : (List.range xs.size).filterMap (fun (m : Nat) => xs[(((xs.size : Nat) : Int) - 1 + (m : Int) * (-1)).toNat]?) = (List.range xs.size).map (fun m => xs.toList.reverse.getD m .none) := by
    refine fm_some fun m hm => ?_
    have hm' := List.mem_range.mp hm
    have hz : (((xs.size : Nat) : Int) - 1 + (m : Int) * (-1)).toNat = xs.size - 1 - m := by omega
    rw [hz]
    have h1 : xs.size - 1 - m < xs.size := by omega
    rw [Array.getElem?_eq_getElem h1]
    show _ = some (xs.toList.reverse.getD m .none)
    rw [List.getD_eq_getElem?_getD, List.getElem?_reverse (by rw [Array.length_toList]; exact hm'), Array.length_toList, Array.getElem?_toList, Array.getElem?_eq_getElem h1]
    rfl
  rw [e1, List.getElem?_map]
  by_cases c : i < xs.size
  · rw [List.getElem?_range c]
    have h2 : i < xs.toList.reverse.length := by
      rw [List.length_reverse, Array.length_toList]
      exact c
    show some (xs.toList.reverse.getD i .none) = _
    rw [List.getD_eq_getElem?_getD, List.getElem?_eq_getElem h2]
    rfl
  · rw [List.getElem?_eq_none (by rw [List.length_range]; omega), List.getElem?_eq_none (by rw [List.length_reverse, Array.length_toList]; omega)]
    rfl
theorem item_rev {t sl : Addr} {items : Array Value} {v3 : Value} {Q : Value → Shared → Prop} (ht : IsTup s.heap t items) (hs : s.heap.IsSliceOf sl .none .none v3) (p3 : IsPart v3 (some (-1)))
    (h : Q (.ref s.heap.objs.size) { s with heap := s.heap.push { cls := .type "tuple", data := .seq items.toList.reverse.toArray } }) (hsz : items.size ≤ sizeLine) : wpAny (model prog w) A (getItem (.ref t) (.ref sl)) Q E s := by
  have hok : sizeOk (.seq items.toList.reverse.toArray) := by
    show items.toList.reverse.toArray.size ≤ sizeLine
    rw [List.size_toArray, List.length_reverse, Array.length_toList]
    exact hsz
  obtain ⟨os, hos, hcs, hds⟩ := id hs
  have hTs : s.TypeIs (.ref sl) "slice" := ⟨os, hos, hcs⟩
  unfold getItem
  try with_reducible refine wpAny_holding ?_
  first | refine wpAny_bind (wpAny_pure ?_) | skip
  refine wpAny_bind (wpAny_sequenceKey ht.typeIs (by decide) ?_)
  refine wpAny_bind (wpAny_callSpecial?_slot (name := Str.ofString "__getitem__") ht.typeIs PyProof.Rows.slot_tuple_getitem (wpAny_call_entry PyProof.Rows.slot_tuple_getitem ht.typeIs entry_tuple_getitem ?_ (args_tuple_getitem _ _)))
  show wpAny _ _ (Builtin.Tuple.tupleItemsOf (.ref t) >>= _) _ _ s
  refine wpAny_bind (tupleItemsOf_ ht (wpAny_bind (wpAny_typeOf hTs ?_)))
  rw [if_pos (by decide)]
  refine wpAny_bind (applied_rev hs p3 ?_)
  have hno : ¬ (((((items.size : Nat) : Int) - 1) == 0 && (-1 : Int) == 1 && items.size == items.size) = true) := by
    rw [show ((-1 : Int) == 1) = false from rfl, Bool.and_false, Bool.false_and]
    exact Bool.false_ne_true
  show wpAny _ _ (if ((((items.size : Nat) : Int) - 1) == 0 && (-1 : Int) == 1 && items.size == items.size) = true then _ else _) _ _ s
  rw [if_neg hno, pick_rev]
  first
    | exact wpAny_bind (m := Builtin.Tuple.tupleExact _) (wpAny_newObj_type (wpAny_pure ⟨_, rfl, wpAny_pure h⟩) hok)
    | exact wpAny_bind (m := Builtin.Tuple.tupleExact _) (wpAny_newObj_type (wpAny_bind (wpAny_pure (wpAny_pure ⟨_, rfl, wpAny_pure h⟩))) hok)
    | exact wpAny_bind (wpAny_bind (m := Builtin.Tuple.tupleExact _) (wpAny_newObj_type (wpAny_pure (wpAny_pure ⟨_, rfl, wpAny_pure h⟩)) hok))
    | exact wpAny_bind (wpAny_bind (m := Builtin.Tuple.tupleExact _) (wpAny_newObj_type (wpAny_pure ⟨_, rfl, wpAny_pure h⟩) hok))
end
section
variable {X : Cx}
/-- t[::-1], t a tuple: a new one -/
def tRevT (K : PySem.W.Frag) (te : TE) : TE := fun σ H Q => te σ H fun x H1 => ∃ a xs, x = .ref a ∧ SqT K H1 a xs ∧ ∀ p, H1 p = none → Q (.ref p) (upd H1 p (.tup xs.reverse))
theorem pe_revT {e : Expr} {te : TE} {k : Nat} {p1 p2 p3 pos : Pos} (he : PE X e te) : PE X (.Subscript e (.Slice none none (some (.UnaryOp .USub (.Constant (.int 1) k p1) p2)) p3) pos) (tRevT X.K te) := by
  refine ⟨fun pins s σ H Q I h => Subscript_ (thn (he.run pins s σ H _ I h) fun v s1 hh => ?_)⟩
  obtain ⟨x, H1, I1, r1, a, xs, rfl, hx, q⟩ := hh
  cases r1
  refine wpAny_Slice (thn (po_none.run pins s1 σ H1 (fun o H2 => o = none ∧ H2 = H1) I1 ⟨rfl, rfl⟩) fun vl s2 hl => ?_)
  obtain ⟨_, _, I2, pl, rfl, rfl⟩ := hl
  refine thn (po_none.run pins s2 σ _ (fun o H3 => o = none ∧ H3 = _) I2 ⟨rfl, rfl⟩) fun vu s3 hu => ?_
  obtain ⟨_, _, I3, pu, rfl, rfl⟩ := hu
  refine thn ((po_some (pe_un un_neg pe_int) : PO X (some (.UnaryOp .USub (.Constant (.int 1) k p1) p2)) _).run pins s3 σ _ (fun o H4 => o = some (-1) ∧ H4 = _) I3 ⟨1, rfl, -1, rfl, rfl, rfl⟩) fun vs s4 hv => ?_
  obtain ⟨_, H4, I4, ps, rfl, rfl⟩ := hv
  cases pl
  cases pu
  have I5 : Inv X pins σ H4 { s4 with heap := s4.heap.push { cls := .type "slice", data := .fields #[.none, .none, vs] } } := I4.kept (t' := s4.toks) fun b ob z => Heap.get?_push_of_some _ z
  obtain ⟨its, r, ht, hz⟩ := I5.tuple hx
  have hlen := r.length
  refine tail_any (ops := [.ref a, .ref s4.heap.objs.size]) ht.typeIs (PyProof.Rows.slot_tuple_getitem.lookup) ?_ (by with_unfolding_all rfl)
  refine item_rev ht (Heap.IsSliceOf.new _ .none .none vs) ps ?_ (by rw [List.size_toArray]; omega)
  refine ⟨.ref _, _, I5.laid (t' := s4.toks) (o := .tup xs.reverse) (fun b ob z => Heap.get?_push_of_some _ z) (Nat.le_refl _) ?_, rfl, q _ (I5.hok.fresh (Nat.le_refl _))⟩
  exact ⟨by rw [List.length_reverse]; exact hz, its.reverse, r.reverse, IsTup.new _ _⟩
/-- len(set(t)), t a tuple of ints: how many unlike ones -/
def tLenSetT (K : PySem.W.Frag) (ta : TE) : TE := fun σ H Q => ta σ H fun x H1 => ∃ (l : Addr) (ns : List Int), x = .ref l ∧ SqT K H1 l (ns.map V.int) ∧ ns.length ≤ 4000 ∧ ∀ ks : List Int, ks.Nodup → (∀ z, z ∈ ks ↔ z ∈ ns) → Q (.int (ks.length : Nat)) H1
theorem pe_lenSetT {a : Expr} {ta : TE} {p p2 q pos : Pos} (hg : Gl X "len") (hm : X.mg "len" = none) (hg2 : Gl X "set") (hm2 : X.mg "set" = none) (ha : PE X a ta) (hc : X.calm = true := by rfl)
    (na : starEach [a] X.env = (false, eval a X.env) :: starEach [] X.env := by rfl) : PE X (.Call (.Name "len" p) [.Call (.Name "set" p2) [a] [] q] [] pos) (tLenSetT X.K ta) := by
  refine ⟨fun pins s σ H Q I h => Call_ (ld_blt I hg hm boot_len ?_)⟩
  refine PyProof.Rows.callWith_builtin1 (PyProof.Rows.args_cons (Call_ (ld_blt I hg2 hm2 boot_set ?_)) rfl) rfl rfl
  refine PyProof.Rows.callWith_type1 (PyProof.Rows.args_cons (thn (ha.run pins s σ H _ I h) fun v s1 hh => PyProof.Rows.args_nil ?_) na) na rfl
  obtain ⟨x, H1, I1, r1, l, ns, rfl, hq, hl, k⟩ := hh
  cases r1
  obtain ⟨its, r, pt, hz⟩ := I1.tuple hq
  refine call_set_tupI ns (I1.ok.hd hc) (show s1.heap.IsTuple l its.toArray from pt) (by simpa using r.ints) (by unfold scanBound; omega) fun h' tk c R1 hcn keep => PyProof.Rows.args_nil ?_
  obtain ⟨o, es, ep, t, ho, hex, hd, _, nd, mem, hsz, hf, hn, _⟩ := R1
  have I2 : Inv X pins σ H1 { s1 with heap := h', toks := tk } := I1.kept keep
  have kl : (es.toList.map keyOf).length = es.size := by rw [List.length_map, Array.length_toList]
  refine call_len_set ho hex hd hf (by have : scanBound = 4096 := rfl; omega) ⟨.int (es.toList.map keyOf).length, H1, I2.tok _, ⟨_, by rw [kl]⟩, k _ nd fun z => ?_⟩
  rw [← mem z]
  exact decide_eq_true_iff
end
end Eb

/-! ## enumerate(t), t a tuple -/
namespace Eb
open PySem PySem.Spec PyProof.Rows L2
set_option maxRecDepth 100000
theorem meets_enum1 {v : Value} {o : Obj} {G : Heap → Prop} (B : Begins v o G) :
    Meets (Builtin.«enumerate.__new__» ⟨[.type "enumerate", v], []⟩) (fun _ R s => G s.heap ∧
      R (.ok (.ret (.ref (s.heap.push o).objs.size))) { s with heap := (s.heap.push o).push { cls := .type "enumerate", data := .fields #[.none, .bool false, .ref s.heap.objs.size, rawInt 0, .none, .none] } }) :=
  .of_wp fun prog w A R s h => by
    obtain ⟨hp, g, d, tk, os⟩ := s
    obtain ⟨h1, h⟩ := h
    have hsub := sub_enumerate
    have it : ∀ {A' : Around} {E : Value → Shared → Prop} {Q : Value → Shared → Prop}, Q (.ref hp.objs.size) ⟨hp.push o, g, d, tk, os⟩ → wpAny (model prog w) A' (pyIter v) Q E ⟨hp, g, d, tk, os⟩ :=
      fun q => B.iter prog w _ _ ⟨hp, g, d, tk, os⟩ _ h1 q
    wp_walk using it
    refine wpAny_stack_any fun st => wpAny_pure ?_
    split
    · rename_i c _ _ _ _ _
      cases (c == Value.type "enumerate") <;> (wp_walk using it; exact ⟨_, rfl, h⟩)
    · wp_walk using it
      exact ⟨_, rfl, h⟩
theorem call_enum1 {prog : Program} {w : World} {A : Around} {E : Value → Shared → Prop} {s : Shared} {v : Value} {o : Obj} {G : Heap → Prop} {Q : Value → Shared → Prop} (B : Begins v o G) (h1 : G s.heap)
    (h : ∀ h', IsEnum h' (s.heap.objs.size + 1) s.heap.objs.size 0 .none → h'.get? s.heap.objs.size = some o → (∀ b o, s.heap.get? b = some o → h'.get? b = some o) → Q (.ref (s.heap.objs.size + 1)) { s with heap := h' }) :
    wpAny (model prog w) A (call (.type "enumerate") [v]) Q E s := by
  refine callType_new F.called_enumerate (by decide) (F.typeCall_enumerate_1 _) (F.newCall_enumerate_1 _) (fun obj => F.args_object_init_2 obj _) F.entry_enumerate_new (meets_enum1 B) ⟨h1, ?_⟩
  have hz : (s.heap.push o).objs.size = s.heap.objs.size + 1 := Heap.size_push ..
  show _ ∧ _
  rw [hz]
  have he : IsEnum ((s.heap.push o).push { cls := .type "enumerate", data := .fields #[.none, .bool false, .ref s.heap.objs.size, rawInt 0, .none, .none] }) (s.heap.objs.size + 1) s.heap.objs.size 0 .none := by
    have z := Heap.get?_push_size (s.heap.push o) (o := { cls := .type "enumerate", data := .fields #[.none, .bool false, .ref s.heap.objs.size, rawInt 0, .none, .none] }) rfl
    rw [hz] at z
    exact z
  exact ⟨⟨_, he, rfl⟩, h _ he (Heap.get?_push_of_some _ (Heap.get?_push_size _ B.free)) fun b o x => Heap.get?_push_of_some _ (Heap.get?_push_of_some _ x)⟩
theorem enumT_end {prog : Program} {w : World} {A : Around} {E : Value → Shared → Prop} {s : Shared} {e it t : Addr} {i : Nat} {items : Array Value} {old : Value} {k : Int} {Q : Option Value → Shared → Prop} (hh : A.handled = none) (he : IsEnum s.heap e it k old)
    (hit : s.heap.IsTupleIter it t i) (ht : IsTup s.heap t items) (hi : items.size ≤ i) (hQ : ∀ h', Heap.ExtBut it s.heap h' → Q none { s with heap := h' }) : wpAny (model prog w) A (pyNext (.ref e)) Q E s := by
  have hT : s.TypeIs (.ref e) "enumerate" := ⟨_, he, rfl⟩
  unfold pyNext
  refine wpAny_bind (wpAny_attempt (wpAny_callSpecial?_slot (name := Str.ofString "__next__") hT F.slot_enumerate_next (wpAny_call_entry F.slot_enumerate_next hT F.entry_enumerate_next ?_ (F.args_enumerate_next_1 _))))
  show wpAny _ _ (field (.ref e) 2 >>= _) _ _ _
  refine wpAny_bind (wpAny_field he rfl (x := .ref it) rfl (wpAny_bind (wpAny_nextOf_tuple_end (by exact hh) hit (show s.heap.IsTuple t items from ht) (by simpa using hi) fun h' x hx hs => ?_)))
  obtain ⟨o, ho, hc⟩ := hs
  exact wpAny_bind (wpAny_isInstance (T := "StopIteration") (b := true) ⟨o, ho, hc⟩ isSubtype_stop (wpAny_pure (hQ _ hx)))
/-- the tuple at a as it stands at each turn, each item in a new pair -/
def IteT (K : PySem.W.Frag) (a : Addr) : It :=
  ⟨fun i H => ∃ (xs : List V) (x : V), SqT K H a xs ∧ xs[i]? = some x, fun i H v H' => ∃ T x, v = .ref T ∧ H T = none ∧ H' = upd H T (.tup [.int (i : Nat), x]) ∧ ∀ xs, SqT K H a xs → xs[i]? = some x, fun i H => ∃ xs : List V, SqT K H a xs ∧ xs.length ≤ i⟩
theorem turn_enumT {P : Program} {w : World} {K : PySem.W.Frag} {elts : List Expr} {kk : Nat} {tpos : Pos} (a e it : Addr) :
    Turn P w K (.Tuple elts kk tpos) (IteT K a) [e, it] e (fun i h => (∃ old, IsEnum h e it ((i : Nat) : Int) old) ∧ h.IsTupleIter it a i ∧ e ≠ it) where
  mem := by simp
  obj := fun i h st b hb => by
    obtain ⟨⟨old, he⟩, ⟨o, ho, hc, hd⟩, _⟩ := st
    have e' : b = e ∨ b = it := by simpa using hb
    rcases e' with rfl | rfl
    · exact ⟨_, he, fun v q => nomatch q⟩
    · exact ⟨o, ho, fun v q => by rw [hd] at q; cases q⟩
  keep := fun i h h' st k => by
    obtain ⟨⟨old, he⟩, hi, hne⟩ := st
    exact ⟨⟨old, k e (by simp) _ he⟩, hi.at fun o q => k it (by simp) o q, hne⟩
  item := by
    intro X hP hw hK hc i pins s σ H E I hf st hg
    subst hP hw hK
    obtain ⟨⟨old, he⟩, hit, hne⟩ := st
    obtain ⟨xs, x, hq, hx⟩ := hg
    obtain ⟨its, rv, p, hz⟩ := I.tuple hq
    obtain ⟨u, hu, ru⟩ := rv.get hx
    have hel : e < s.heap.objs.size := Heap.lt_size he
    have hil : it < s.heap.objs.size := by
      obtain ⟨_, q, _⟩ := hit
      exact Heap.lt_size q
    have nit : a ≠ it := fun z => by
      obtain ⟨o1, q1, c1, _⟩ := hit
      obtain ⟨o2, q2, c2, _⟩ := p
      rw [z, q1] at q2
      cases q2
      rw [c1] at c2
      exact absurd (Value.type.inj c2) (by decide)
    have nea : e ≠ a := fun z => by
      obtain ⟨o2, q2, c2, _⟩ := p
      have he' : s.heap.get? e = _ := he
      rw [z, q2] at he'
      cases he'
      exact absurd (Value.type.inj c2) (by decide)
    have hi : i < its.toArray.size := by
      rw [List.size_toArray]
      exact (List.getElem?_eq_some_iff.mp hu).1
    refine wpAny_pyNext_enum_itemC (Draws.tuple (by exact I.ok.hd hc) it a nit its.toArray) he ⟨hit, p⟩ hi hne (by simp [hne, nea]) fun y h' tk hy ho hst hT hsz hk => ?_
    have ey : y = u := by
      have z : its[i]? = some y := by simpa using hy
      rw [hu] at z
      exact (Option.some.inj z).symm
    subst ey
    refine ⟨_, rfl, wpAny_letOwnedTupleGo_enum (s := { s with heap := h', toks := tk + 1 }) ho fun h'' he' sb => ?_⟩
    have hT2 : h''.get? s.heap.objs.size = some { cls := .type "tuple", data := .seq #[.int i tk, y] } := (sb.2 _ (Nat.ne_of_gt hel)).trans hT
    have new : ObjOk X.prog X.w (upd H s.heap.objs.size (.tup [.int (i : Nat), x])) h'' s.heap.objs.size (.tup [.int (i : Nat), x]) :=
      ⟨by show 2 ≤ sizeLine; decide, [.int i tk, y], .cons ⟨_, rfl⟩ (.cons ru .nil), ⟨_, hT2, rfl, _, rfl⟩⟩
    have I1 : Inv X pins σ (upd H s.heap.objs.size (.tup [.int (i : Nat), x])) { s with heap := h'', toks := tk + 1 } :=
      I.turnedNew (ch := [e, it]) (fun b ob hb q => (sb.2 b (fun z => hb (by simp [z]))).trans (hk b ob (fun z => hb (by simp [z])) (fun z => hb (by simp [z])) q)) hf (Nat.le_refl _) new
    refine ⟨.ref s.heap.objs.size, _, I1, rfl, ⟨_, x, rfl, I.hok.fresh (Nat.le_refl _), rfl, fun ys hy' => by rw [I.tuple_inj hy' hq]; exact hx⟩, ⟨⟨y, ?_⟩, hst.1.at fun o q => (sb.2 it (Ne.symm hne)).trans q, hne⟩, fun b hb => ?_⟩
    · have e1 : ((i + 1 : Nat) : Int) = (i : Int) + 1 := by omega
      rw [e1]
      exact he'
    · have hb' : b < s.heap.objs.size := by
        have e' : b = e ∨ b = it := by simpa using hb
        rcases e' with rfl | rfl
        · exact hel
        · exact hil
      rw [upd_ne (Nat.ne_of_lt hb')]
      exact (hf b hb).1
  done := by
    intro X hP hw hK hc i pins s σ H E I hf st hg
    subst hP hw hK
    obtain ⟨⟨old, he⟩, hit, hne⟩ := st
    obtain ⟨xs, hq, hx⟩ := hg
    obtain ⟨its, rv, p, hz⟩ := I.tuple hq
    obtain ⟨f0, f1, f2, f3, f4, f5⟩ := hf it (by simp)
    have hl := rv.length
    exact enumT_end (I.ok.hd hc) he hit p (by rw [List.size_toArray]; omega) fun h' eb => ⟨rfl, I.turned (t' := s.toks) (fun b o hb q => eb b o hb q) f0 f1 f3 f4 f5⟩
  self := fun A i s Q E st h => by
    obtain ⟨⟨_, he⟩, _⟩ := st
    exact wpAny_pyIter_enum he h
def iEnumT (K : PySem.W.Frag) (ta : TA) : TI := fun σ H R => ta σ H fun vs H1 => ∃ a xs, vs = [.ref a] ∧ SqT K H1 a xs ∧ R (IteT K a) H1
theorem pi_enumT {X : Cx} {e : Expr} {ta : TA} {p pos tpos : Pos} {elts : List Expr} {kk : Nat} (hg : Gl X "enumerate") (hm : X.mg "enumerate" = none) (ha : PA X [e] ta) (hs : starEach [e] X.env = [(false, eval e X.env)] := by rfl) :
    PI X (.Tuple elts kk tpos) (.Call (.Name "enumerate" p) [e] [] pos) (iEnumT X.K ta) := by
  refine ⟨fun pins s σ H R I h => Call_ (ld_blt I hg hm boot_enumerate (PyProof.Rows.callWith_type1 (thn (ha.run pos pins s σ H _ I h) fun us s1 hh => ?_) hs rfl))⟩
  obtain ⟨vs, H1, I1, r1, a, xs, rfl, hq, q⟩ := hh
  rw [Vals.ref1 r1]
  obtain ⟨its, rv, pt, hz⟩ := I1.tuple hq
  refine call_enum1 (begins_tuple a its.toArray) pt fun h' he hit hk => wpAny_pyIter_enum he ?_
  have I2 : Inv X pins σ H1 { s1 with heap := h' } := I1.kept (t' := s1.toks) hk
  refine ⟨s1.heap.objs.size + 1, [s1.heap.objs.size + 1, s1.heap.objs.size], _, _, H1, rfl, I2, turn_enumT a (s1.heap.objs.size + 1) s1.heap.objs.size, ⟨⟨.none, he⟩, ⟨_, hit, rfl, rfl⟩, Nat.succ_ne_self _⟩, fun b hb => ?_, q⟩
  have e' : b = s1.heap.objs.size + 1 ∨ b = s1.heap.objs.size := by simpa using hb
  have hle : s1.heap.objs.size ≤ b := by
    rcases e' with z | z
    · rw [z]; exact Nat.le_add_right _ _
    · rw [z]; exact Nat.le_refl _
  exact I1.fpOk hle (I1.hok.fresh hle)
theorem walk_enumT {K : PySem.W.Frag} {a : Addr} {xs : List V} : Walk (IteT K a) xs.length (fun H => SqT K H a xs) (YPair (fun i => some (.int (i : Nat))) (fun i => xs[i]?)) := by
  refine ⟨fun i _ hi q => ⟨xs, xs[i], q, by simp [hi]⟩, fun _ q => ⟨xs, q, Nat.le_refl _⟩, fun i H v H' _ q y => ?_⟩
  obtain ⟨T, x, h1, h2, h3, h4⟩ := y
  exact ⟨T, .int (i : Nat), x, h1, h2, h3, rfl, h4 xs q⟩
end Eb

local macro_rules | `(tactic| walk_at "go") => `(tactic| repeat (first | refine ⟨_, rfl, ?_⟩ | refine ⟨_, _, rfl, rfl, ?_⟩ | refine ⟨rfl, ?_⟩ | refine ⟨_, _, rfl, rfl, ⟨by decide, by decide, by decide⟩, ?_⟩))
namespace K07
open PySem PySem.Spec PyProof.Rows L2 Eb
def topS (i : Nat) : Stmt := PySem.Challenge.pw_everybase_k07_whole_figures_go_together.main.body.getD i (.Pass ⟨0, 0, 0, 0⟩)
abbrev s_is_integer : Stmt := topS 7
theorem sc_is_integer : FnScope ["value"] ["value"] (defScope s_is_integer) := ⟨rfl, rfl, rfl, by decide +kernel, rfl, by decide +kernel, by decide +kernel⟩
abbrev s_is_number : Stmt := topS 8
theorem sc_is_number : FnScope ["value"] ["value"] (defScope s_is_number) := ⟨rfl, rfl, rfl, by decide +kernel, rfl, by decide +kernel, by decide +kernel⟩
abbrev s_is_base : Stmt := topS 9
theorem sc_is_base : FnScope ["value"] ["value"] (defScope s_is_base) := ⟨rfl, rfl, rfl, by decide +kernel, rfl, by decide +kernel, by decide +kernel⟩
abbrev s_need_base : Stmt := topS 11
theorem sc_need_base : FnScope ["base"] ["base"] (defScope s_need_base) := ⟨rfl, rfl, rfl, by decide +kernel, rfl, by decide +kernel, by decide +kernel⟩
abbrev s_need_numbers : Stmt := topS 12
theorem sc_need_numbers : FnScope ["numbers", "base", "number"] ["numbers", "base"] (defScope s_need_numbers) := ⟨rfl, rfl, rfl, by decide +kernel, rfl, by decide +kernel, by decide +kernel⟩
abbrev s_power : Stmt := topS 13
theorem sc_power : FnScope ["base", "k", "found", "turn"] ["base", "k"] (defScope s_power) := ⟨rfl, rfl, rfl, by decide +kernel, rfl, by decide +kernel, by decide +kernel⟩
abbrev s_figures_of : Stmt := topS 14
theorem sc_figures_of : FnScope ["number", "base", "found", "left"] ["number", "base"] (defScope s_figures_of) := ⟨rfl, rfl, rfl, by decide +kernel, rfl, by decide +kernel, by decide +kernel⟩
abbrev s_put_together : Stmt := topS 15
theorem sc_put_together : FnScope ["figures", "base", "found", "one"] ["figures", "base"] (defScope s_put_together) := ⟨rfl, rfl, rfl, by decide +kernel, rfl, by decide +kernel, by decide +kernel⟩
abbrev s_number_of : Stmt := topS 16
theorem sc_number_of : FnScope ["figures", "base", "at", "one"] ["figures", "base"] (defScope s_number_of) := ⟨rfl, rfl, rfl, by decide +kernel, rfl, by decide +kernel, by decide +kernel⟩
abbrev s_ascending : Stmt := topS 17
theorem sc_ascending : FnScope ["number", "base", "one"] ["number", "base"] (defScope s_ascending) := ⟨rfl, rfl, rfl, by decide +kernel, rfl, by decide +kernel, by decide +kernel⟩
abbrev s_turned : Stmt := topS 18
theorem sc_turned : FnScope ["number", "base"] ["number", "base"] (defScope s_turned) := ⟨rfl, rfl, rfl, by decide +kernel, rfl, by decide +kernel, by decide +kernel⟩
abbrev s_least : Stmt := topS 19
theorem sc_least : FnScope ["number", "base"] ["number", "base"] (defScope s_least) := ⟨rfl, rfl, rfl, by decide +kernel, rfl, by decide +kernel, by decide +kernel⟩
abbrev s_greatest : Stmt := topS 20
theorem sc_greatest : FnScope ["number", "base"] ["number", "base"] (defScope s_greatest) := ⟨rfl, rfl, rfl, by decide +kernel, rfl, by decide +kernel, by decide +kernel⟩
abbrev s_total : Stmt := topS 21
theorem sc_total : FnScope ["number", "base"] ["number", "base"] (defScope s_total) := ⟨rfl, rfl, rfl, by decide +kernel, rfl, by decide +kernel, by decide +kernel⟩
abbrev s_many : Stmt := topS 22
theorem sc_many : FnScope ["number", "base"] ["number", "base"] (defScope s_many) := ⟨rfl, rfl, rfl, by decide +kernel, rfl, by decide +kernel, by decide +kernel⟩
abbrev s_root : Stmt := topS 23
theorem sc_root : FnScope ["number", "base", "found"] ["number", "base"] (defScope s_root) := ⟨rfl, rfl, rfl, by decide +kernel, rfl, by decide +kernel, by decide +kernel⟩
abbrev s_figure : Stmt := topS 24
theorem sc_figure : FnScope ["number", "k", "base"] ["number", "k", "base"] (defScope s_figure) := ⟨rfl, rfl, rfl, by decide +kernel, rfl, by decide +kernel, by decide +kernel⟩
abbrev s_first : Stmt := topS 25
theorem sc_first : FnScope ["number", "k", "base"] ["number", "k", "base"] (defScope s_first) := ⟨rfl, rfl, rfl, by decide +kernel, rfl, by decide +kernel, by decide +kernel⟩
abbrev s_last : Stmt := topS 26
theorem sc_last : FnScope ["number", "k", "base"] ["number", "k", "base"] (defScope s_last) := ⟨rfl, rfl, rfl, by decide +kernel, rfl, by decide +kernel, by decide +kernel⟩
abbrev s_joined : Stmt := topS 27
theorem sc_joined : FnScope ["number", "other", "base"] ["number", "other", "base"] (defScope s_joined) := ⟨rfl, rfl, rfl, by decide +kernel, rfl, by decide +kernel, by decide +kernel⟩
abbrev s_mirrored : Stmt := topS 28
theorem sc_mirrored : FnScope ["number", "base", "found"] ["number", "base"] (defScope s_mirrored) := ⟨rfl, rfl, rfl, by decide +kernel, rfl, by decide +kernel, by decide +kernel⟩
abbrev s_unlike : Stmt := topS 29
theorem sc_unlike : FnScope ["number", "base", "found"] ["number", "base"] (defScope s_unlike) := ⟨rfl, rfl, rfl, by decide +kernel, rfl, by decide +kernel, by decide +kernel⟩
abbrev s__law_deal : Stmt := topS 31
theorem sc__law_deal : FnScope ["_law_script", "_law_base_here", "_law_cell", "_law_cells", "_law_blend"] ["_law_script", "_law_base_here"] (defScope s__law_deal) := ⟨rfl, rfl, rfl, by decide +kernel, rfl, by decide +kernel, by decide +kernel⟩
abbrev s__law_draw : Stmt := topS 32
theorem sc__law_draw : FnScope ["_law_deal_here", "_law_span", "_law_left"] ["_law_deal_here", "_law_span"] (defScope s__law_draw) := ⟨rfl, rfl, rfl, by decide +kernel, rfl, by decide +kernel, by decide +kernel⟩
abbrev s__law_pick : Stmt := topS 33
theorem sc__law_pick : FnScope ["_law_deal_here", "_law_some"] ["_law_deal_here", "_law_some"] (defScope s__law_pick) := ⟨rfl, rfl, rfl, by decide +kernel, rfl, by decide +kernel, by decide +kernel⟩
abbrev s__law_base : Stmt := topS 34
theorem sc__law_base : FnScope ["_law_deal_here", "_law_some"] ["_law_deal_here"] (defScope s__law_base) := ⟨rfl, rfl, rfl, by decide +kernel, rfl, by decide +kernel, by decide +kernel⟩
abbrev s__law_written : Stmt := topS 35
theorem sc__law_written : FnScope ["_law_figures_here", "_law_base_here", "_law_found", "_law_one"] ["_law_figures_here", "_law_base_here"] (defScope s__law_written) := ⟨rfl, rfl, rfl, by decide +kernel, rfl, by decide +kernel, by decide +kernel⟩
abbrev s__law_number : Stmt := topS 37
theorem sc__law_number : FnScope ["_law_deal_here", "_law_base_here", "_law_span", "_law_room", "_law_some", "_law_found", "_law_k"] ["_law_deal_here", "_law_base_here"] (defScope s__law_number) := ⟨rfl, rfl, rfl, by decide +kernel, rfl, by decide +kernel, by decide +kernel⟩
abbrev s__law_sums_right : Stmt := topS 38
theorem sc__law_sums_right : FnScope ["_law_number_here", "_law_base_here", "_law_added", "_law_left"] ["_law_number_here", "_law_base_here"] (defScope s__law_sums_right) := ⟨rfl, rfl, rfl, by decide +kernel, rfl, by decide +kernel, by decide +kernel⟩
abbrev s__law_order_right : Stmt := topS 39
theorem sc__law_order_right : FnScope ["_law_number_here", "_law_base_here", "_law_low", "_law_high", "_law_about", "_law_bare", "_law_lacking"] ["_law_number_here", "_law_base_here"] (defScope s__law_order_right) := ⟨rfl, rfl, rfl, by decide +kernel, rfl, by decide +kernel, by decide +kernel⟩
abbrev s_law : Stmt := topS 40
theorem sc_law : FnScope ["_law_script", "_law_deal_here", "_law_turn", "_law_base_here", "_law_number_here", "_law_other", "_law_size", "_law_k", "_law_head", "_law_tail", "_law_whole", "_law_at"] ["_law_script"] (defScope s_law) := ⟨rfl, rfl, rfl, by decide +kernel, rfl, by decide +kernel, by decide +kernel⟩
structure Txt (K : PySem.W.Frag) (mg : Str → Option Value) (F : Nat → Addr) (D : Nat → FuncData) (C : Nat → Addr) : Prop where
  f_is_integer : Fun K "is_integer" "is_integer" s_is_integer (F 0) (D 0)
  b_is_integer : Binds K (D 0) ["value"] []
  g_is_integer : mg "is_integer" = some (.ref (F 0))
  f_is_number : Fun K "is_number" "is_number" s_is_number (F 1) (D 1)
  b_is_number : Binds K (D 1) ["value"] []
  g_is_number : mg "is_number" = some (.ref (F 1))
  f_is_base : Fun K "is_base" "is_base" s_is_base (F 2) (D 2)
  b_is_base : Binds K (D 2) ["value"] []
  g_is_base : mg "is_base" = some (.ref (F 2))
  f_need_base : Fun K "need_base" "need_base" s_need_base (F 3) (D 3)
  b_need_base : Binds K (D 3) ["base"] []
  g_need_base : mg "need_base" = some (.ref (F 3))
  f_need_numbers : Fun K "need_numbers" "need_numbers" s_need_numbers (F 4) (D 4)
  b_need_numbers : Binds K (D 4) ["numbers", "base"] []
  g_need_numbers : mg "need_numbers" = some (.ref (F 4))
  f_power : Fun K "power" "power" s_power (F 5) (D 5)
  b_power : Binds K (D 5) ["base", "k"] []
  g_power : mg "power" = some (.ref (F 5))
  f_figures_of : Fun K "figures_of" "figures_of" s_figures_of (F 6) (D 6)
  b_figures_of : Binds K (D 6) ["number", "base"] []
  g_figures_of : mg "figures_of" = some (.ref (F 6))
  f_put_together : Fun K "put_together" "put_together" s_put_together (F 7) (D 7)
  b_put_together : Binds K (D 7) ["figures", "base"] []
  g_put_together : mg "put_together" = some (.ref (F 7))
  f_number_of : Fun K "number_of" "number_of" s_number_of (F 8) (D 8)
  b_number_of : Binds K (D 8) ["figures", "base"] []
  g_number_of : mg "number_of" = some (.ref (F 8))
  f_ascending : Fun K "ascending" "ascending" s_ascending (F 9) (D 9)
  b_ascending : Binds K (D 9) ["number", "base"] []
  g_ascending : mg "ascending" = some (.ref (F 9))
  f_turned : Fun K "turned" "turned" s_turned (F 10) (D 10)
  b_turned : Binds K (D 10) ["number", "base"] []
  g_turned : mg "turned" = some (.ref (F 10))
  f_least : Fun K "least" "least" s_least (F 11) (D 11)
  b_least : Binds K (D 11) ["number", "base"] []
  g_least : mg "least" = some (.ref (F 11))
  f_greatest : Fun K "greatest" "greatest" s_greatest (F 12) (D 12)
  b_greatest : Binds K (D 12) ["number", "base"] []
  g_greatest : mg "greatest" = some (.ref (F 12))
  f_total : Fun K "total" "total" s_total (F 13) (D 13)
  b_total : Binds K (D 13) ["number", "base"] []
  g_total : mg "total" = some (.ref (F 13))
  f_many : Fun K "many" "many" s_many (F 14) (D 14)
  b_many : Binds K (D 14) ["number", "base"] []
  g_many : mg "many" = some (.ref (F 14))
  f_root : Fun K "root" "root" s_root (F 15) (D 15)
  b_root : Binds K (D 15) ["number", "base"] []
  g_root : mg "root" = some (.ref (F 15))
  f_figure : Fun K "figure" "figure" s_figure (F 16) (D 16)
  b_figure : Binds K (D 16) ["number", "k", "base"] []
  g_figure : mg "figure" = some (.ref (F 16))
  f_first : Fun K "first" "first" s_first (F 17) (D 17)
  b_first : Binds K (D 17) ["number", "k", "base"] []
  g_first : mg "first" = some (.ref (F 17))
  f_last : Fun K "last" "last" s_last (F 18) (D 18)
  b_last : Binds K (D 18) ["number", "k", "base"] []
  g_last : mg "last" = some (.ref (F 18))
  f_joined : Fun K "joined" "joined" s_joined (F 19) (D 19)
  b_joined : Binds K (D 19) ["number", "other", "base"] []
  g_joined : mg "joined" = some (.ref (F 19))
  f_mirrored : Fun K "mirrored" "mirrored" s_mirrored (F 20) (D 20)
  b_mirrored : Binds K (D 20) ["number", "base"] []
  g_mirrored : mg "mirrored" = some (.ref (F 20))
  f_unlike : Fun K "unlike" "unlike" s_unlike (F 21) (D 21)
  b_unlike : Binds K (D 21) ["number", "base"] []
  g_unlike : mg "unlike" = some (.ref (F 21))
  f__law_deal : Fun K "_law_deal" "_law_deal" s__law_deal (F 22) (D 22)
  b__law_deal : Binds K (D 22) ["_law_script", "_law_base_here"] []
  g__law_deal : mg "_law_deal" = some (.ref (F 22))
  f__law_draw : Fun K "_law_draw" "_law_draw" s__law_draw (F 23) (D 23)
  b__law_draw : Binds K (D 23) ["_law_deal_here", "_law_span"] []
  g__law_draw : mg "_law_draw" = some (.ref (F 23))
  f__law_pick : Fun K "_law_pick" "_law_pick" s__law_pick (F 24) (D 24)
  b__law_pick : Binds K (D 24) ["_law_deal_here", "_law_some"] []
  g__law_pick : mg "_law_pick" = some (.ref (F 24))
  f__law_base : Fun K "_law_base" "_law_base" s__law_base (F 25) (D 25)
  b__law_base : Binds K (D 25) ["_law_deal_here"] []
  g__law_base : mg "_law_base" = some (.ref (F 25))
  f__law_written : Fun K "_law_written" "_law_written" s__law_written (F 26) (D 26)
  b__law_written : Binds K (D 26) ["_law_figures_here", "_law_base_here"] []
  g__law_written : mg "_law_written" = some (.ref (F 26))
  f__law_number : Fun K "_law_number" "_law_number" s__law_number (F 27) (D 27)
  b__law_number : Binds K (D 27) ["_law_deal_here", "_law_base_here"] []
  g__law_number : mg "_law_number" = some (.ref (F 27))
  f__law_sums_right : Fun K "_law_sums_right" "_law_sums_right" s__law_sums_right (F 28) (D 28)
  b__law_sums_right : Binds K (D 28) ["_law_number_here", "_law_base_here"] []
  g__law_sums_right : mg "_law_sums_right" = some (.ref (F 28))
  f__law_order_right : Fun K "_law_order_right" "_law_order_right" s__law_order_right (F 29) (D 29)
  b__law_order_right : Binds K (D 29) ["_law_number_here", "_law_base_here"] []
  g__law_order_right : mg "_law_order_right" = some (.ref (F 29))
  f_law : Fun K "law" "law" s_law (F 30) (D 30)
  b_law : Binds K (D 30) ["_law_script"] []
  g_law : mg "law" = some (.ref (F 30))
  n_isinstance : mg "isinstance" = none
  n_int : mg "int" = none
  n_bool : mg "bool" = none
  n_range : mg "range" = none
  n_tuple : mg "tuple" = none
  n_list : mg "list" = none
  n_len : mg "len" = none
  n_enumerate : mg "enumerate" = none
  n_sorted : mg "sorted" = none
  n_sum : mg "sum" = none
  n_set : mg "set" = none
  n_min : mg "min" = none
  n_max : mg "max" = none
  v_LEAST_BASE : ∃ u, mg "LEAST_BASE" = some u ∧ RelV (.int 2) u
section
variable {P : Program} {w : World} {K : PySem.W.Frag} {mg : Str → Option Value} {base : Heap} {F : Nat → Addr} {D : Nat → FuncData} {C : Nat → Addr}
def sp_is_integer : Sp := fun vs H Q _ => ∃ i, vs = [V.int i] ∧ Q (.bl true) H
theorem ok_is_integer (T : Txt K mg F D C) : FnOk P w K mg base CX0 1 (F 0) (D 0) ["value"] (sp_is_integer) := by
  refine T.f_is_integer.ok sc_is_integer (fun vs H Q E h => ?_) (fun cdv A outer s H vs Q E hr h => ?_)
  · obtain ⟨i, rfl, q⟩ := h
    rfl
  · obtain ⟨i, rfl, q⟩ := h
    refine ⟨_, (pss_one (ps_ret (pe_and (pe_callB call_isi (by rfl) T.n_isinstance Eb.bb_isinstance (pa_cons (pv 0) (pa_cons (pe_bltn (v := .ty "int") (by rfl) T.n_int Eb.bb_int rfl) pa_nil))) (pe_one (pe_not (pe_callB call_isi (by rfl) T.n_isinstance Eb.bb_isinstance (pa_cons (pv 0) (pa_cons (pe_bltn (v := .ty "bool") (by rfl) T.n_bool Eb.bb_bool rfl) pa_nil)))))))), ?_⟩
    refine ⟨_, rfl, _, _, _, _, true, rfl, .ty "int", .base (.int i), kit_ty (by decide +kernel), true, rfl, iteT ?_⟩
    refine ⟨_, rfl, _, _, _, _, false, rfl, .ty "bool", .base (.int i), kit_ty (by decide +kernel), false, rfl, ?_⟩
    exact q
def sp_is_number : Sp := fun vs H Q _ => ∃ i, vs = [V.int i] ∧ Q (.bl (decide (0 ≤ i))) H
theorem ok_is_number (T : Txt K mg F D C) : FnOk P w K mg base CX0 2 (F 1) (D 1) ["value"] (sp_is_number) := by
  refine T.f_is_number.ok sc_is_number (fun vs H Q E h => ?_) (fun cdv A outer s H vs Q E hr h => ?_)
  · obtain ⟨i, rfl, q⟩ := h
    rfl
  · obtain ⟨i, rfl, q⟩ := h
    refine ⟨_, (pss_one (ps_ret (pe_and (pe_call (ok_is_integer T) (hr.mono (by decide)) (by rfl) T.g_is_integer T.f_is_integer.kp T.b_is_integer .nil pass0 (pa_cons (pv 0) pa_nil)) (pe_one (pe_cmpR op_ge (pv 0) pe_int (nomark _)))))), ?_⟩
    refine ⟨_, rfl, i, rfl, true, rfl, iteT ?_⟩
    refine ⟨_, rfl, _, _, rfl, rfl, ?_⟩
    exact q
def sp_is_base : Sp := fun vs H Q _ => ∃ i, vs = [V.int i] ∧ Q (.bl (decide (2 ≤ i))) H
theorem ok_is_base (T : Txt K mg F D C) : FnOk P w K mg base CX0 2 (F 2) (D 2) ["value"] (sp_is_base) := by
  refine T.f_is_base.ok sc_is_base (fun vs H Q E h => ?_) (fun cdv A outer s H vs Q E hr h => ?_)
  · obtain ⟨i, rfl, q⟩ := h
    rfl
  · obtain ⟨i, rfl, q⟩ := h
    refine ⟨_, (pss_one (ps_ret (pe_and (pe_call (ok_is_integer T) (hr.mono (by decide)) (by rfl) T.g_is_integer T.f_is_integer.kp T.b_is_integer .nil pass0 (pa_cons (pv 0) pa_nil)) (pe_one (pe_cmpR op_ge (pv 0) (C8.pe_gc (by rfl) T.v_LEAST_BASE) (nomark _)))))), ?_⟩
    refine ⟨_, rfl, i, rfl, true, rfl, iteT ?_⟩
    refine ⟨_, rfl, _, _, rfl, rfl, ?_⟩
    exact q
def sp_need_base : Sp := fun vs H Q _ => ∃ i, vs = [V.int i] ∧ 2 ≤ i ∧ Q .non H
theorem ok_need_base (T : Txt K mg F D C) : FnOk P w K mg base CX0 3 (F 3) (D 3) ["base"] (sp_need_base) := by
  refine T.f_need_base.ok sc_need_base (fun vs H Q E h => ?_) (fun cdv A outer s H vs Q E hr h => ?_)
  · obtain ⟨i, rfl, hi, q⟩ := h
    rfl
  · obtain ⟨i, rfl, hi, q⟩ := h
    refine ⟨_, (pss_one (ps_if (pt_not (pt_val (pe_call (ok_is_base T) (hr.mono (by decide)) (by rfl) T.g_is_base T.f_is_base.kp T.b_is_base .nil pass0 (pa_cons (pv 0) pa_nil)))) (pss_one ps_never) pss_nil)), ?_⟩
    refine ⟨_, rfl, i, rfl, _, rfl, ?_⟩
    rw [decide_eq_true hi]
    exact iteF q
def sp_need_numbers (K : PySem.W.Frag) : Sp := fun vs H Q _ => ∃ (a : Addr) (ns : List Int) (b : Int), vs = [V.ref a, .int b] ∧ SqL K H a (ns.map V.int) ∧ (∀ n ∈ ns, 0 ≤ n) ∧ 2 ≤ b ∧ Q .non H
theorem ok_need_numbers (T : Txt K mg F D C) : FnOk P w K mg base CX0 4 (F 4) (D 4) ["numbers", "base"] (sp_need_numbers K) := by
  refine T.f_need_numbers.ok sc_need_numbers (fun vs H Q E h => ?_) (fun cdv A outer s H vs Q E hr h => ?_)
  · obtain ⟨a, ns, b, rfl, hs, hn, hb, q⟩ := h
    rfl
  · obtain ⟨a, ns, b, rfl, hs, hn, hb, q⟩ := h
    refine ⟨_, (pss_cons (ps_expr (pe_call (ok_need_base T) (hr.mono (by decide)) (by rfl) T.g_need_base T.f_need_base.kp T.b_need_base .nil pass0 (pa_cons (pv 1) pa_nil))) (pss_one (ps_for PassesOwn.never rfl (pi_list (pv 0)) (pg_name (i := 2) sc_need_numbers.nd rfl (.inl rfl)) (pss_one (ps_if (pt_not (pt_val (pe_call (ok_is_number T) (hr.mono (by decide)) (by rfl) T.g_is_number T.f_is_number.kp T.b_is_number .nil pass0 (pa_cons (pv 2) pa_nil)))) (pss_one ps_never) pss_nil))))), ?_⟩
    refine ⟨_, rfl, b, rfl, hb, ?_⟩
    refine ⟨_, rfl, a, rfl, ⟨_, hs⟩, for_list (K := K) (a := a) (xs := ns.map V.int) (fun i σ H' => ∃ v, σ = [some (.ref a), some (.int b), v] ∧ H' = H) ⟨none, rfl, rfl⟩ ?_ ?_ ?_⟩
    · rintro i σ H' _ ⟨v, rfl, rfl⟩
      exact hs
    · rintro i x σ H' hx ⟨v, rfl, rfl⟩
      rw [List.getElem?_map] at hx
      obtain ⟨z, hz, rfl⟩ := Option.map_eq_some_iff.mp hx
      refine ⟨_, rfl, z, rfl, _, rfl, ?_⟩
      rw [decide_eq_true (hn z (List.mem_of_getElem? hz))]
      exact iteF ⟨_, rfl, rfl⟩
    · rintro σ H' ⟨v, rfl, rfl⟩
      exact q

/-- figures_of: a new tuple of the figures -/
def sp_figures_of : Sp := fun vs H Q _ => ∃ n b : Int, vs = [V.int n, .int b] ∧ 0 ≤ n ∧ 2 ≤ b ∧ Sm n ∧ Sm b ∧ ∀ p H', Same H H' → H p = none → H' p = some (.tup ((digs b n).reverse.map V.int)) → Q (.ref p) H'
theorem ok_figures_of (T : Txt K mg F D C) : FnOk P w K mg base CX0 5 (F 6) (D 6) ["number", "base"] (sp_figures_of) := by
  refine T.f_figures_of.ok sc_figures_of (fun vs H Q E h => ?_) (fun cdv A outer s H vs Q E hr h => ?_)
  · obtain ⟨n, b, rfl, hn, hb, sn, sb, q⟩ := h
    rfl
  · obtain ⟨n, b, rfl, hn, hb, sn, sb, q⟩ := h
    refine ⟨_, (pss_cons (ps_expr (pe_call (ok_need_numbers T) (hr.mono (by decide)) (by rfl) T.g_need_numbers T.f_need_numbers.kp T.b_need_numbers .nil pass0 (pa_cons (pe_lst (pa_cons (pv 0) pa_nil)) (pa_cons (pv 1) pa_nil)))) (pss_cons (ps_set (i := 2) sc_figures_of.nd rfl (.inl rfl) (pe_lst (pa_cons (pe_op op_mod (pv 0) (pv 1)) pa_nil))) (pss_cons (ps_set (i := 3) sc_figures_of.nd rfl (.inl rfl) (pe_op op_fdivX (pv 0) (pv 1))) (pss_cons (ps_while PassesOwn.never (pt_cmpR op_gt (pv 3) pe_int (nomark _)) (pss_cons (ps_expr (pe_bm PySem.F.plainAttrs_list PySem.F.slot_list_append PySem.F.type_list_append mt_append (pv 2) (pa_cons (pe_op op_mod (pv 3) (pv 1)) pa_nil))) (pss_one (ps_set (i := 3) sc_figures_of.nd rfl (.inl rfl) (pe_op op_fdivX (pv 3) (pv 1)))))) (pss_one (ps_ret (pe_callTy call_tuple_of (by rfl) T.n_tuple Eb.bb_tuple (pa_cons (pe_revL (pv 2)) pa_nil)))))))), ?_⟩
    -- need_numbers([number], base)
    refine ⟨_, rfl, szr rfl, fun t ht => ⟨_, rfl, t, [n], b, rfl, sqL_new, ?_, hb, ?_⟩⟩
    · intro z hz
      rw [List.mem_singleton.mp hz]
      exact hn
    -- found = [number % base], left = number // base
    refine ⟨_, rfl, _, rfl, _, _, rfl, rfl, (show 0 < b by omega), szr rfl, fun p hp => ?_⟩
    refine ⟨_, rfl, _, rfl, _, _, rfl, rfl, divW (by omega) sb, ?_⟩
    have hp0 : H p = none := by
      cases e : H p with
      | none => rfl
      | some o =>
        rw [same_new ht _ _ e] at hp
        cases hp
    refine whl (fun m σ H' => ∃ (c : List Int) (l : Int), σ = [some (.int n), some (.int b), some (.ref p), some (.int l)] ∧ 0 ≤ l ∧ l ≤ n ∧ m = l.toNat ∧ c ++ rest b l = digs b n ∧ H' p = some (.lst (c.map V.int)) ∧ Same H H') (n / b).toNat
      ⟨[n % b], n / b, rfl, div_nn hb hn, Int.ediv_le_self _ hn, rfl, (digs_rest hb hn).symm, upd_same, same_mut (same_new ht) hp0⟩ ?_
    rintro m σ H' ⟨c, l, rfl, h0, h1, rfl, hc, hH, sm⟩
    have hlen : c.length ≤ 1900 := by
      have := congrArg List.length hc
      rw [List.length_append] at this
      have := digs_small hb hn sn
      omega
    refine ⟨_, rfl, _, _, rfl, rfl, _, rfl, ?_⟩
    by_cases hl : 0 < l
    · rw [decide_eq_true hl]
      refine iteT (turn_of ?_)
      refine ⟨_, rfl, .inl ⟨rfl, _, sqL_of hH⟩, _, rfl, _, rfl, _, _, rfl, rfl, (show 0 < b by omega), p, _, _, rfl, rfl, hH, ?_, ?_⟩
      · rw [List.length_map]
        exact szl (by omega)
      · refine ⟨_, rfl, _, rfl, _, _, rfl, rfl, divW (by omega) sb, ?_⟩
        refine ⟨(l / b).toNat, ?_, c ++ [l % b], l / b, rfl, div_nn hb h0, ?_, rfl, ?_, ?_, same_mut sm hp0⟩
        · by_cases z : l < b
          · rw [div_zero h0 z]
            show 0 < l.toNat
            omega
          · have z1 := div_lt hb (Int.not_lt.mp z)
            have z2 := div_nn hb h0
            omega
        · exact Int.le_trans (Int.ediv_le_self _ h0) h1
        · rw [← hc, rest_step hb hl, List.append_assoc]
          rfl
        · rw [upd_same, List.map_append]
          rfl
    · rw [decide_eq_false hl]
      refine iteF ?_
      rw [rest_zero (by omega), List.append_nil] at hc
      -- return tuple(found[::-1])
      refine ⟨_, rfl, p, _, rfl, sqL_of hH, fun r hr' => ⟨r, _, rfl, .inl ⟨sqL_new, fun t2 ht2 => ?_⟩⟩⟩
      have e1 : Same H' (upd H' r (.lst ((c.map V.int).reverse))) := same_new hr'
      refine q t2 _ ((sm.trans e1).trans (same_new ht2)) (sm.free (e1.free ht2)) ?_
      rw [upd_same, hc, List.map_reverse]
def sp_total : Sp := fun vs H Q _ => ∃ n b : Int, vs = [V.int n, .int b] ∧ 0 ≤ n ∧ 2 ≤ b ∧ Sm n ∧ Sm b ∧ ∀ H', Same H H' → Q (.int (dsum b n)) H'
theorem ok_total (T : Txt K mg F D C) : FnOk P w K mg base CX0 6 (F 13) (D 13) ["number", "base"] (sp_total) := by
  refine T.f_total.ok sc_total (fun vs H Q E h => ?_) (fun cdv A outer s H vs Q E hr h => ?_)
  · obtain ⟨n, b, rfl, hn, hb, sn, sb, q⟩ := h
    rfl
  · obtain ⟨n, b, rfl, hn, hb, sn, sb, q⟩ := h
    refine ⟨_, (pss_one (ps_ret (pe_callB (Eb.cr_sumT rfl) (by rfl) T.n_sum Eb.bb_sum (pa_cons (pe_call (ok_figures_of T) (hr.mono (by decide)) (by rfl) T.g_figures_of T.f_figures_of.kp T.b_figures_of .nil pass0 (pa_cons (pv 0) (pa_cons (pv 1) pa_nil))) pa_nil)))), ?_⟩
    refine ⟨_, rfl, _, rfl, n, b, rfl, hn, hb, sn, sb, fun p H' sm hp e => ?_⟩
    refine ⟨p, (digs b n).reverse, rfl, sqT_of e, ?_⟩
    have e2 : (digs b n).reverse.sum = dsum b n := by
      rw [List.sum_reverse]
      rfl
    rw [e2]
    exact q _ sm
def sp_root : Sp := fun vs H Q _ => ∃ n b : Int, vs = [V.int n, .int b] ∧ 0 ≤ n ∧ 2 ≤ b ∧ Sm n ∧ Sm b ∧ ∀ H', Same H H' → Q (.int (rooted b n)) H'
theorem ok_root (T : Txt K mg F D C) : FnOk P w K mg base CX0 7 (F 15) (D 15) ["number", "base"] (sp_root) := by
  refine T.f_root.ok sc_root (fun vs H Q E h => ?_) (fun cdv A outer s H vs Q E hr h => ?_)
  · obtain ⟨n, b, rfl, hn, hb, sn, sb, q⟩ := h
    rfl
  · obtain ⟨n, b, rfl, hn, hb, sn, sb, q⟩ := h
    refine ⟨_, (pss_cons (ps_set (i := 2) sc_root.nd rfl (.inl rfl) (pe_call (ok_total T) (hr.mono (by decide)) (by rfl) T.g_total T.f_total.kp T.b_total .nil pass0 (pa_cons (pv 0) (pa_cons (pv 1) pa_nil)))) (pss_cons (ps_while PassesOwn.never (pt_cmpR op_ge (pv 2) (pv 1) (nomark _)) (pss_one (ps_set (i := 2) sc_root.nd rfl (.inl rfl) (pe_call (ok_total T) (hr.mono (by decide)) (by rfl) T.g_total T.f_total.kp T.b_total .nil pass0 (pa_cons (pv 2) (pa_cons (pv 1) pa_nil)))))) (pss_one (ps_ret (pv 2))))), ?_⟩
    refine ⟨_, rfl, _, rfl, n, b, rfl, hn, hb, sn, sb, fun H1 s1 => ?_⟩
    refine whl (fun m σ H' => ∃ f : Int, σ = [some (.int n), some (.int b), some (.int f)] ∧ 0 ≤ f ∧ f ≤ n ∧ m = f.toNat ∧ rooted b f = rooted b n ∧ Same H H') (dsum b n).toNat
      ⟨dsum b n, rfl, dsum_nn hb n hn, dsum_le hb n hn, rfl, rooted_dsum hb, s1⟩ ?_
    rintro m σ H' ⟨f, rfl, h0, h1, rfl, hc, sm⟩
    refine ⟨_, rfl, _, rfl, _, _, rfl, rfl, _, rfl, ?_⟩
    by_cases hl : b ≤ f
    · rw [decide_eq_true hl]
      refine iteT (turn_of ?_)
      refine ⟨_, rfl, _, rfl, f, b, rfl, h0, hb, sn.le h0 h1, sb, fun H2 s2 => ?_⟩
      have z := dsum_lt hb hl
      have z2 := dsum_nn hb f h0
      exact ⟨(dsum b f).toNat, by omega, dsum b f, rfl, z2, by omega, rfl, (rooted_dsum hb).trans hc, sm.trans s2⟩
    · rw [decide_eq_false hl]
      refine iteF ?_
      refine ⟨_, rfl, ?_⟩
      rw [rooted_lt (by omega)] at hc
      rw [hc]
      exact q _ sm

theorem pow_mul_ok {b : Int} (h0 : 0 ≤ b) (h1 : b ≤ 10 ^ 31) {k : Nat} (hk : k ≤ 400) : CMulW (b ^ k) b := by
  have a := pow_bits h0 h1 k
  have c := pow_bits h0 h1 1
  rw [Int.pow_one] at c
  exact wide_mul a c (by omega) (by omega) (by omega)
def sp_power : Sp := fun vs H Q _ => ∃ b k : Int, vs = [V.int b, .int k] ∧ 0 ≤ k ∧ k ≤ 400 ∧ 0 ≤ b ∧ b ≤ 10 ^ 31 ∧ Q (.int (b ^ k.toNat)) H
theorem ok_power (T : Txt K mg F D C) : FnOk P w K mg base CX0 1 (F 5) (D 5) ["base", "k"] (sp_power) := by
  refine T.f_power.ok sc_power (fun vs H Q E h => ?_) (fun cdv A outer s H vs Q E hr h => ?_)
  · obtain ⟨b, k, rfl, k0, k1, b0, b1, q⟩ := h
    rfl
  · obtain ⟨b, k, rfl, k0, k1, b0, b1, q⟩ := h
    refine ⟨_, (pss_cons (ps_set (i := 2) sc_power.nd rfl (.inl rfl) pe_int) (pss_cons (ps_for PassesOwn.never rfl (pi_range1 (by rfl) T.n_range (pa_cons (pv 1) pa_nil)) (pg_name (i := 3) sc_power.nd rfl (.inl rfl)) (pss_one (ps_set (i := 2) sc_power.nd rfl (.inl rfl) (pe_op op_mulW (pv 2) (pv 0))))) (pss_one (ps_ret (pv 2))))), ?_⟩
    refine ⟨_, rfl, k, rfl, by omega, by omega, for_range (lo := 0) (n := k.toNat) (fun i σ H' => ∃ v : Option V, σ = [some (.int b), some (.int k), some (.int (b ^ i)), v] ∧ H' = H) ⟨none, by rw [Int.pow_zero]; rfl, rfl⟩ ?_ ?_⟩
    · rintro i σ H' hi ⟨v, rfl, rfl⟩
      refine ⟨_, rfl, _, rfl, _, _, rfl, rfl, pow_mul_ok b0 b1 (by omega), ?_⟩
      exact ⟨some (.int (0 + (i : Int))), by rw [Int.pow_succ]; rfl, rfl⟩
    · rintro σ H' ⟨v, rfl, rfl⟩
      exact ⟨_, rfl, q⟩
/-- put_together: of a list or a tuple -/
def sp_put_together (K : PySem.W.Frag) : Sp := fun vs H Q _ => ∃ (a : Addr) (xs : List Int) (b : Int), vs = [V.ref a, .int b] ∧ (SqL K H a (xs.map V.int) ∨ SqT K H a (xs.map V.int)) ∧ Sm b ∧ (∀ i, i ≤ xs.length → Sm (ofs b (xs.take i))) ∧ Q (.int (ofs b xs)) H
theorem ok_put_together (T : Txt K mg F D C) : FnOk P w K mg base CX0 1 (F 7) (D 7) ["figures", "base"] (sp_put_together K) := by
  refine T.f_put_together.ok sc_put_together (fun vs H Q E h => ?_) (fun cdv A outer s H vs Q E hr h => ?_)
  · obtain ⟨a, xs, b, rfl, _⟩ := h
    rfl
  · obtain ⟨a, xs, b, rfl, hs | hs, sb, hx, q⟩ := h
    · refine ⟨_, (pss_cons (ps_set (i := 2) sc_put_together.nd rfl (.inl rfl) pe_int) (pss_cons (ps_for PassesOwn.never rfl (pi_list (pv 0)) (pg_name (i := 3) sc_put_together.nd rfl (.inl rfl)) (pss_one (ps_set (i := 2) sc_put_together.nd rfl (.inl rfl) (pe_op op_add (pe_op op_mulW (pv 2) (pv 1)) (pv 3))))) (pss_one (ps_ret (pv 2))))), ?_⟩
      refine ⟨_, rfl, a, rfl, ⟨_, hs⟩, for_list (K := K) (a := a) (xs := xs.map V.int) (fun i σ H' => ∃ v, σ = [some (.ref a), some (.int b), some (.int (ofs b (xs.take i))), v] ∧ H' = H) ⟨none, rfl, rfl⟩ ?_ ?_ ?_⟩
      · rintro i σ H' _ ⟨v, rfl, rfl⟩
        exact hs
      · rintro i x σ H' hi ⟨v, rfl, rfl⟩
        rw [List.getElem?_map] at hi
        obtain ⟨z, hz, rfl⟩ := Option.map_eq_some_iff.mp hi
        have hl : i < xs.length := (List.getElem?_eq_some_iff.mp hz).1
        refine ⟨_, rfl, _, rfl, _, _, rfl, rfl, mulW (hx i (by omega)) sb, _, rfl, _, _, rfl, rfl, ?_⟩
        refine ⟨some (.int z), ?_, rfl⟩
        rw [ofs_take hz]
        rfl
      · rintro σ H' ⟨v, rfl, rfl⟩
        rw [List.length_map, List.take_length]
        exact ⟨_, rfl, q⟩
    · refine ⟨_, (pss_cons (ps_set (i := 2) sc_put_together.nd rfl (.inl rfl) pe_int) (pss_cons (ps_for PassesOwn.never rfl (pi_tup (pv 0)) (pg_name (i := 3) sc_put_together.nd rfl (.inl rfl)) (pss_one (ps_set (i := 2) sc_put_together.nd rfl (.inl rfl) (pe_op op_add (pe_op op_mulW (pv 2) (pv 1)) (pv 3))))) (pss_one (ps_ret (pv 2))))), ?_⟩
      refine ⟨_, rfl, a, rfl, ⟨_, hs⟩, for_tup (K := K) (a := a) (xs := xs.map V.int) (fun i σ H' => ∃ v, σ = [some (.ref a), some (.int b), some (.int (ofs b (xs.take i))), v] ∧ H' = H) ⟨none, rfl, rfl⟩ ?_ ?_ ?_⟩
      · rintro i σ H' _ ⟨v, rfl, rfl⟩
        exact hs
      · rintro i x σ H' hi ⟨v, rfl, rfl⟩
        rw [List.getElem?_map] at hi
        obtain ⟨z, hz, rfl⟩ := Option.map_eq_some_iff.mp hi
        have hl : i < xs.length := (List.getElem?_eq_some_iff.mp hz).1
        refine ⟨_, rfl, _, rfl, _, _, rfl, rfl, mulW (hx i (by omega)) sb, _, rfl, _, _, rfl, rfl, ?_⟩
        refine ⟨some (.int z), ?_, rfl⟩
        rw [ofs_take hz]
        rfl
      · rintro σ H' ⟨v, rfl, rfl⟩
        rw [List.length_map, List.take_length]
        exact ⟨_, rfl, q⟩
def sp_many : Sp := fun vs H Q _ => ∃ n b : Int, vs = [V.int n, .int b] ∧ 0 ≤ n ∧ 2 ≤ b ∧ Sm n ∧ Sm b ∧ ∀ H', Same H H' → Q (.int ((digs b n).length : Int)) H'
theorem ok_many (T : Txt K mg F D C) : FnOk P w K mg base CX0 6 (F 14) (D 14) ["number", "base"] (sp_many) := by
  refine T.f_many.ok sc_many (fun vs H Q E h => ?_) (fun cdv A outer s H vs Q E hr h => ?_)
  · obtain ⟨n, b, rfl, hn, hb, sn, sb, q⟩ := h
    rfl
  · obtain ⟨n, b, rfl, hn, hb, sn, sb, q⟩ := h
    refine ⟨_, (pss_one (ps_ret (pe_callB call_len_seq (by rfl) T.n_len Eb.bb_len (pa_cons (pe_call (ok_figures_of T) (hr.mono (by decide)) (by rfl) T.g_figures_of T.f_figures_of.kp T.b_figures_of .nil pass0 (pa_cons (pv 0) (pa_cons (pv 1) pa_nil))) pa_nil)))), ?_⟩
    refine ⟨_, rfl, _, rfl, n, b, rfl, hn, hb, sn, sb, fun p H' sm hp e => ?_⟩
    refine ⟨p, _, rfl, .inr (sqT_of e), ?_⟩
    rw [List.length_map, List.length_reverse]
    exact q _ sm
def sp_figure : Sp := fun vs H Q _ => ∃ n k b : Int, vs = [V.int n, .int k, .int b] ∧ 0 ≤ n ∧ 2 ≤ b ∧ Sm n ∧ b ≤ 10 ^ 31 ∧ 0 ≤ k ∧ k ≤ 400 ∧ ∀ H', Same H H' → Q (.int ((digs b n).getD k.toNat 0)) H'
theorem ok_figure (T : Txt K mg F D C) : FnOk P w K mg base CX0 5 (F 16) (D 16) ["number", "k", "base"] (sp_figure) := by
  refine T.f_figure.ok sc_figure (fun vs H Q E h => ?_) (fun cdv A outer s H vs Q E hr h => ?_)
  · obtain ⟨n, k, b, rfl, hn, hb, sn, hb1, k0, k1, q⟩ := h
    rfl
  · obtain ⟨n, k, b, rfl, hn, hb, sn, hb1, k0, k1, q⟩ := h
    refine ⟨_, (pss_cons (ps_expr (pe_call (ok_need_numbers T) (hr.mono (by decide)) (by rfl) T.g_need_numbers T.f_need_numbers.kp T.b_need_numbers .nil pass0 (pa_cons (pe_lst (pa_cons (pv 0) pa_nil)) (pa_cons (pv 2) pa_nil)))) (pss_one (ps_ret (pe_op op_mod (pe_op op_fdivX (pv 0) (pe_call (ok_power T) (hr.mono (by decide)) (by rfl) T.g_power T.f_power.kp T.b_power .nil pass0 (pa_cons (pv 2) (pa_cons (pv 1) pa_nil)))) (pv 2))))), ?_⟩
    refine ⟨_, rfl, szr rfl, fun t ht => ⟨_, rfl, t, [n], b, rfl, sqL_new, ?_, hb, ?_⟩⟩
    · intro z hz
      rw [List.mem_singleton.mp hz]
      exact hn
    refine ⟨_, rfl, _, rfl, _, rfl, b, k, rfl, k0, k1, by omega, hb1, ?_⟩
    refine ⟨_, _, rfl, rfl, divS (Int.pow_pos (by omega)) sn, _, rfl, _, _, rfl, rfl, (show 0 < b by omega), ?_⟩
    have e := figure_at hb hn k.toNat
    show Q (.int (n / b ^ k.toNat % b)) _
    rw [e]
    exact q _ (same_new ht)
theorem cut_toT (zs : List Int) (k : Int) (h : 0 ≤ k) : cutV (zs.map V.int) none (some k) = (zs.take k.toNat).map V.int := by
  unfold cutV
  obtain ⟨n, rfl⟩ : ∃ n : Nat, k = n := ⟨k.toNat, by omega⟩
  rw [HT.sIx_none, show HT.sIx (zs.map V.int).length (zs.map V.int).length (some (n : Int)) = min n (zs.map V.int).length from HT.sIx_nat _ _ n]
  rw [List.drop_zero, Nat.sub_zero, List.map_take]
  exact (List.take_eq_take_min ..).symm
/-- first: the number of the first figures -/
def sp_first : Sp := fun vs H Q _ => ∃ n k b : Int, vs = [V.int n, .int k, .int b] ∧ 0 ≤ n ∧ 2 ≤ b ∧ Sm n ∧ Sm b ∧ 0 ≤ k ∧ b ^ (digs b n).length ≤ 10 ^ 250 ∧ ∀ H', Same H H' → Q (.int (ofs b ((digs b n).reverse.take k.toNat))) H'
theorem ok_first (T : Txt K mg F D C) : FnOk P w K mg base CX0 6 (F 17) (D 17) ["number", "k", "base"] (sp_first) := by
  refine T.f_first.ok sc_first (fun vs H Q E h => ?_) (fun cdv A outer s H vs Q E hr h => ?_)
  · obtain ⟨n, k, b, rfl, hn, hb, sn, sb, k0, hl, q⟩ := h
    rfl
  · obtain ⟨n, k, b, rfl, hn, hb, sn, sb, k0, hl, q⟩ := h
    refine ⟨_, (pss_one (ps_ret (pe_call (ok_put_together T) (hr.mono (by decide)) (by rfl) T.g_put_together T.f_put_together.kp T.b_put_together .nil pass0 (pa_cons (pe_slice sl_tupA (pe_call (ok_figures_of T) (hr.mono (by decide)) (by rfl) T.g_figures_of T.f_figures_of.kp T.b_figures_of .nil pass0 (pa_cons (pv 0) (pa_cons (pv 2) pa_nil))) po_none (po_some (pv 1))) (pa_cons (pv 2) pa_nil))))), ?_⟩
    refine ⟨_, rfl, _, rfl, n, b, rfl, hn, hb, sn, sb, fun p H1 s1 hp e => ?_⟩
    have inb : InB b (digs b n).reverse := (inB_digs hb hn).reverse
    have hl2 : b ^ (digs b n).reverse.length ≤ 10 ^ 250 := by
      rw [List.length_reverse]
      exact hl
    refine ⟨_, rfl, k, rfl, p, _, rfl, sqT_of e, fun c => ?_, fun c t ht => ?_⟩
    · have e2 : (digs b n).reverse.take k.toNat = (digs b n).reverse := by
        have c2 := c.2
        obtain ⟨m, rfl⟩ : ∃ m : Nat, k = m := ⟨k.toNat, by omega⟩
        rw [show HT.sIx ((digs b n).reverse.map V.int).length ((digs b n).reverse.map V.int).length (some (m : Int)) = min m ((digs b n).reverse.map V.int).length from HT.sIx_nat _ _ m, List.length_map] at c2
        exact List.take_of_length_le (by show _ ≤ m; omega)
      refine ⟨_, rfl, p, _, b, rfl, .inr (sqT_of e), sb, ofs_smB hb inb hl2, ?_⟩
      rw [e2] at q
      exact q _ s1
    · refine ⟨_, rfl, t, (digs b n).reverse.take k.toNat, b, rfl, .inr ?_, sb, ?_, ?_⟩
      · rw [cut_toT _ _ k0]
        exact sqT_new
      · refine ofs_smB hb (inb.take _) ?_
        have m : ((digs b n).reverse.take k.toNat).length ≤ (digs b n).reverse.length := by
          rw [List.length_take]
          omega
        have := pow_mono hb m
        omega
      · exact q _ (s1.trans (same_new ht))
def sp_last : Sp := fun vs H Q _ => ∃ n k b : Int, vs = [V.int n, .int k, .int b] ∧ 0 ≤ n ∧ 2 ≤ b ∧ b ≤ 10 ^ 31 ∧ 0 ≤ k ∧ k ≤ 400 ∧ ∀ H', Same H H' → Q (.int (n % b ^ k.toNat)) H'
theorem ok_last (T : Txt K mg F D C) : FnOk P w K mg base CX0 5 (F 18) (D 18) ["number", "k", "base"] (sp_last) := by
  refine T.f_last.ok sc_last (fun vs H Q E h => ?_) (fun cdv A outer s H vs Q E hr h => ?_)
  · obtain ⟨n, k, b, rfl, hn, hb, hb1, k0, k1, q⟩ := h
    rfl
  · obtain ⟨n, k, b, rfl, hn, hb, hb1, k0, k1, q⟩ := h
    refine ⟨_, (pss_cons (ps_expr (pe_call (ok_need_numbers T) (hr.mono (by decide)) (by rfl) T.g_need_numbers T.f_need_numbers.kp T.b_need_numbers .nil pass0 (pa_cons (pe_lst (pa_cons (pv 0) pa_nil)) (pa_cons (pv 2) pa_nil)))) (pss_one (ps_ret (pe_op op_mod (pv 0) (pe_call (ok_power T) (hr.mono (by decide)) (by rfl) T.g_power T.f_power.kp T.b_power .nil pass0 (pa_cons (pv 2) (pa_cons (pv 1) pa_nil))))))), ?_⟩
    refine ⟨_, rfl, szr rfl, fun t ht => ⟨_, rfl, t, [n], b, rfl, sqL_new, ?_, hb, ?_⟩⟩
    · intro z hz
      rw [List.mem_singleton.mp hz]
      exact hn
    refine ⟨_, rfl, _, rfl, _, rfl, b, k, rfl, k0, k1, by omega, hb1, ?_⟩
    refine ⟨_, _, rfl, rfl, (show 0 < b ^ k.toNat from Int.pow_pos (by omega)), ?_⟩
    exact q _ (same_new ht)
def sp_joined : Sp := fun vs H Q _ => ∃ n o b : Int, vs = [V.int n, .int o, .int b] ∧ 0 ≤ n ∧ 0 ≤ o ∧ 2 ≤ b ∧ Sm n ∧ Sm o ∧ b ≤ 10 ^ 31 ∧ (digs b o).length ≤ 400 ∧ ∀ H', Same H H' → Q (.int (n * b ^ (digs b o).length + o)) H'
theorem ok_joined (T : Txt K mg F D C) : FnOk P w K mg base CX0 7 (F 19) (D 19) ["number", "other", "base"] (sp_joined) := by
  refine T.f_joined.ok sc_joined (fun vs H Q E h => ?_) (fun cdv A outer s H vs Q E hr h => ?_)
  · obtain ⟨n, o, b, rfl, hn, ho, hb, sn, so, hb1, hl, q⟩ := h
    rfl
  · obtain ⟨n, o, b, rfl, hn, ho, hb, sn, so, hb1, hl, q⟩ := h
    refine ⟨_, (pss_cons (ps_expr (pe_call (ok_need_numbers T) (hr.mono (by decide)) (by rfl) T.g_need_numbers T.f_need_numbers.kp T.b_need_numbers .nil pass0 (pa_cons (pe_lst (pa_cons (pv 0) (pa_cons (pv 1) pa_nil))) (pa_cons (pv 2) pa_nil)))) (pss_one (ps_ret (pe_op op_add (pe_op op_mulW (pv 0) (pe_call (ok_power T) (hr.mono (by decide)) (by rfl) T.g_power T.f_power.kp T.b_power .nil pass0 (pa_cons (pv 2) (pa_cons (pe_call (ok_many T) (hr.mono (by decide)) (by rfl) T.g_many T.f_many.kp T.b_many .nil pass0 (pa_cons (pv 1) (pa_cons (pv 2) pa_nil))) pa_nil)))) (pv 1))))), ?_⟩
    refine ⟨_, rfl, _, rfl, szr rfl, fun t ht => ⟨_, rfl, t, [n, o], b, rfl, sqL_new, ?_, hb, ?_⟩⟩
    · intro z hz
      rcases List.mem_cons.mp hz with e | hz
      · rw [e]
        exact hn
      · rw [List.mem_singleton.mp hz]
        exact ho
    refine ⟨_, rfl, _, rfl, _, rfl, _, rfl, o, b, rfl, ho, hb, so, sm_of (by omega) (by omega), fun H2 s2 => ?_⟩
    refine ⟨b, _, rfl, by omega, by omega, by omega, hb1, ?_⟩
    refine ⟨_, _, rfl, rfl, ?_, _, rfl, _, _, rfl, rfl, ?_⟩
    · have a := pow_bits (b := b) (by omega) hb1 (digs b o).length
      exact wide_mul (a := 1900) sn a (by omega) (by omega) (by omega)
    · exact q _ ((same_new ht).trans s2)

def sp_ascending : Sp := fun vs H Q _ => ∃ n b : Int, vs = [V.int n, .int b] ∧ 0 ≤ n ∧ 2 ≤ b ∧ Sm n ∧ Sm b ∧ ∀ p H', Same H H' → H p = none → H' p = some (.lst ((srt (digs b n)).map V.int)) → Q (.ref p) H'
theorem ok_ascending (T : Txt K mg F D C) : FnOk P w K mg base CX0 6 (F 9) (D 9) ["number", "base"] (sp_ascending) := by
  refine T.f_ascending.ok sc_ascending (fun vs H Q E h => ?_) (fun cdv A outer s H vs Q E hr h => ?_)
  · obtain ⟨n, b, rfl, hn, hb, sn, sb, q⟩ := h
    rfl
  · obtain ⟨n, b, rfl, hn, hb, sn, sb, q⟩ := h
    refine ⟨_, (pss_one (ps_ret (pe_callB cr_sortedI (by rfl) T.n_sorted Eb.bb_sorted (pa_cons (pe_lc (own := [("one", 2)]) rfl sc_ascending.nd (pi_tup (pe_call (ok_figures_of T) (hr.mono (by decide)) (by rfl) T.g_figures_of T.f_figures_of.kp T.b_figures_of .nil pass0 (pa_cons (pv 0) (pa_cons (pv 1) pa_nil)))) (blkOk_by (N := ["number", "base", "one"]) (sc := defScope s_ascending) (by decide +kernel)) (fun _ _ _ _ _ => (pg_name (i := 2) sc_ascending.nd rfl (.inl rfl))) (fun _ _ _ _ _ => pts_nil) (fun _ _ _ _ _ => (pe_callTy call_int1 (by rfl) T.n_int Eb.bb_int (pa_cons (pv 2) pa_nil)))) pa_nil)))), ?_⟩
    refine ⟨_, rfl, _, rfl, n, b, rfl, hn, hb, sn, sb, fun p H1 s1 hp e => ?_⟩
    refine ⟨p, rfl, ⟨_, sqT_of e⟩, fun D' hD => ?_⟩
    have hl := digs_small hb hn sn
    refine lc_tup (K := K) (a := p) (xs := (digs b n).reverse.map V.int) (fun i H' => H' D' = some (.lst (((digs b n).reverse.take i).map V.int)) ∧ Same H1 H') ⟨upd_same, same_new hD⟩ (fun i H' _ z => sqT_of (z.2 _ _ e)) ?_ ?_
    · rintro i x H' hx ⟨hz, sm⟩
      rw [List.getElem?_map] at hx
      obtain ⟨z, hz', rfl⟩ := Option.map_eq_some_iff.mp hx
      refine ⟨rfl, _, rfl, .inl ⟨_, rfl, _, hz, ?_, ?_, same_mut sm hD⟩⟩
      · rw [List.length_map, List.length_take, List.length_reverse]
        exact szl (by omega)
      · rw [upd_same, List.take_add_one, hz', List.map_append]
        rfl
    · rintro H2 ⟨hz, sm⟩
      rw [List.length_map, List.take_length] at hz
      refine ⟨D', _, rfl, sqL_of hz, fun ys r pm pw hr' => ?_⟩
      rw [srt_eq (pm.trans (List.reverse_perm _)) pw]
      have sA := s1.trans sm
      exact q r _ (sA.trans (same_new hr')) (sA.free hr') upd_same
theorem rev_small {b n : Int} (hb : 2 ≤ b) (hn : 0 ≤ n) (hl : b ^ (digs b n).length ≤ 10 ^ 250) : ∀ i, i ≤ (digs b n).length → Sm (ofs b ((digs b n).take i)) := ofs_smB hb (inB_digs hb hn) hl
def sp_turned : Sp := fun vs H Q _ => ∃ n b : Int, vs = [V.int n, .int b] ∧ 0 ≤ n ∧ 2 ≤ b ∧ Sm n ∧ Sm b ∧ b ^ (digs b n).length ≤ 10 ^ 250 ∧ ∀ H', Same H H' → Q (.int (ofs b (digs b n))) H'
theorem ok_turned (T : Txt K mg F D C) : FnOk P w K mg base CX0 6 (F 10) (D 10) ["number", "base"] (sp_turned) := by
  refine T.f_turned.ok sc_turned (fun vs H Q E h => ?_) (fun cdv A outer s H vs Q E hr h => ?_)
  · obtain ⟨n, b, rfl, hn, hb, sn, sb, hl, q⟩ := h
    rfl
  · obtain ⟨n, b, rfl, hn, hb, sn, sb, hl, q⟩ := h
    refine ⟨_, (pss_one (ps_ret (pe_call (ok_put_together T) (hr.mono (by decide)) (by rfl) T.g_put_together T.f_put_together.kp T.b_put_together .nil pass0 (pa_cons (pe_revT (pe_call (ok_figures_of T) (hr.mono (by decide)) (by rfl) T.g_figures_of T.f_figures_of.kp T.b_figures_of .nil pass0 (pa_cons (pv 0) (pa_cons (pv 1) pa_nil)))) (pa_cons (pv 1) pa_nil))))), ?_⟩
    refine ⟨_, rfl, _, rfl, n, b, rfl, hn, hb, sn, sb, fun p H1 s1 hp e => ?_⟩
    refine ⟨p, _, rfl, sqT_of e, fun t ht => ?_⟩
    refine ⟨_, rfl, t, digs b n, b, rfl, .inr ?_, sb, rev_small hb hn hl, ?_⟩
    · rw [List.map_reverse, List.reverse_reverse]
      exact sqT_new
    · exact q _ (s1.trans (same_new ht))
theorem srt_small {b n : Int} (hb : 2 ≤ b) (hn : 0 ≤ n) (hl : b ^ (digs b n).length ≤ 10 ^ 250) : InB b (srt (digs b n)) ∧ b ^ (srt (digs b n)).length ≤ 10 ^ 250 := by
  refine ⟨fun x hx => inB_digs hb hn x ((srt_perm _).mem_iff.mp hx), ?_⟩
  rw [(srt_perm _).length_eq]
  exact hl
def sp_least : Sp := fun vs H Q _ => ∃ n b : Int, vs = [V.int n, .int b] ∧ 0 ≤ n ∧ 2 ≤ b ∧ Sm n ∧ Sm b ∧ b ^ (digs b n).length ≤ 10 ^ 250 ∧ ∀ H', Same H H' → Q (.int (ofs b (srt (digs b n)))) H'
theorem ok_least (T : Txt K mg F D C) : FnOk P w K mg base CX0 7 (F 11) (D 11) ["number", "base"] (sp_least) := by
  refine T.f_least.ok sc_least (fun vs H Q E h => ?_) (fun cdv A outer s H vs Q E hr h => ?_)
  · obtain ⟨n, b, rfl, hn, hb, sn, sb, hl, q⟩ := h
    rfl
  · obtain ⟨n, b, rfl, hn, hb, sn, sb, hl, q⟩ := h
    refine ⟨_, (pss_one (ps_ret (pe_call (ok_put_together T) (hr.mono (by decide)) (by rfl) T.g_put_together T.f_put_together.kp T.b_put_together .nil pass0 (pa_cons (pe_call (ok_ascending T) (hr.mono (by decide)) (by rfl) T.g_ascending T.f_ascending.kp T.b_ascending .nil pass0 (pa_cons (pv 0) (pa_cons (pv 1) pa_nil))) (pa_cons (pv 1) pa_nil))))), ?_⟩
    refine ⟨_, rfl, _, rfl, n, b, rfl, hn, hb, sn, sb, fun p H1 s1 hp e => ?_⟩
    have z := srt_small hb hn hl
    exact ⟨_, rfl, p, _, b, rfl, .inl (sqL_of e), sb, ofs_smB hb z.1 z.2, q _ s1⟩
def sp_greatest : Sp := fun vs H Q _ => ∃ n b : Int, vs = [V.int n, .int b] ∧ 0 ≤ n ∧ 2 ≤ b ∧ Sm n ∧ Sm b ∧ b ^ (digs b n).length ≤ 10 ^ 250 ∧ ∀ H', Same H H' → Q (.int (ofs b (srt (digs b n)).reverse)) H'
theorem ok_greatest (T : Txt K mg F D C) : FnOk P w K mg base CX0 7 (F 12) (D 12) ["number", "base"] (sp_greatest) := by
  refine T.f_greatest.ok sc_greatest (fun vs H Q E h => ?_) (fun cdv A outer s H vs Q E hr h => ?_)
  · obtain ⟨n, b, rfl, hn, hb, sn, sb, hl, q⟩ := h
    rfl
  · obtain ⟨n, b, rfl, hn, hb, sn, sb, hl, q⟩ := h
    refine ⟨_, (pss_one (ps_ret (pe_call (ok_put_together T) (hr.mono (by decide)) (by rfl) T.g_put_together T.f_put_together.kp T.b_put_together .nil pass0 (pa_cons (pe_revL (pe_call (ok_ascending T) (hr.mono (by decide)) (by rfl) T.g_ascending T.f_ascending.kp T.b_ascending .nil pass0 (pa_cons (pv 0) (pa_cons (pv 1) pa_nil)))) (pa_cons (pv 1) pa_nil))))), ?_⟩
    refine ⟨_, rfl, _, rfl, n, b, rfl, hn, hb, sn, sb, fun p H1 s1 hp e => ?_⟩
    have z := srt_small hb hn hl
    refine ⟨p, _, rfl, sqL_of e, fun t ht => ?_⟩
    refine ⟨_, rfl, t, (srt (digs b n)).reverse, b, rfl, .inl ?_, sb, ofs_smB hb z.1.reverse (by rw [List.length_reverse]; exact z.2), q _ (s1.trans (same_new ht))⟩
    rw [List.map_reverse]
    exact sqL_new
def sp_mirrored : Sp := fun vs H Q _ => ∃ n b : Int, vs = [V.int n, .int b] ∧ 0 ≤ n ∧ 2 ≤ b ∧ Sm n ∧ Sm b ∧ ∀ H', Same H H' → Q (.bl (decide ((digs b n).reverse = digs b n))) H'
theorem ok_mirrored (T : Txt K mg F D C) : FnOk P w K mg base CX0 6 (F 20) (D 20) ["number", "base"] (sp_mirrored) := by
  refine T.f_mirrored.ok sc_mirrored (fun vs H Q E h => ?_) (fun cdv A outer s H vs Q E hr h => ?_)
  · obtain ⟨n, b, rfl, hn, hb, sn, sb, q⟩ := h
    rfl
  · obtain ⟨n, b, rfl, hn, hb, sn, sb, q⟩ := h
    refine ⟨_, (pss_cons (ps_set (i := 2) sc_mirrored.nd rfl (.inl rfl) (pe_call (ok_figures_of T) (hr.mono (by decide)) (by rfl) T.g_figures_of T.f_figures_of.kp T.b_figures_of .nil pass0 (pa_cons (pv 0) (pa_cons (pv 1) pa_nil)))) (pss_one (ps_ret (pe_cmpR (op_eqT hr.units) (pv 2) (pe_revT (pv 2)) (nomark _))))), ?_⟩
    refine ⟨_, rfl, _, rfl, n, b, rfl, hn, hb, sn, sb, fun p H1 s1 hp e => ?_⟩
    refine ⟨_, rfl, _, rfl, p, _, rfl, sqT_of e, fun t ht => ?_⟩
    have s2 := same_new (o := .tup ((digs b n).reverse.map V.int).reverse) ht
    refine ⟨p, t, (digs b n).reverse, digs b n, rfl, rfl, sqT_of (s2 _ _ e), ?_, q _ (s1.trans s2)⟩
    rw [List.map_reverse, List.reverse_reverse]
    exact sqT_new
def sp_unlike : Sp := fun vs H Q _ => ∃ n b : Int, vs = [V.int n, .int b] ∧ 0 ≤ n ∧ 2 ≤ b ∧ Sm n ∧ Sm b ∧ ∀ H', Same H H' → Q (.bl (decide (digs b n).Nodup)) H'
theorem ok_unlike (T : Txt K mg F D C) : FnOk P w K mg base CX0 6 (F 21) (D 21) ["number", "base"] (sp_unlike) := by
  refine T.f_unlike.ok sc_unlike (fun vs H Q E h => ?_) (fun cdv A outer s H vs Q E hr h => ?_)
  · obtain ⟨n, b, rfl, hn, hb, sn, sb, q⟩ := h
    rfl
  · obtain ⟨n, b, rfl, hn, hb, sn, sb, q⟩ := h
    refine ⟨_, (pss_cons (ps_set (i := 2) sc_unlike.nd rfl (.inl rfl) (pe_call (ok_figures_of T) (hr.mono (by decide)) (by rfl) T.g_figures_of T.f_figures_of.kp T.b_figures_of .nil pass0 (pa_cons (pv 0) (pa_cons (pv 1) pa_nil)))) (pss_one (ps_ret (pe_cmpR op_eq (pe_lenSetT (by rfl) T.n_len (by rfl) T.n_set (pv 2)) (pe_callB call_len_seq (by rfl) T.n_len Eb.bb_len (pa_cons (pv 2) pa_nil)) (nomark _))))), ?_⟩
    refine ⟨_, rfl, _, rfl, n, b, rfl, hn, hb, sn, sb, fun p H1 s1 hp e => ?_⟩
    have hl := digs_small hb hn sn
    refine ⟨_, rfl, p, _, rfl, sqT_of e, by rw [List.length_reverse]; omega, fun ks nd mem => ?_⟩
    refine ⟨_, rfl, p, _, rfl, .inr (sqT_of e), rfl, ?_⟩
    have u := unlike_len (digs b n).reverse ks nd mem
    have e2 : decide (V.int (ks.length : Int) = V.int (((digs b n).reverse.map V.int).length : Int)) = decide (digs b n).Nodup := by
      rw [List.length_map]
      by_cases c : (digs b n).Nodup
      · rw [decide_eq_true c, decide_eq_true]
        rw [u.2.mpr ((List.reverse_perm _).nodup_iff.mpr c)]
      · rw [decide_eq_false c, decide_eq_false]
        intro z
        have z' := V.int.inj z
        exact c ((List.reverse_perm _).nodup_iff.mp (u.2.mp (by omega)))
    show Q (.bl (decide (V.int (ks.length : Int) = V.int (((digs b n).reverse.map V.int).length : Int)))) H1
    rw [e2]
    exact q _ s1

theorem kit_list {K : PySem.W.Frag} : PySem.W.kitAny K (.type "list") [.type "list", .type "tuple"] = some true := kitAny_cons (b := true) (kit_ty (by decide +kernel)) (fun h => nomatch h) (fun _ => rfl)
theorem kit_tuple {K : PySem.W.Frag} : PySem.W.kitAny K (.type "tuple") [.type "list", .type "tuple"] = some true := kitAny_cons (b := false) (kit_ty (by decide +kernel)) (fun _ => kitAny_cons (b := true) (kit_ty (by decide +kernel)) (fun h => nomatch h) (fun _ => rfl)) (fun h => nomatch h)
/-- number_of: of a list or a tuple of figures -/
def sp_number_of : Sp := fun vs H Q _ => ∃ (a : Addr) (xs : List Int) (b : Int), vs = [V.ref a, .int b] ∧ (H a = some (.lst (xs.map V.int)) ∨ H a = some (.tup (xs.map V.int))) ∧ xs ≠ [] ∧ InB b xs ∧ 2 ≤ b ∧ Sm b ∧ b ^ xs.length ≤ 10 ^ 250 ∧ ∀ H', Same H H' → Q (.int (ofs b xs)) H'
theorem ok_number_of (T : Txt K mg F D C) : FnOk P w K mg base CX0 4 (F 8) (D 8) ["figures", "base"] sp_number_of := by
  refine T.f_number_of.ok sc_number_of (fun vs H Q E h => ?_) (fun cdv A outer s H vs Q E hr h => ?_)
  · obtain ⟨a, xs, b, rfl, _⟩ := h
    rfl
  · obtain ⟨a, xs, b, rfl, hs | hs, hne, inb, hb, sb, hl, q⟩ := h
    · refine ⟨_, (pss_cons (ps_expr (pe_call (ok_need_base T) (hr.mono (by decide)) (by rfl) T.g_need_base T.f_need_base.kp T.b_need_base .nil pass0 (pa_cons (pv 1) pa_nil))) (pss_cons (ps_if (PW.pt (pw_or (pt_not (pt_val (pe_callB call_isiT (by rfl) T.n_isinstance Eb.bb_isinstance (pa_cons (pv 0) (pa_cons (pe_tup (pa_cons (pe_bltn (v := .ty "list") (by rfl) T.n_list Eb.bb_list rfl) (pa_cons (pe_bltn (v := .ty "tuple") (by rfl) T.n_tuple Eb.bb_tuple rfl) pa_nil))) pa_nil))))) (pw_or1 (pt_cmpR op_eq (pe_callB call_len_seq (by rfl) T.n_len Eb.bb_len (pa_cons (pv 0) pa_nil)) pe_int (nomark _))))) (pss_one ps_never) pss_nil) (pss_cons (ps_for PassesOwn.never rfl (pi_enum (by rfl) T.n_enumerate (pa_cons (pv 0) pa_nil)) (pg_tup rfl (pgs_cons (pg_name (i := 2) sc_number_of.nd rfl (.inl rfl)) (pgs_cons (pg_name (i := 3) sc_number_of.nd rfl (.inl rfl)) pgs_nil))) (pss_one (ps_if (PW.pt (pw_or (pt_not (pt_val (pe_call (ok_is_integer T) (hr.mono (by decide)) (by rfl) T.g_is_integer T.f_is_integer.kp T.b_is_integer .nil pass0 (pa_cons (pv 3) pa_nil)))) (pw_or1 (pt_not (pt_chain op_le op_lt pe_int (pv 3) (pv 1)))))) (pss_one ps_never) pss_nil))) (pss_one (ps_ret (pe_call (ok_put_together T) (hr.mono (by decide)) (by rfl) T.g_put_together T.f_put_together.kp T.b_put_together .nil pass0 (pa_cons (pv 0) (pa_cons (pv 1) pa_nil)))))))), ?_⟩
      refine ⟨_, rfl, b, rfl, hb, ?_⟩
      -- isinstance(figures, (list, tuple)), len(figures) == 0
      refine ⟨_, rfl, szr rfl, fun t ht => ?_⟩
      have s1 := same_new (o := .tup [.ty "list", .ty "tuple"]) ht
      refine ⟨_, t, _, _, [.type "list", .type "tuple"], true, rfl, upd_same, .cons (.ty _) (.cons (.ty _) .nil), .base (.lst (s1 _ _ hs)), kit_list, true, rfl, iteF ?_⟩
      refine ⟨_, rfl, a, _, rfl, .inl (sqL_of (s1 _ _ hs)), rfl, _, rfl, ?_⟩
      have ne0 : ¬ (V.int (((xs.map V.int).length : Nat) : Int) = V.int 0) := fun z => by
        have z' := V.int.inj z
        rw [List.length_map] at z'
        exact hne (List.length_eq_zero_iff.mp (by omega))
      show (if decide (V.int (((xs.map V.int).length : Nat) : Int) = V.int 0) = true then _ else _)
      rw [decide_eq_false ne0]
      refine iteF ?_
      refine ⟨_, rfl, a, _, rfl, sqL_of (s1 _ _ hs), for_it (walk_enum (K := K) (a := a) (xs := xs.map V.int)) (fun i σ H' => ∃ v w, σ = [some (.ref a), some (.int b), v, w] ∧ Same H H') ⟨none, none, rfl, s1⟩ ?_ ?_ ?_⟩
      · rintro i σ H' _ ⟨v, w, rfl, sm⟩
        exact sqL_of (sm _ _ hs)
      · rintro i x σ H1 H2 hi ⟨v, w, rfl, sm⟩ ⟨t2, x1, x2, rfl, ht2, rfl, e1, e2⟩
        cases Option.some.inj e1
        replace e2 : (xs.map V.int)[i]? = some x2 := e2
        rw [List.getElem?_map] at e2
        obtain ⟨z, hz, rfl⟩ := Option.map_eq_some_iff.mp e2
        have hz2 := inb z (List.mem_of_getElem? hz)
        refine ⟨t2, _, rfl, sqT_new, rfl, _, _, rfl, _, _, rfl, rfl, ?_⟩
        refine ⟨_, rfl, z, rfl, true, rfl, iteF ?_⟩
        refine ⟨_, rfl, _, _, rfl, rfl, _, rfl, ?_⟩
        rw [decide_eq_true hz2.1]
        refine iteT ?_
        refine ⟨_, rfl, _, _, rfl, rfl, _, rfl, ?_⟩
        rw [decide_eq_true hz2.2]
        exact iteF ⟨_, _, rfl, sm.trans (same_new ht2)⟩
      · rintro σ H' ⟨v, w, rfl, sm⟩
        exact ⟨_, rfl, _, rfl, a, xs, b, rfl, .inl (sqL_of (sm _ _ hs)), sb, ofs_smB hb inb hl, q _ sm⟩
    · refine ⟨_, (pss_cons (ps_expr (pe_call (ok_need_base T) (hr.mono (by decide)) (by rfl) T.g_need_base T.f_need_base.kp T.b_need_base .nil pass0 (pa_cons (pv 1) pa_nil))) (pss_cons (ps_if (PW.pt (pw_or (pt_not (pt_val (pe_callB call_isiT (by rfl) T.n_isinstance Eb.bb_isinstance (pa_cons (pv 0) (pa_cons (pe_tup (pa_cons (pe_bltn (v := .ty "list") (by rfl) T.n_list Eb.bb_list rfl) (pa_cons (pe_bltn (v := .ty "tuple") (by rfl) T.n_tuple Eb.bb_tuple rfl) pa_nil))) pa_nil))))) (pw_or1 (pt_cmpR op_eq (pe_callB call_len_seq (by rfl) T.n_len Eb.bb_len (pa_cons (pv 0) pa_nil)) pe_int (nomark _))))) (pss_one ps_never) pss_nil) (pss_cons (ps_for PassesOwn.never rfl (pi_enumT (by rfl) T.n_enumerate (pa_cons (pv 0) pa_nil)) (pg_tup rfl (pgs_cons (pg_name (i := 2) sc_number_of.nd rfl (.inl rfl)) (pgs_cons (pg_name (i := 3) sc_number_of.nd rfl (.inl rfl)) pgs_nil))) (pss_one (ps_if (PW.pt (pw_or (pt_not (pt_val (pe_call (ok_is_integer T) (hr.mono (by decide)) (by rfl) T.g_is_integer T.f_is_integer.kp T.b_is_integer .nil pass0 (pa_cons (pv 3) pa_nil)))) (pw_or1 (pt_not (pt_chain op_le op_lt pe_int (pv 3) (pv 1)))))) (pss_one ps_never) pss_nil))) (pss_one (ps_ret (pe_call (ok_put_together T) (hr.mono (by decide)) (by rfl) T.g_put_together T.f_put_together.kp T.b_put_together .nil pass0 (pa_cons (pv 0) (pa_cons (pv 1) pa_nil)))))))), ?_⟩
      refine ⟨_, rfl, b, rfl, hb, ?_⟩
      refine ⟨_, rfl, szr rfl, fun t ht => ?_⟩
      have s1 := same_new (o := .tup [.ty "list", .ty "tuple"]) ht
      refine ⟨_, t, _, _, [.type "list", .type "tuple"], true, rfl, upd_same, .cons (.ty _) (.cons (.ty _) .nil), .base (.tup (s1 _ _ hs)), kit_tuple, true, rfl, iteF ?_⟩
      refine ⟨_, rfl, a, _, rfl, .inr (sqT_of (s1 _ _ hs)), rfl, _, rfl, ?_⟩
      have ne0 : ¬ (V.int (((xs.map V.int).length : Nat) : Int) = V.int 0) := fun z => by
        have z' := V.int.inj z
        rw [List.length_map] at z'
        exact hne (List.length_eq_zero_iff.mp (by omega))
      show (if decide (V.int (((xs.map V.int).length : Nat) : Int) = V.int 0) = true then _ else _)
      rw [decide_eq_false ne0]
      refine iteF ?_
      refine ⟨_, rfl, a, _, rfl, sqT_of (s1 _ _ hs), for_it (walk_enumT (K := K) (a := a) (xs := xs.map V.int)) (fun i σ H' => ∃ v w, σ = [some (.ref a), some (.int b), v, w] ∧ Same H H') ⟨none, none, rfl, s1⟩ ?_ ?_ ?_⟩
      · rintro i σ H' _ ⟨v, w, rfl, sm⟩
        exact sqT_of (sm _ _ hs)
      · rintro i x σ H1 H2 hi ⟨v, w, rfl, sm⟩ ⟨t2, x1, x2, rfl, ht2, rfl, e1, e2⟩
        cases Option.some.inj e1
        replace e2 : (xs.map V.int)[i]? = some x2 := e2
        rw [List.getElem?_map] at e2
        obtain ⟨z, hz, rfl⟩ := Option.map_eq_some_iff.mp e2
        have hz2 := inb z (List.mem_of_getElem? hz)
        refine ⟨t2, _, rfl, sqT_new, rfl, _, _, rfl, _, _, rfl, rfl, ?_⟩
        refine ⟨_, rfl, z, rfl, true, rfl, iteF ?_⟩
        refine ⟨_, rfl, _, _, rfl, rfl, _, rfl, ?_⟩
        rw [decide_eq_true hz2.1]
        refine iteT ?_
        refine ⟨_, rfl, _, _, rfl, rfl, _, rfl, ?_⟩
        rw [decide_eq_true hz2.2]
        exact iteF ⟨_, _, rfl, sm.trans (same_new ht2)⟩
      · rintro σ H' ⟨v, w, rfl, sm⟩
        exact ⟨_, rfl, _, rfl, a, xs, b, rfl, .inr (sqT_of (sm _ _ hs)), sb, ofs_smB hb inb hl, q _ sm⟩

theorem last_split {xs : List Int} {z : Int} (h : xs.getLast? = some z) : xs = xs.dropLast ++ [z] := by
  obtain ⟨ys, rfl⟩ := List.getLast?_eq_some_iff.mp h
  simp
theorem last_at {xs : List Int} {z : Int} (h : xs.getLast? = some z) : atI (xs.map V.int) (-1) = some (.int z) := by
  rw [last_split h, List.map_append]
  exact atI_last _ _
theorem last_get {xs : List Int} {z : Int} (h : xs.getLast? = some z) : (xs.map V.int)[(xs.map V.int).length - 1]? = some (.int z) := by
  rw [← List.getLast?_eq_getElem?, List.getLast?_map, h]
  rfl
theorem last_none {xs : List Int} (h : xs ≠ []) : ∃ z, xs.getLast? = some z := ⟨xs.getLast h, List.getLast?_eq_getLast h⟩
def sp_draw : Sp := fun vs H Q _ => ∃ (d l : Addr) (n : Int), vs = [V.ref d, .int n] ∧ Deal H d l ∧ 0 < n ∧ Sm n ∧ ∀ r H', 0 ≤ r → r < n → Drew d l H H' → Q (.int r) H'
theorem ok__law_draw (T : Txt K mg F D C) : FnOk P w K mg base CX0 1 (F 23) (D 23) ["_law_deal_here", "_law_span"] (sp_draw) := by
  refine T.f__law_draw.ok sc__law_draw (fun vs H Q E h => ?_) (fun cdv A outer s H vs Q E hr h => ?_)
  · obtain ⟨d, l, n, rfl, D0, hn, sn, q⟩ := h
    rfl
  · obtain ⟨d, l, n, rfl, D0, hn, sn, q⟩ := h
    refine ⟨_, (pss_cons (ps_while PassesOwn.never (PW.pt (pw_and (pt_cmpR (op_neL hr.units) (pe_ix ix_list (pv 0) pe_int (fun _ _ => rfl)) (pe_lst pa_nil) (nomark _)) (pw_and1 (pt_cmpR op_eq (pe_ix ix_list (pe_ix ix_list (pv 0) pe_int (fun _ _ => rfl)) (pe_un un_neg pe_int) (fun _ _ => rfl)) pe_int (nomark _))))) (pss_one (ps_expr (pe_bm0 PySem.F.plainAttrs_list PySem.F.slot_list_pop PySem.F.type_list_pop mt_pop (pe_ix ix_list (pv 0) pe_int (fun _ _ => rfl)))))) (pss_cons (ps_if (pt_cmpR (op_neL hr.units) (pe_ix ix_list (pv 0) pe_int (fun _ _ => rfl)) (pe_lst pa_nil) (nomark _)) (pss_cons (ps_set (i := 2) sc__law_draw.nd rfl (.inl rfl) (pe_bm0 PySem.F.plainAttrs_list PySem.F.slot_list_pop PySem.F.type_list_pop mt_pop (pe_ix ix_list (pv 0) pe_int (fun _ _ => rfl)))) (pss_cons (ps_expr (pe_bm PySem.F.plainAttrs_list PySem.F.slot_list_append PySem.F.type_list_append mt_append (pe_ix ix_list (pv 0) pe_int (fun _ _ => rfl)) (pa_cons (pe_op op_fdivX (pv 2) (pv 1)) pa_nil))) (pss_one (ps_ret (pe_op op_mod (pe_callTy call_int1 (by rfl) T.n_int Eb.bb_int (pa_cons (pv 2) pa_nil)) (pv 1)))))) pss_nil) (pss_cons (ps_asg (pe_op op_mod (pe_callTy call_int1 (by rfl) T.n_int Eb.bb_int (pa_cons (pe_op op_mulW (pe_ix ix_list (pv 0) pe_int (fun _ _ => rfl)) pe_int) pa_nil)) pe_int) (pg_sub (pv 0) pe_int set_list)) (pss_one (ps_ret (pe_op op_mod (pe_callTy call_int1 (by rfl) T.n_int Eb.bb_int (pa_cons (pe_op op_fdivX (pe_ix ix_list (pv 0) pe_int (fun _ _ => rfl)) pe_int) pa_nil)) (pv 1))))))), ?_⟩
    have ne : d ≠ l := D0.ne
    -- while deal[0] != [] and deal[0][-1] == 0: deal[0].pop()
    refine whl (fun m σ H' => ∃ (xs : List Int) (k : Int), σ = [some (.ref d), some (.int n), none] ∧ m = xs.length ∧ xs.length ≤ 63 ∧ H' d = some (.lst [.ref l, .int k]) ∧ H' l = some (.lst (xs.map V.int)) ∧ 0 ≤ k ∧ k < 2147483647 ∧ Grow [d, l] H H')
      (Classical.choose D0.ex).length ?_ ?_
    · obtain ⟨k, h1, h2, h3, h4, h5⟩ := Classical.choose_spec D0.ex
      exact ⟨_, k, rfl, rfl, h3, h1, h2, h4, h5, Grow.refl _ _⟩
    rintro m σ H' ⟨xs, k, rfl, rfl, hx, h1, h2, hk, hk2, g⟩
    refine by_ans (decide (xs.getLast? = some 0)) (fun Q' k' => ?_) (fun H1 s1 => ?_)
    · refine ⟨_, rfl, d, _, _, .ref l, rfl, rfl, sqL_of h1, rfl, szr rfl, fun p hp => ?_⟩
      have s1 : Same H' (upd H' p (.lst [])) := same_new hp
      refine ⟨l, p, xs, [], rfl, rfl, s1.seq (sqL_of h2), sqL_new, _, rfl, ?_⟩
      by_cases e : xs = []
      · subst e
        exact iteF (k' _ s1)
      · obtain ⟨z, hz⟩ := last_none e
        rw [decide_eq_false e]
        refine iteT ?_
        refine ⟨_, rfl, d, _, _, .ref l, rfl, rfl, sqL_of (s1 _ _ h1), rfl, 1, rfl, l, _, _, _, rfl, rfl, sqL_of (s1 _ _ h2), last_at hz, rfl, _, rfl, ?_⟩
        have e3 : decide (V.int z = V.int 0) = decide (xs.getLast? = some 0) := by
          rw [hz]
          by_cases c : z = 0
          · subst c; rfl
          · rw [decide_eq_false (fun y => c (V.int.inj y)), decide_eq_false (fun y => c (Option.some.inj y))]
        show Q' (decide (V.int z = V.int 0)) _
        rw [e3]
        exact k' _ s1
    replace h1 := s1 _ _ h1
    replace h2 := s1 _ _ h2
    replace g := g.same s1
    by_cases e : xs.getLast? = some 0
    · rw [decide_eq_true e]
      refine iteT (turn_of ?_)
      refine ⟨_, rfl, d, _, _, .ref l, rfl, rfl, sqL_of h1, rfl, .inl ⟨rfl, _, sqL_of h2⟩, l, _, _, rfl, rfl, h2, last_get e, ?_⟩
      have hl : 0 < xs.length := List.length_pos_iff.mpr (fun z => by subst z; cases e)
      refine ⟨xs.length - 1, by omega, xs.dropLast, k, rfl, by simp, by simp; omega, ?_, ?_, hk, hk2, g.at (by simp)⟩
      · rw [upd_ne ne]
        exact h1
      · rw [upd_same, List.map_dropLast]
    · rw [decide_eq_false e]
      refine iteF ?_
      have D1 : Deal H1 d l := ⟨xs, k, h1, h2, hx, hk, hk2⟩
      -- if deal[0] != []
      refine ⟨_, rfl, d, _, _, .ref l, rfl, rfl, sqL_of h1, rfl, szr rfl, fun p hp => ?_⟩
      have s2 : Same H1 (upd H1 p (.lst [])) := same_new hp
      generalize hH2 : upd H1 p (.lst []) = H2 at s2
      have hp2 : H2 p = some (.lst []) := by rw [← hH2]; exact upd_same
      replace h1 := s2 _ _ h1
      replace h2 := s2 _ _ h2
      replace g := g.same s2
      refine ⟨l, p, xs, [], rfl, rfl, sqL_of h2, sqL_of hp2, _, rfl, ?_⟩
      by_cases e2 : xs = []
      · subst e2
        refine iteF ?_
        -- deal[1] = int(deal[1] * 48271) % 2147483647
        refine ⟨_, rfl, d, _, _, .int k, rfl, rfl, sqL_of h1, rfl, _, _, rfl, rfl, mulW (sm_of hk (by omega)) (sm_of (by decide) (by decide)), .inl ⟨_, rfl, ?_⟩⟩
        refine ⟨_, _, rfl, rfl, (show (0 : Int) < 2147483647 by decide), ?_⟩
        refine ⟨_, rfl, d, _, _, 1, rfl, rfl, h1, rfl, ?_⟩
        have b0 : 0 ≤ k * 48271 % 2147483647 := by omega
        have b1 : k * 48271 % 2147483647 < 2147483647 := by omega
        -- return int(deal[1] // 8) % span
        refine ⟨_, rfl, d, _, _, _, rfl, rfl, sqL_of upd_same, rfl, _, _, rfl, rfl, divW (by decide) (sm_of (by decide) (by decide)), .inl ⟨_, rfl, ?_⟩⟩
        refine ⟨_, rfl, _, _, rfl, rfl, hn, ?_⟩
        refine q _ _ (Int.emod_nonneg _ (by omega)) (Int.emod_lt_of_pos _ hn) ⟨⟨[], _, upd_same, ?_, hx, b0, b1⟩, g.at (by simp)⟩
        rw [upd_ne ne.symm]
        exact h2
      · rw [decide_eq_false e2]
        refine iteT ?_
        obtain ⟨z, hz⟩ := last_none e2
        have hl : 0 < xs.length := List.length_pos_iff.mpr e2
        -- left = deal[0].pop()
        refine ⟨_, rfl, d, _, _, .ref l, rfl, rfl, sqL_of h1, rfl, .inl ⟨rfl, _, sqL_of h2⟩, l, _, _, rfl, rfl, h2, last_get hz, ?_⟩
        have h1' : upd H2 l (.lst ((xs.map V.int).dropLast)) d = some (.lst [.ref l, .int k]) := by rw [upd_ne ne]; exact h1
        -- deal[0].append(left // span)
        refine ⟨_, rfl, d, _, _, .ref l, rfl, rfl, sqL_of h1', rfl, .inl ⟨rfl, _, sqL_of upd_same⟩, _, rfl, _, rfl, _, _, rfl, rfl, divW hn sn, l, _, _, rfl, rfl, upd_same, ?_, ?_⟩
        · rw [List.length_dropLast, List.length_map]
          exact szl (by omega)
        -- return int(left) % span
        refine ⟨_, rfl, .inl ⟨_, rfl, ?_⟩⟩
        refine ⟨_, rfl, _, _, rfl, rfl, hn, ?_⟩
        refine q _ _ (Int.emod_nonneg _ (by omega)) (Int.emod_lt_of_pos _ hn) ⟨⟨xs.dropLast ++ [z / n], k, ?_, ?_, ?_, hk, hk2⟩, (g.at (by simp)).at (by simp)⟩
        · rw [upd_ne ne]
          exact h1'
        · rw [upd_same, List.map_append, List.map_dropLast]
          rfl
        · rw [List.length_append, List.length_dropLast]
          simp
          omega
/-- one of some things -/
def sp_pick (K : PySem.W.Frag) : Sp := fun vs H Q _ => ∃ (d l a : Addr) (xs : List V), vs = [V.ref d, .ref a] ∧ Deal H d l ∧ SqL K H a xs ∧ a ∉ [d, l] ∧ 0 < xs.length ∧ xs.length ≤ 100000 ∧ ∀ v H', v ∈ xs → Drew d l H H' → Q v H'
theorem ok__law_pick (T : Txt K mg F D C) : FnOk P w K mg base CX0 2 (F 24) (D 24) ["_law_deal_here", "_law_some"] (sp_pick K) := by
  refine T.f__law_pick.ok sc__law_pick (fun vs H Q E h => ?_) (fun cdv A outer s H vs Q E hr h => ?_)
  · obtain ⟨d, l, a, xs, rfl, D0, hs, na, h0, h1, q⟩ := h
    rfl
  · obtain ⟨d, l, a, xs, rfl, D0, hs, na, h0, h1, q⟩ := h
    refine ⟨_, (pss_one (ps_ret (pe_ix ix_list (pv 1) (pe_call (ok__law_draw T) (hr.mono (by decide)) (by rfl) T.g__law_draw T.f__law_draw.kp T.b__law_draw .nil pass0 (pa_cons (pv 0) (pa_cons (pe_callB call_len_seq (by rfl) T.n_len Eb.bb_len (pa_cons (pv 1) pa_nil)) pa_nil))) (fun _ _ => rfl)))), ?_⟩
    refine ⟨_, rfl, _, rfl, _, rfl, a, _, rfl, .inl hs, d, l, _, rfl, D0, (show (0 : Int) < (xs.length : Int) by omega), sm_of (by omega) (by omega), fun r H' r0 r1 dr => ?_⟩
    have hr : r.toNat < xs.length := by omega
    refine ⟨a, _, _, xs[r.toNat], rfl, rfl, dr.seqL na hs, at_of (j := r.toNat) (by omega) (List.getElem?_eq_getElem hr), ?_⟩
    exact q _ _ (List.getElem_mem hr) dr
theorem cut_ints (ns : List Int) (l h : Option Int) : ∃ ms : List Int, cutV (ns.map V.int) l h = ms.map V.int ∧ ms.length ≤ ns.length := by
  unfold cutV
  refine ⟨(ns.drop (HT.sIx (ns.map V.int).length 0 l)).take (HT.sIx (ns.map V.int).length (ns.map V.int).length h - HT.sIx (ns.map V.int).length 0 l), ?_, ?_⟩
  · rw [List.map_take, List.map_drop]
  · rw [List.length_take, List.length_drop]
    omega
/-- the source of draws: new -/
def sp_deal (K : PySem.W.Frag) : Sp := fun vs H Q _ => ∃ (a : Addr) (ns : List Int) (k : Int), vs = [V.ref a, .int k] ∧ SqL K H a (ns.map V.int) ∧ ns.length ≤ 63 ∧ 0 ≤ k ∧ k ≤ 1000 ∧ ∀ d l H', Same H H' → H d = none → H l = none → Deal H' d l → Q (.ref d) H'
theorem ok__law_deal (T : Txt K mg F D C) : FnOk P w K mg base CX0 1 (F 22) (D 22) ["_law_script", "_law_base_here"] (sp_deal K) := by
  refine T.f__law_deal.ok sc__law_deal (fun vs H Q E h => ?_) (fun cdv A outer s H vs Q E hr h => ?_)
  · obtain ⟨a, ns, k, rfl, hs, hn, k0, k1, q⟩ := h
    rfl
  · obtain ⟨a, ns, k, rfl, hs, hn, k0, k1, q⟩ := h
    refine ⟨_, (pss_cons (ps_setLc (i := 3) (own := [("_law_cell", 2)]) rfl sc__law_deal.nd rfl rfl (sw_true rfl rfl rfl (by decide +kernel)) (pi_list (pe_slice sl_list (pv 0) (po_some (pv 1)) (po_some pe_int))) (blkOk_by (N := ["_law_script", "_law_base_here", "_law_cell", "_law_cells", "_law_blend"]) (sc := defScope s__law_deal) (by decide +kernel)) (fun _ _ _ _ _ => (pg_name (i := 2) sc__law_deal.nd rfl (.inl rfl))) (fun _ _ _ _ _ => pts_nil) (fun _ _ _ _ _ => (pe_ifExp (pt_cmpR op_gt (pv 2) pe_int (nomark _)) (pv 2) (pe_op op_sub pe_int (pv 2))))) (pss_cons (ps_set (i := 4) sc__law_deal.nd rfl (.inl rfl) (pe_op op_add pe_int (pe_op op_mulW pe_int (pv 1)))) (pss_cons (ps_for PassesOwn.never rfl (pi_list (pv 3)) (pg_name (i := 2) sc__law_deal.nd rfl (.inl rfl)) (pss_one (ps_set (i := 4) sc__law_deal.nd rfl (.inl rfl) (pe_op op_mod (pe_callTy call_int1 (by rfl) T.n_int Eb.bb_int (pa_cons (pe_op op_add (pe_op op_mulW (pv 4) pe_int) (pe_op op_mod (pe_callTy call_int1 (by rfl) T.n_int Eb.bb_int (pa_cons (pv 2) pa_nil)) pe_int)) pa_nil)) pe_int)))) (pss_one (ps_ret (pe_lst (pa_cons (pe_revL (pe_lc (own := [("_law_cell", 2)]) rfl sc__law_deal.nd (pi_list (pv 3)) (blkOk_by (N := ["_law_script", "_law_base_here", "_law_cell", "_law_cells", "_law_blend"]) (sc := defScope s__law_deal) (by decide +kernel)) (fun _ _ _ _ _ => (pg_name (i := 2) sc__law_deal.nd rfl (.inl rfl))) (fun _ _ _ _ _ => (pts_one (pt_cmpR op_ge (pv 2) (pe_op op_pow pe_int pe_int) (nomark _)))) (fun _ _ _ _ _ => (pv 2)))) (pa_cons (pv 4) pa_nil)))))))), ?_⟩
    obtain ⟨ms, em, hm⟩ := cut_ints ns (some k) (some 63)
    -- cells = [.. for cell in script[base:63]]
    refine ⟨_, rfl, _, rfl, _, rfl, _, rfl, a, _, rfl, hs, fun c hc => ?_⟩
    refine ⟨c, rfl, ⟨_, sqL_new⟩, fun D hD => ?_⟩
    rw [em] at hD ⊢
    have s1 : Same H (upd H c (.lst (ms.map V.int))) := same_new hc
    generalize hH1 : upd H c (.lst (ms.map V.int)) = H1 at hD s1 ⊢
    have hc1 : H1 c = some (.lst (ms.map V.int)) := by rw [← hH1]; exact upd_same
    refine lc_list (K := K) (a := c) (xs := ms.map V.int) (fun i H' => ∃ zs : List Int, zs.length = i ∧ H' D = some (.lst (zs.map V.int)) ∧ Same H1 H') ⟨[], rfl, upd_same, same_new hD⟩ (fun i H' _ ⟨zs, _, _, sm⟩ => sqL_of (sm _ _ hc1)) ?_ ?_
    · rintro i x H' hx ⟨zs, ez, hz, sm⟩
      rw [List.getElem?_map] at hx
      obtain ⟨z, hz', rfl⟩ := Option.map_eq_some_iff.mp hx
      have hi : i < ms.length := (List.getElem?_eq_some_iff.mp hz').1
      refine ⟨rfl, ?_⟩
      refine ⟨_, rfl, _, _, rfl, rfl, _, rfl, ?_⟩
      have fin : ∀ y : Int, ∃ acc, H' D = some (.lst acc) ∧ acc.length < sizeLine ∧ ∃ zs : List Int, zs.length = i + 1 ∧ upd H' D (.lst (acc ++ [V.int y])) D = some (.lst (zs.map V.int)) ∧ Same H1 (upd H' D (.lst (acc ++ [V.int y]))) := fun y =>
        ⟨_, hz, by rw [List.length_map]; exact szl (by omega), zs ++ [y], by simp [ez], by rw [upd_same, List.map_append]; rfl, same_mut sm hD⟩
      exact ite2 (fun _ => ⟨_, rfl, fin z⟩) (fun _ => ⟨_, rfl, _, _, rfl, rfl, fin _⟩)
    · rintro H2 ⟨zs, ez, hz, sm⟩
      rw [List.length_map] at ez
      have s2 : Same H H2 := s1.trans sm
      -- blend = 40960001 + 19 * base
      refine ⟨_, rfl, _, _, rfl, rfl, mulW (sm_of (by decide) (by decide)) (sm_of k0 (by omega)), _, _, rfl, rfl, ?_⟩
      -- for cell in cells
      refine ⟨_, rfl, D, rfl, ⟨_, sqL_of hz⟩, for_list (K := K) (a := D) (xs := zs.map V.int) (fun i σ H' => ∃ (v : Option V) (b : Int), σ = [some (.ref a), some (.int k), v, some (.ref D), some (.int b)] ∧ H' = H2 ∧ 0 ≤ b ∧ b < 2147483647) ⟨none, _, rfl, rfl, by omega, by omega⟩ ?_ ?_ ?_⟩
      · rintro i σ H' _ ⟨v, b, rfl, rfl, _⟩
        exact sqL_of hz
      · rintro i x σ H' hx ⟨v, b, rfl, rfl, b0, b1⟩
        rw [List.getElem?_map] at hx
        obtain ⟨z, hz', rfl⟩ := Option.map_eq_some_iff.mp hx
        refine ⟨_, rfl, _, _, rfl, rfl, mulW (sm_of b0 (by omega)) (sm_of (by decide) (by decide)), _, rfl, .inl ⟨_, rfl, ?_⟩⟩
        refine ⟨_, _, rfl, rfl, (show (0 : Int) < 2147483629 by decide), _, _, rfl, rfl, .inl ⟨_, rfl, ?_⟩⟩
        refine ⟨_, _, rfl, rfl, (show (0 : Int) < 2147483647 by decide), ?_⟩
        exact ⟨_, _, rfl, rfl, Int.emod_nonneg _ (by decide), Int.emod_lt_of_pos _ (by decide)⟩
      · rintro σ H' ⟨v, b, rfl, rfl, b0, b1⟩
        -- [cell for cell in cells if cell >= 10 ** 18][::-1]
        refine ⟨_, rfl, D, rfl, ⟨_, sqL_of hz⟩, fun D2 hD2 => ?_⟩
        refine lc_list (K := K) (a := D) (xs := zs.map V.int) (fun i H3 => ∃ ys : List Int, ys.length ≤ i ∧ H3 D2 = some (.lst (ys.map V.int)) ∧ Same H' H3) ⟨[], Nat.le_refl _, upd_same, same_new hD2⟩ (fun i H3 _ ⟨ys, _, _, sm'⟩ => sqL_of (sm' _ _ hz)) ?_ ?_
        · rintro i x H3 hx ⟨ys, ey, hy, sm'⟩
          rw [List.getElem?_map] at hx
          obtain ⟨z, hz', rfl⟩ := Option.map_eq_some_iff.mp hx
          have hi : i < zs.length := (List.getElem?_eq_some_iff.mp hz').1
          refine ⟨rfl, _, rfl, _, _, rfl, rfl, ⟨by decide, by decide, by decide⟩, _, _, rfl, rfl, _, rfl, ite2 (fun _ => ?_) (fun _ => ?_)⟩
          · refine ⟨_, rfl, _, hy, by rw [List.length_map]; exact szl (by omega), ys ++ [z], by simp; omega, by rw [upd_same, List.map_append]; rfl, same_mut sm' hD2⟩
          · exact ⟨ys, by omega, hy, sm'⟩
        · rintro H3 ⟨ys, ey, hy, sm'⟩
          rw [List.length_map] at ey
          refine ⟨D2, _, rfl, sqL_of hy, fun l hl => ?_⟩
          refine ⟨_, rfl, szr rfl, fun d hd => ?_⟩
          have s3 : Same H3 (upd H3 l (.lst (ys.map V.int).reverse)) := same_new hl
          have s4 := same_new (o := .lst [V.ref l, .int b]) hd
          have sA : Same H H3 := s2.trans sm'
          refine q d l _ ((sA.trans s3).trans s4) (sA.free (s3.free hd)) (sA.free hl) ⟨ys.reverse, b, upd_same, ?_, by rw [List.length_reverse]; omega, b0, b1⟩
          refine s4 _ _ ?_
          rw [upd_same, List.map_reverse]

/-- a base -/
def sp_base : Sp := fun vs H Q _ => ∃ (d l : Addr), vs = [V.ref d] ∧ Deal H d l ∧ ∀ b H', 2 ≤ b → b ≤ 10 ^ 30 → Drew d l H H' → Q (.int b) H'
theorem ok__law_base (T : Txt K mg F D C) : FnOk P w K mg base CX0 3 (F 25) (D 25) ["_law_deal_here"] (sp_base) := by
  refine T.f__law_base.ok sc__law_base (fun vs H Q E h => ?_) (fun cdv A outer s H vs Q E hr h => ?_)
  · obtain ⟨d, l, rfl, D0, q⟩ := h
    rfl
  · obtain ⟨d, l, rfl, D0, q⟩ := h
    refine ⟨_, (pss_cons (ps_set (i := 1) sc__law_base.nd rfl (.inl rfl) (pe_lst (pa_cons pe_int (pa_cons pe_int (pa_cons pe_int (pa_cons pe_int (pa_cons (pe_op op_add pe_int (pe_call (ok__law_draw T) (hr.mono (by decide)) (by rfl) T.g__law_draw T.f__law_draw.kp T.b__law_draw .nil pass0 (pa_cons (pv 0) (pa_cons pe_int pa_nil)))) (pa_cons (pe_op op_add pe_int (pe_call (ok__law_draw T) (hr.mono (by decide)) (by rfl) T.g__law_draw T.f__law_draw.kp T.b__law_draw .nil pass0 (pa_cons (pv 0) (pa_cons (pe_op op_pow pe_int pe_int) pa_nil)))) (pa_cons (pe_op op_sub (pe_op op_pow pe_int pe_int) (pe_call (ok__law_draw T) (hr.mono (by decide)) (by rfl) T.g__law_draw T.f__law_draw.kp T.b__law_draw .nil pass0 (pa_cons (pv 0) (pa_cons pe_int pa_nil)))) pa_nil))))))))) (pss_one (ps_ret (pe_call (ok__law_pick T) (hr.mono (by decide)) (by rfl) T.g__law_pick T.f__law_pick.kp T.b__law_pick .nil pass0 (pa_cons (pv 0) (pa_cons (pv 1) pa_nil)))))), ?_⟩
    refine ⟨_, rfl, d, l, _, rfl, D0, (by decide), sm_of (by decide) (by decide), fun r1 H1 a1 b1 w1 => ⟨_, _, rfl, rfl, ?_⟩⟩
    refine ⟨_, rfl, _, _, rfl, rfl, ⟨by decide, by decide, by decide⟩, d, l, _, rfl, w1.deal, (by decide), sm_of (by decide) (by decide), fun r2 H2 a2 b2 w2 => ⟨_, _, rfl, rfl, ?_⟩⟩
    replace b2 : r2 < 1000000 := b2
    refine ⟨_, _, rfl, rfl, ⟨by decide, by decide, by decide⟩, _, rfl, d, l, _, rfl, w2.deal, (by decide), sm_of (by decide) (by decide), fun r3 H3 a3 b3 w3 => ⟨_, _, rfl, rfl, ?_⟩⟩
    refine ⟨szr rfl, fun p hp => ?_⟩
    have w : Drew d l H H3 := (w1.trans w2).trans w3
    refine ⟨_, rfl, _, rfl, d, l, p, _, rfl, (w.new hp).deal, sqL_new, w.deal.fresh hp, Nat.le_of_ble_eq_true rfl, Nat.le_of_ble_eq_true rfl, fun v H4 hv w4 => ?_⟩
    have fin : ∀ b : Int, 2 ≤ b → b ≤ 10 ^ 30 → v = .int b → Q v H4 := fun b h1 h2 e => by
      subst e
      exact q b H4 h1 h2 ((w.new hp).trans w4)
    simp only [List.mem_cons, List.not_mem_nil, or_false] at hv
    rcases hv with e | e | e | e | e | e | e
    · exact fin 2 (by decide) (by decide) e
    · exact fin 3 (by decide) (by decide) e
    · exact fin 10 (by decide) (by decide) e
    · exact fin 16 (by decide) (by decide) e
    · exact fin _ (by omega) (by omega) e
    · exact fin _ (by omega) (by omega) e
    · have e30 : (10 : Int) ^ (30 : Int).toNat = 10 ^ 30 := rfl
      exact fin _ (by rw [e30]; omega) (by rw [e30]; omega) e
def sp_written (K : PySem.W.Frag) : Sp := fun vs H Q _ => ∃ (a : Addr) (xs : List Int) (b : Int), vs = [V.ref a, .int b] ∧ SqL K H a (xs.map V.int) ∧ Sm b ∧ (∀ i, i ≤ xs.length → Sm (ofs b (xs.take i))) ∧ Q (.int (ofs b xs)) H
theorem ok__law_written (T : Txt K mg F D C) : FnOk P w K mg base CX0 1 (F 26) (D 26) ["_law_figures_here", "_law_base_here"] (sp_written K) := by
  refine T.f__law_written.ok sc__law_written (fun vs H Q E h => ?_) (fun cdv A outer s H vs Q E hr h => ?_)
  · obtain ⟨a, xs, b, rfl, hs, sb, hx, q⟩ := h
    rfl
  · obtain ⟨a, xs, b, rfl, hs, sb, hx, q⟩ := h
    refine ⟨_, (pss_cons (ps_set (i := 2) sc__law_written.nd rfl (.inl rfl) pe_int) (pss_cons (ps_for PassesOwn.never rfl (pi_list (pv 0)) (pg_name (i := 3) sc__law_written.nd rfl (.inl rfl)) (pss_one (ps_set (i := 2) sc__law_written.nd rfl (.inl rfl) (pe_op op_add (pe_op op_mulW (pv 2) (pv 1)) (pv 3))))) (pss_one (ps_ret (pv 2))))), ?_⟩
    refine ⟨_, rfl, a, rfl, ⟨_, hs⟩, for_list (K := K) (a := a) (xs := xs.map V.int) (fun i σ H' => ∃ v, σ = [some (.ref a), some (.int b), some (.int (ofs b (xs.take i))), v] ∧ H' = H) ⟨none, rfl, rfl⟩ ?_ ?_ ?_⟩
    · rintro i σ H' _ ⟨v, rfl, rfl⟩
      exact hs
    · rintro i x σ H' hi ⟨v, rfl, rfl⟩
      rw [List.getElem?_map] at hi
      obtain ⟨z, hz, rfl⟩ := Option.map_eq_some_iff.mp hi
      have hl : i < xs.length := (List.getElem?_eq_some_iff.mp hz).1
      refine ⟨_, rfl, _, rfl, _, _, rfl, rfl, mulW (hx i (by omega)) sb, _, rfl, _, _, rfl, rfl, ?_⟩
      refine ⟨some (.int z), ?_, rfl⟩
      rw [ofs_take hz]
      rfl
    · rintro σ H' ⟨v, rfl, rfl⟩
      rw [List.length_map, List.take_length]
      exact ⟨_, rfl, q⟩
/-- a number of few unlike figures -/
def sp_number : Sp := fun vs H Q _ => ∃ (d l : Addr) (b : Int), vs = [V.ref d, .int b] ∧ Deal H d l ∧ 2 ≤ b ∧ b ≤ 10 ^ 30 ∧ ∀ n H', 0 ≤ n → n < 10 ^ 60 → Drew d l H H' → Q (.int n) H'
theorem cut_to (zs : List Int) (k : Int) (h : 0 ≤ k) : cutV (zs.map V.int) none (some k) = (zs.take k.toNat).map V.int := by
  unfold cutV
  rw [HT.sIx_none, show HT.sIx (zs.map V.int).length (zs.map V.int).length (some k) = min k.toNat (zs.map V.int).length from by
    obtain ⟨n, rfl⟩ : ∃ n : Nat, k = n := ⟨k.toNat, by omega⟩
    exact HT.sIx_nat _ _ n]
  rw [List.drop_zero, Nat.sub_zero, List.map_take]
  exact (List.take_eq_take_min ..).symm
theorem cut_from (zs : List Int) (k : Int) (h : 0 ≤ k) : cutV (zs.map V.int) (some k) none = (zs.drop k.toNat).map V.int := by
  unfold cutV
  obtain ⟨n, rfl⟩ : ∃ n : Nat, k = n := ⟨k.toNat, by omega⟩
  rw [HT.sIx_none, show HT.sIx (zs.map V.int).length 0 (some (n : Int)) = min n (zs.map V.int).length from HT.sIx_nat _ _ n]
  rw [List.map_drop]
  show ((zs.map V.int).drop (min n (zs.map V.int).length)).take ((zs.map V.int).length - min n (zs.map V.int).length) = (zs.map V.int).drop n
  rw [List.take_of_length_le (by rw [List.length_drop]; omega)]
  by_cases c : n ≤ (zs.map V.int).length
  · rw [Nat.min_eq_left c]
  · rw [Nat.min_eq_right (by omega), List.drop_of_length_le (by omega), List.drop_of_length_le (by omega)]
theorem ok__law_number (T : Txt K mg F D C) : FnOk P w K mg base CX0 3 (F 27) (D 27) ["_law_deal_here", "_law_base_here"] (sp_number) := by
  refine T.f__law_number.ok sc__law_number (fun vs H Q E h => ?_) (fun cdv A outer s H vs Q E hr h => ?_)
  · obtain ⟨d, l, b, rfl, D0, hb, hb2, q⟩ := h
    rfl
  · obtain ⟨d, l, b, rfl, D0, hb, hb2, q⟩ := h
    refine ⟨_, (pss_cons (ps_par (i := 2) (j := 3) (by rfl) sc__law_number.nd rfl rfl (by decide) rfl rfl (pa_cons pe_int (pa_cons (pv 1) pa_nil)) (by rfl)) (pss_cons (ps_while PassesOwn.never (pt_cmpR op_lt (pe_op op_mulW (pv 3) (pv 1)) (pe_op op_pow pe_int pe_int) (nomark _)) (pss_one (ps_par (i := 2) (j := 3) (by rfl) sc__law_number.nd rfl rfl (by decide) rfl rfl (pa_cons (pe_op op_add (pv 2) pe_int) (pa_cons (pe_op op_mulW (pv 3) (pv 1)) pa_nil)) (by rfl)))) (pss_cons (ps_set (i := 4) sc__law_number.nd rfl (.inr rfl) (pe_lst (pa_cons pe_int (pa_cons pe_int (pa_cons (pe_op op_sub (pv 1) pe_int) (pa_cons (pe_call (ok__law_draw T) (hr.mono (by decide)) (by rfl) T.g__law_draw T.f__law_draw.kp T.b__law_draw .nil pass0 (pa_cons (pv 0) (pa_cons (pv 1) pa_nil))) (pa_cons (pe_call (ok__law_draw T) (hr.mono (by decide)) (by rfl) T.g__law_draw T.f__law_draw.kp T.b__law_draw .nil pass0 (pa_cons (pv 0) (pa_cons (pv 1) pa_nil))) pa_nil))))))) (pss_cons (ps_setLc (i := 5) (own := [("_law_k", 6)]) rfl sc__law_number.nd rfl rfl (sw_true rfl rfl rfl (by decide +kernel)) (pi_range1 (by rfl) T.n_range (pa_cons (pe_op op_add pe_int (pe_call (ok__law_draw T) (hr.mono (by decide)) (by rfl) T.g__law_draw T.f__law_draw.kp T.b__law_draw .nil pass0 (pa_cons (pv 0) (pa_cons (pe_call (ok__law_pick T) (hr.mono (by decide)) (by rfl) T.g__law_pick T.f__law_pick.kp T.b__law_pick .nil pass0 (pa_cons (pv 0) (pa_cons (pe_lst (pa_cons (pv 2) (pa_cons (pe_callB (call_min2 rfl) (by rfl) T.n_min Eb.bb_min (pa_cons (pv 2) (pa_cons pe_int pa_nil))) pa_nil))) pa_nil))) pa_nil)))) pa_nil)) (blkOk_by (N := ["_law_deal_here", "_law_base_here", "_law_span", "_law_room", "_law_some", "_law_found", "_law_k"]) (sc := defScope s__law_number) (by decide +kernel)) (fun _ _ _ _ _ => (pg_name (i := 6) sc__law_number.nd rfl (.inl rfl))) (fun _ _ _ _ _ => pts_nil) (fun _ _ _ _ _ => (pe_call (ok__law_pick T) (hr.mono (by decide)) (by rfl) T.g__law_pick T.f__law_pick.kp T.b__law_pick .nil pass0 (pa_cons (pv 0) (pa_cons (pv 4) pa_nil))))) (pss_cons (ps_if (pt_cmpR op_eq (pe_call (ok__law_draw T) (hr.mono (by decide)) (by rfl) T.g__law_draw T.f__law_draw.kp T.b__law_draw .nil pass0 (pa_cons (pv 0) (pa_cons pe_int pa_nil))) pe_int (nomark _)) (pss_cons (ps_set (i := 5) sc__law_number.nd rfl (.inl rfl) (pe_slice sl_list (pv 5) po_none (po_some (pe_callB (call_max2 rfl) (by rfl) T.n_max Eb.bb_max (pa_cons pe_int (pa_cons (pe_op op_fdivX (pe_callB call_len_seq (by rfl) T.n_len Eb.bb_len (pa_cons (pv 5) pa_nil)) pe_int) pa_nil)))))) (pss_one (ps_set (i := 5) sc__law_number.nd rfl (.inl rfl) (pe_op op_cat (pv 5) (pe_slice sl_list (pe_revL (pv 5)) (po_some (pe_call (ok__law_draw T) (hr.mono (by decide)) (by rfl) T.g__law_draw T.f__law_draw.kp T.b__law_draw .nil pass0 (pa_cons (pv 0) (pa_cons pe_int pa_nil)))) po_none))))) pss_nil) (pss_one (ps_ret (pe_call (ok__law_written T) (hr.mono (by decide)) (by rfl) T.g__law_written T.f__law_written.kp T.b__law_written .nil pass0 (pa_cons (pe_slice sl_list (pv 5) po_none (po_some (pv 2))) (pa_cons (pv 1) pa_nil)))))))))), ?_⟩
    have sb : Sm b := sm_of (by omega) (by omega)
    -- span, room = 1, base
    refine ⟨_, rfl, _, _, rfl, ?_⟩
    refine whl (fun m σ H' => ∃ (k : Nat), σ = [some (.ref d), some (.int b), some (.int (k : Int)), some (.int (b ^ k)), none, none, none] ∧ 1 ≤ k ∧ b ^ k < 10 ^ 60 ∧ m = (10 ^ 60 - b ^ k).toNat ∧ H = H') (10 ^ 60 - b).toNat
      ⟨1, by rw [Int.pow_one]; rfl, by omega, by rw [Int.pow_one]; omega, by rw [Int.pow_one], rfl⟩ ?_
    rintro m σ H' ⟨k, rfl, k1, hk, rfl, rfl⟩
    have hk0 : 0 < b ^ k := Int.pow_pos (by omega)
    have e60 : (10 : Int) ^ (60 : Int).toNat = 10 ^ 60 := rfl
    refine ⟨_, rfl, _, rfl, _, _, rfl, rfl, mulW (sm_of (by omega) (by omega)) sb, _, _, rfl, rfl, ⟨by decide, by decide, by decide⟩, _, _, rfl, rfl, _, rfl, ?_⟩
    rw [e60]
    by_cases hl : b ^ k * b < 10 ^ 60
    · rw [decide_eq_true hl]
      refine iteT (turn_of ?_)
      refine ⟨_, rfl, _, _, rfl, rfl, _, rfl, _, rfl, _, _, rfl, rfl, mulW (sm_of (by omega) (by omega)) sb, _, _, rfl, ?_⟩
      have e : b ^ (k + 1) = b ^ k * b := Int.pow_succ _ _
      have gr : b ^ k * 2 ≤ b ^ k * b := Int.mul_le_mul_of_nonneg_left hb (by omega)
      refine ⟨(10 ^ 60 - b ^ (k + 1)).toNat, by rw [e]; omega, k + 1, ?_, by omega, by rw [e]; exact hl, rfl, rfl⟩
      rw [e]
      rfl
    · rw [decide_eq_false hl]
      refine iteF ?_
      have k2 := span_le hb hk
      -- some = [0, 1, base - 1, draw, draw]
      refine ⟨_, rfl, _, _, rfl, rfl, ?_⟩
      refine ⟨_, rfl, _, rfl, d, l, b, rfl, D0, by omega, sb, fun r1 H1 a1 b1 w1 => ?_⟩
      refine ⟨_, rfl, _, rfl, d, l, b, rfl, w1.deal, by omega, sb, fun r2 H2 a2 b2 w2 => ?_⟩
      refine ⟨szr rfl, fun p hp => ?_⟩
      have w3 := (w1.trans w2).new (o := .lst [.int 0, .int 1, .int (b - 1), .int r1, .int r2]) hp
      have np : p ∉ [d, l] := w2.deal.fresh hp
      have hp3 : upd H2 p (.lst [.int 0, .int 1, .int (b - 1), .int r1, .int r2]) p = some (.lst [.int 0, .int 1, .int (b - 1), .int r1, .int r2]) := upd_same
      generalize hH3 : upd H2 p (.lst [.int 0, .int 1, .int (b - 1), .int r1, .int r2]) = H3 at w3 hp3 ⊢
      have some_in : ∀ v ∈ [V.int 0, .int 1, .int (b - 1), .int r1, .int r2], ∃ z : Int, v = .int z ∧ 0 ≤ z ∧ z < b := by
        intro v hv
        simp only [List.mem_cons, List.not_mem_nil, or_false] at hv
        rcases hv with e | e | e | e | e
        · exact ⟨_, e, by omega, by omega⟩
        · exact ⟨_, e, by omega, by omega⟩
        · exact ⟨_, e, by omega, by omega⟩
        · exact ⟨_, e, a1, b1⟩
        · exact ⟨_, e, a2, b2⟩
      -- range(1 + draw(deal, pick(deal, [span, min(span, 5)])))
      refine ⟨_, rfl, _, rfl, _, rfl, _, rfl, _, _, rfl, szr rfl, fun t ht => ?_⟩
      refine ⟨d, l, t, _, rfl, (w3.new ht).deal, sqL_new, w3.deal.fresh ht, Nat.le_of_ble_eq_true rfl, Nat.le_of_ble_eq_true rfl, fun v H4 hv w4 => ?_⟩
      obtain ⟨u, rfl, u0, u1⟩ : ∃ u : Int, v = .int u ∧ 0 < u ∧ u ≤ 200 := by
        simp only [List.mem_cons, List.not_mem_nil, or_false] at hv
        rcases hv with e | e
        · exact ⟨_, e, by omega, by omega⟩
        · refine ⟨_, e, ?_, ?_⟩ <;> split <;> omega
      refine ⟨d, l, u, rfl, w4.deal, u0, sm_of (by omega) (by omega), fun r3 H5 a3 b3 w5 => ⟨_, _, rfl, rfl, ?_⟩⟩
      have wt := (w3.new (o := .lst [.int (k : Int), .int (if (5 : Int) < (k : Int) then 5 else (k : Int))]) ht)
      have w6 := (wt.trans w4).trans w5
      have hp5 : H5 p = some (.lst [.int 0, .int 1, .int (b - 1), .int r1, .int r2]) := w5.get np (w4.get np (same_new ht _ _ hp3))
      refine ⟨1 + r3, rfl, by omega, by omega, fun D hD => ?_⟩
      have nD : D ∉ [d, l] := w5.deal.fresh hD
      have pD : p ≠ D := ne_of_none hp5 hD
      refine lc_range (lo := 0) (n := (1 + r3).toNat) (fun i H' => ∃ zs : List Int, zs.length = i ∧ InB b zs ∧ H' D = some (.lst (zs.map V.int)) ∧ Drew d l H H' ∧ H' p = some (.lst [.int 0, .int 1, .int (b - 1), .int r1, .int r2])) ?_ ?_ ?_
      · exact ⟨[], rfl, fun x hx => absurd hx (by simp), upd_same, w6.new hD, by rw [upd_ne pD]; exact hp5⟩
      · rintro i H' hi ⟨zs, ez, hz, hD', w7, hp7⟩
        refine ⟨rfl, ?_⟩
        refine ⟨_, rfl, _, rfl, d, l, p, _, rfl, w7.deal, sqL_of hp7, np, Nat.le_of_ble_eq_true rfl, Nat.le_of_ble_eq_true rfl, fun v H8 hv w8 => ?_⟩
        obtain ⟨z, rfl, z0, z1⟩ := some_in v hv
        refine ⟨_, w8.get nD hD', by rw [List.length_map]; exact szl (by omega), zs ++ [z], by simp [ez], hz.append fun x hx => by rw [List.mem_singleton.mp hx]; exact ⟨z0, z1⟩, by rw [upd_same, List.map_append]; rfl, ⟨(w7.trans w8).deal.upd nD, fun b' x nb hb' => ?_⟩, ?_⟩
        · have e1 := (w7.trans w8).grow b' x nb hb'
          have nbD : b' ≠ D := fun e => by
            subst e
            have := w6.free hD
            rw [this] at hb'
            cases hb'
          rw [upd_ne nbD]
          exact e1
        · rw [upd_ne pD]
          exact w8.get np hp7
      · rintro H6 ⟨zs, ez, hz, hD6, w7, hp7⟩
        -- if draw(deal, 3) == 0
        dsimp only [gName]
        refine by_st (fun σ H' => ∃ (ys : List Int) (y : Addr), σ = [some (.ref d), some (.int b), some (.int (k : Int)), some (.int (b ^ k)), some (.ref p), some (.ref y), none] ∧ InB b ys ∧ ys.length ≤ 1000 ∧ H' y = some (.lst (ys.map V.int)) ∧ Drew d l H H') (fun D' _ kk => ?_) ?_
        · refine ⟨_, rfl, d, l, _, rfl, w7.deal, (by decide), sm_of (by decide) (by decide), fun r4 H7 a4 b4 w8 => ⟨rfl, _, rfl, ite2 (fun _ => ?_) (fun _ => ?_)⟩⟩
          · have hD7 := w8.get nD hD6
            -- found = found[:max(1, len(found) // 2)]
            refine ⟨_, rfl, _, rfl, D, _, rfl, .inl (sqL_of hD7), _, _, rfl, rfl, divW (by decide) (sm_of (by decide) (by decide)), _, _, rfl, _, rfl, D, _, rfl, sqL_of hD7, fun f hf => ?_⟩
            rw [cut_to zs _ (by split <;> omega)]
            generalize (if (((zs.map V.int).length : Nat) : Int) / 2 > 1 then (((zs.map V.int).length : Nat) : Int) / 2 else 1).toNat = c
            have w9 := (w7.trans w8).new (o := .lst ((zs.take c).map V.int)) hf
            have nf : f ∉ [d, l] := w8.deal.fresh hf
            have hf9 : upd H7 f (.lst ((zs.take c).map V.int)) f = some (.lst ((zs.take c).map V.int)) := upd_same
            generalize upd H7 f (.lst ((zs.take c).map V.int)) = H9 at w9 hf9 ⊢
            -- found = found + found[::-1][draw(deal, 2):]
            refine ⟨_, rfl, _, rfl, f, _, rfl, sqL_of hf9, fun g hg => ?_⟩
            have w10 := w9.new (o := .lst ((zs.take c).map V.int).reverse) hg
            have ng : g ∉ [d, l] := w9.deal.fresh hg
            have hg10 : upd H9 g (.lst ((zs.take c).map V.int).reverse) g = some (.lst (((zs.take c).reverse).map V.int)) := by rw [upd_same, List.map_reverse]
            have hf10 := same_new (o := .lst ((zs.take c).map V.int).reverse) hg _ _ hf9
            generalize upd H9 g (.lst ((zs.take c).map V.int).reverse) = H10 at w10 hg10 hf10 ⊢
            refine ⟨_, rfl, d, l, _, rfl, w10.deal, (by decide), sm_of (by decide) (by decide), fun r5 H11 a5 b5 w11 => ⟨r5, rfl, ?_⟩⟩
            refine ⟨g, _, rfl, sqL_of (w11.get ng hg10), fun e he => ?_⟩
            rw [cut_from _ _ a5]
            have hf12 := same_new (o := .lst (((zs.take c).reverse.drop r5.toNat).map V.int)) he _ _ (w11.get nf hf10)
            have w12 := (w10.trans w11).new (o := .lst (((zs.take c).reverse.drop r5.toNat).map V.int)) he
            have lz : (zs.take c).length ≤ 201 := by
              rw [List.length_take]
              omega
            refine ⟨f, e, _, _, rfl, rfl, hf12, upd_same, ?_, fun y hy => ?_⟩
            · rw [List.length_map, List.length_map, List.length_drop, List.length_reverse]
              exact sz (by omega)
            · refine kk _ _ ⟨zs.take c ++ (zs.take c).reverse.drop r5.toNat, y, rfl, (hz.take c).append ((hz.take c).reverse.drop _), ?_, ?_, w12.new hy⟩
              · rw [List.length_append, List.length_drop, List.length_reverse]
                omega
              · rw [upd_same, List.map_append]
          · exact kk _ _ ⟨zs, D, rfl, hz, by omega, w8.get nD hD6, w7.trans w8⟩
        · rintro σ H' ⟨ys, y, rfl, hy, ly, hH, w8⟩
          refine ⟨_, rfl, _, rfl, _, rfl, y, _, rfl, sqL_of hH, fun f hf => ?_⟩
          rw [cut_to ys _ (by omega)]
          have e : (ys.take (k : Int).toNat).length ≤ k := by
            rw [List.length_take]
            omega
          have m := pow_mono hb e
          have rg := ofs_range hb _ (hy.take (k : Int).toNat)
          refine ⟨_, rfl, f, _, b, rfl, sqL_new, sb, ofs_sm hb (hy.take _) (by omega), ?_⟩
          exact q _ _ rg.1 (by omega) (w8.new hf)

theorem iteFd {p : Prop} [Decidable p] {A B : Prop} (h : ¬ p) (q : B) : if decide p = true then A else B := by
  rw [decide_eq_false h]
  exact iteF q
theorem iteTd {p : Prop} [Decidable p] {A B : Prop} (h : p) (q : A) : if decide p = true then A else B := by
  rw [decide_eq_true h]
  exact iteT q
theorem ne_int {H : Hp} {x y : Int} {Q : VK} (h : x = y) (q : Q (.bl false) H) : rNe (.int x) (.int y) H Q := by
  subst h
  exact ne_same rfl q
theorem ne_bl {H : Hp} {x y : Bool} {Q : VK} (h : x = y) (q : Q (.bl false) H) : rNe (.bl x) (.bl y) H Q := by
  subst h
  exact ne_same rfl q
theorem eq_int {H : Hp} {x y : Int} {Q : VK} (h : x = y) (q : Q (.bl true) H) : rEq (.int x) (.int y) H Q := by
  subst h
  exact ⟨rfl, by rw [decide_eq_true rfl]; exact q⟩
def sp_right : Sp := fun vs H Q _ => ∃ n b : Int, vs = [V.int n, .int b] ∧ 0 ≤ n ∧ n < 10 ^ 60 ∧ 2 ≤ b ∧ b ≤ 10 ^ 30 ∧ ∀ H', Same H H' → Q (.bl true) H'
theorem ok__law_sums_right (T : Txt K mg F D C) : FnOk P w K mg base CX0 8 (F 28) (D 28) ["_law_number_here", "_law_base_here"] (sp_right) := by
  refine T.f__law_sums_right.ok sc__law_sums_right (fun vs H Q E h => ?_) (fun cdv A outer s H vs Q E hr h => ?_)
  · obtain ⟨n, b, rfl, n0, n1, hb, hb2, q⟩ := h
    rfl
  · obtain ⟨n, b, rfl, n0, n1, hb, hb2, q⟩ := h
    refine ⟨_, (pss_cons (ps_par (i := 2) (j := 3) (by rfl) sc__law_sums_right.nd rfl rfl (by decide) rfl rfl (pa_cons (pe_call (ok_total T) (hr.mono (by decide)) (by rfl) T.g_total T.f_total.kp T.b_total .nil pass0 (pa_cons (pv 0) (pa_cons (pv 1) pa_nil))) (pa_cons (pe_call (ok_root T) (hr.mono (by decide)) (by rfl) T.g_root T.f_root.kp T.b_root .nil pass0 (pa_cons (pv 0) (pa_cons (pv 1) pa_nil))) pa_nil)) (by rfl)) (pss_cons (ps_if (PW.pt (pw_or (pt_cmpR op_ne (pe_op op_mod (pe_callTy call_int1 (by rfl) T.n_int Eb.bb_int (pa_cons (pv 2) pa_nil)) (pe_op op_sub (pv 1) pe_int)) (pe_op op_mod (pe_callTy call_int1 (by rfl) T.n_int Eb.bb_int (pa_cons (pv 0) pa_nil)) (pe_op op_sub (pv 1) pe_int)) (nomark _)) (pw_or1 (pt_cmpR op_ne (pe_op op_mod (pe_callTy call_int1 (by rfl) T.n_int Eb.bb_int (pa_cons (pv 3) pa_nil)) (pe_op op_sub (pv 1) pe_int)) (pe_op op_mod (pe_callTy call_int1 (by rfl) T.n_int Eb.bb_int (pa_cons (pv 0) pa_nil)) (pe_op op_sub (pv 1) pe_int)) (nomark _))))) (pss_one (ps_ret pe_bl)) pss_nil) (pss_cons (ps_if (PW.pt (pw_or (pt_not (pt_chain op_le op_lt pe_int (pv 3) (pv 1))) (pw_or1 (pt_cmpR op_ne (pe_cmpR op_eq (pv 3) pe_int (nomark _)) (pe_cmpR op_eq (pv 0) pe_int (nomark _)) (nomark _))))) (pss_one (ps_ret pe_bl)) pss_nil) (pss_cons (ps_if (PW.pt (pw_or (PW.pt (pw_and (pt_cmpR op_eq (pv 3) pe_int (nomark _)) (pw_and1 (pt_cmpR op_gt (pv 0) pe_int (nomark _))))) (pw_or1 (pt_cmpR op_ne (pv 3) (pe_call (ok_root T) (hr.mono (by decide)) (by rfl) T.g_root T.f_root.kp T.b_root .nil pass0 (pa_cons (pv 2) (pa_cons (pv 1) pa_nil))) (nomark _))))) (pss_one (ps_ret pe_bl)) pss_nil) (pss_one (ps_ret (pe_and (pe_cmpR op_eq (pe_call (ok_total T) (hr.mono (by decide)) (by rfl) T.g_total T.f_total.kp T.b_total .nil pass0 (pa_cons (pe_call (ok_turned T) (hr.mono (by decide)) (by rfl) T.g_turned T.f_turned.kp T.b_turned .nil pass0 (pa_cons (pv 0) (pa_cons (pv 1) pa_nil))) (pa_cons (pv 1) pa_nil))) (pv 2) (nomark _)) (pe_one (pe_cmpR op_eq (pe_call (ok_total T) (hr.mono (by decide)) (by rfl) T.g_total T.f_total.kp T.b_total .nil pass0 (pa_cons (pe_call (ok_greatest T) (hr.mono (by decide)) (by rfl) T.g_greatest T.f_greatest.kp T.b_greatest .nil pass0 (pa_cons (pv 0) (pa_cons (pv 1) pa_nil))) (pa_cons (pv 1) pa_nil))) (pv 2) (nomark _)))))))))), ?_⟩
    have sb : Sm b := sm_of (by omega) (by omega)
    have sn : Sm n := sm_of n0 (by omega)
    have lp2 := lenB2 hb hb2 n0 (by have : (10 : Int) ^ 60 ≤ 10 ^ 200 := by decide +kernel
                                    omega)
    have inb := inB_digs hb n0
    have d0 := dsum_nn hb n n0
    have d1 := dsum_le hb n n0
    have rr := rooted_range hb n n0
    -- added, left
    refine ⟨_, rfl, _, rfl, n, b, rfl, n0, hb, sn, sb, fun H1 s1 => ?_⟩
    refine ⟨_, rfl, _, rfl, n, b, rfl, n0, hb, sn, sb, fun H2 s2 => ?_⟩
    refine ⟨_, _, rfl, ?_⟩
    -- rests
    refine ⟨_, rfl, .inl ⟨_, rfl, _, rfl, _, _, rfl, rfl, _, _, rfl, rfl, (show 0 < b - 1 by omega), _, rfl, .inl ⟨_, rfl, _, rfl, _, _, rfl, rfl, _, _, rfl, rfl, (show 0 < b - 1 by omega), ne_int (dsum_mod hb n0) ⟨_, rfl, iteF ?_⟩⟩⟩⟩
    refine ⟨_, rfl, .inl ⟨_, rfl, _, rfl, _, _, rfl, rfl, _, _, rfl, rfl, (show 0 < b - 1 by omega), _, rfl, .inl ⟨_, rfl, _, rfl, _, _, rfl, rfl, _, _, rfl, rfl, (show 0 < b - 1 by omega), ne_int (rooted_mod hb n n0) ⟨_, rfl, iteF ?_⟩⟩⟩⟩
    -- not 0 <= left < base or (left == 0) != (number == 0)
    refine ⟨_, rfl, _, _, rfl, rfl, _, rfl, iteTd rr.1 ?_⟩
    refine ⟨_, rfl, _, _, rfl, rfl, _, rfl, ?_⟩
    rw [decide_eq_true rr.2.1]
    refine iteF ?_
    refine ⟨_, rfl, rfl, _, rfl, rfl, ne_bl ?_ ⟨_, rfl, iteF ?_⟩⟩
    · by_cases c : n = 0
      · rw [decide_eq_true (show V.int (rooted b n) = V.int 0 by rw [rr.2.2.mpr c]), decide_eq_true (show V.int n = V.int 0 by rw [c])]
      · rw [decide_eq_false (fun z => c (rr.2.2.mp (V.int.inj z))), decide_eq_false (fun z => c (V.int.inj z))]
    -- left == 0 and number > 0 or left != root(added)
    dsimp only [tNext]
    refine by_ifF (fun Q' kk => ?_) (fun H3 s3 => ?_)
    · by_cases c : n = 0
      · refine ⟨_, rfl, rfl, _, rfl, iteTd (show V.int (rooted b n) = V.int 0 by rw [rr.2.2.mpr c]) ?_⟩
        refine ⟨_, rfl, _, _, rfl, rfl, _, rfl, ?_⟩
        rw [decide_eq_false (show ¬ 0 < n by omega)]
        refine iteF ?_
        exact ⟨_, rfl, _, rfl, _, rfl, dsum b n, b, rfl, d0, hb, sn.le d0 d1, sb, fun H3 s3 => ne_int (rooted_dsum hb).symm ⟨_, rfl, kk _ s3⟩⟩
      · refine ⟨_, rfl, rfl, _, rfl, ?_⟩
        rw [decide_eq_false (show ¬ V.int (rooted b n) = V.int 0 from fun z => c (rr.2.2.mp (V.int.inj z)))]
        refine iteF (iteF ?_)
        exact ⟨_, rfl, _, rfl, _, rfl, dsum b n, b, rfl, d0, hb, sn.le d0 d1, sb, fun H3 s3 => ne_int (rooted_dsum hb).symm ⟨_, rfl, kk _ s3⟩⟩
    have sA := (s1.trans s2).trans s3
    have oA := ofs_range hb _ inb
    have b1 : ofs b (digs b n) ≤ 10 ^ 250 := by omega
    have zs := srt_small hb n0 lp2
    have zr : b ^ (srt (digs b n)).reverse.length ≤ 10 ^ 250 := by
      rw [List.length_reverse]
      exact zs.2
    have oB := ofs_range hb _ zs.1.reverse
    -- return total(turned) == added and total(greatest) == added
    refine ⟨_, rfl, _, rfl, n, b, rfl, n0, hb, sn, sb, lp2, fun H4 s4 => ⟨_, rfl, _, _, rfl, oA.1, hb, sm_big oA.1 b1, sb, fun H5 s5 => ?_⟩⟩
    refine ⟨_, rfl, eq_int (dsum_ofs hb inb) ⟨true, rfl, iteT ?_⟩⟩
    refine ⟨_, rfl, _, rfl, n, b, rfl, n0, hb, sn, sb, lp2, fun H6 s6 => ⟨_, rfl, _, _, rfl, oB.1, hb, sm_big oB.1 (by omega), sb, fun H7 s7 => ?_⟩⟩
    refine ⟨_, rfl, eq_int ?_ (q _ ((((sA.trans s4).trans s5).trans s6).trans s7))⟩
    rw [dsum_ofs hb zs.1.reverse]
    exact perm_sum ((List.reverse_perm _).trans (srt_perm _))
theorem rep_zeros (k : Nat) (x : V) : (List.replicate k [x]).flatten = List.replicate k x := by
  induction k with
  | zero => rfl
  | succ k ih =>
    rw [List.replicate_succ, List.flatten_cons, ih, List.replicate_succ]
    rfl
theorem ok__law_order_right (T : Txt K mg F D C) : FnOk P w K mg base CX0 8 (F 29) (D 29) ["_law_number_here", "_law_base_here"] (sp_right) := by
  refine T.f__law_order_right.ok sc__law_order_right (fun vs H Q E h => ?_) (fun cdv A outer s H vs Q E hr h => ?_)
  · obtain ⟨n, b, rfl, n0, n1, hb, hb2, q⟩ := h
    rfl
  · obtain ⟨n, b, rfl, n0, n1, hb, hb2, q⟩ := h
    refine ⟨_, (pss_cons (ps_par3 (i := 2) (j := 3) (l := 4) (by rfl) sc__law_order_right.nd rfl rfl rfl (by decide) (by decide) (by decide) rfl rfl rfl (pa_cons (pe_call (ok_least T) (hr.mono (by decide)) (by rfl) T.g_least T.f_least.kp T.b_least .nil pass0 (pa_cons (pv 0) (pa_cons (pv 1) pa_nil))) (pa_cons (pe_call (ok_greatest T) (hr.mono (by decide)) (by rfl) T.g_greatest T.f_greatest.kp T.b_greatest .nil pass0 (pa_cons (pv 0) (pa_cons (pv 1) pa_nil))) (pa_cons (pe_call (ok_turned T) (hr.mono (by decide)) (by rfl) T.g_turned T.f_turned.kp T.b_turned .nil pass0 (pa_cons (pv 0) (pa_cons (pv 1) pa_nil))) pa_nil))) (by rfl)) (pss_cons (ps_if (PW.pt (pw_or (pt_not (pt_chain op_le op_le (pv 2) (pv 0) (pv 3))) (pw_or (pt_cmpR op_ne (pe_call (ok_turned T) (hr.mono (by decide)) (by rfl) T.g_turned T.f_turned.kp T.b_turned .nil pass0 (pa_cons (pv 3) (pa_cons (pv 1) pa_nil))) (pv 2) (nomark _)) (pw_or1 (pt_not (pt_chain op_le op_le (pv 2) (pv 4) (pv 3))))))) (pss_one (ps_ret pe_bl)) pss_nil) (pss_cons (ps_set (i := 5) sc__law_order_right.nd rfl (.inl rfl) (pv 0)) (pss_cons (ps_while PassesOwn.never (PW.pt (pw_and (pt_cmpR op_gt (pv 5) pe_int (nomark _)) (pw_and1 (pt_cmpR op_eq (pe_op op_mod (pe_callTy call_int1 (by rfl) T.n_int Eb.bb_int (pa_cons (pv 5) pa_nil)) (pv 1)) pe_int (nomark _))))) (pss_one (ps_set (i := 5) sc__law_order_right.nd rfl (.inl rfl) (pe_op op_fdivX (pv 5) (pv 1))))) (pss_cons (ps_if (PW.pt (pw_or (pt_cmpR op_ne (pe_call (ok_turned T) (hr.mono (by decide)) (by rfl) T.g_turned T.f_turned.kp T.b_turned .nil pass0 (pa_cons (pv 4) (pa_cons (pv 1) pa_nil))) (pv 5) (nomark _)) (pw_or1 (pt_cmpR op_ne (pe_call (ok_mirrored T) (hr.mono (by decide)) (by rfl) T.g_mirrored T.f_mirrored.kp T.b_mirrored .nil pass0 (pa_cons (pv 0) (pa_cons (pv 1) pa_nil))) (pe_cmpR op_eq (pv 4) (pv 0) (nomark _)) (nomark _))))) (pss_one (ps_ret pe_bl)) pss_nil) (pss_cons (ps_set (i := 6) sc__law_order_right.nd rfl (.inl rfl) (pe_op op_sub (pe_call (ok_many T) (hr.mono (by decide)) (by rfl) T.g_many T.f_many.kp T.b_many .nil pass0 (pa_cons (pv 0) (pa_cons (pv 1) pa_nil))) (pe_call (ok_many T) (hr.mono (by decide)) (by rfl) T.g_many T.f_many.kp T.b_many .nil pass0 (pa_cons (pv 2) (pa_cons (pv 1) pa_nil))))) (pss_cons (ps_if (pt_cmpR op_ne (pe_call (ok_least T) (hr.mono (by decide)) (by rfl) T.g_least T.f_least.kp T.b_least .nil pass0 (pa_cons (pv 4) (pa_cons (pv 1) pa_nil))) (pv 2) (nomark _)) (pss_one (ps_ret pe_bl)) pss_nil) (pss_cons (ps_if (pt_cmpR op_ne (pe_op op_mulW (pe_call (ok_greatest T) (hr.mono (by decide)) (by rfl) T.g_greatest T.f_greatest.kp T.b_greatest .nil pass0 (pa_cons (pv 2) (pa_cons (pv 1) pa_nil))) (pe_call (ok__law_written T) (hr.mono (by decide)) (by rfl) T.g__law_written T.f__law_written.kp T.b__law_written .nil pass0 (pa_cons (pe_op op_cat (pe_lst (pa_cons pe_int pa_nil)) (pe_op op_rep (pe_lst (pa_cons pe_int pa_nil)) (pv 6))) (pa_cons (pv 1) pa_nil)))) (pv 3) (nomark _)) (pss_one (ps_ret pe_bl)) pss_nil) (pss_one (ps_ret (pe_cmpR op_eq (pe_call (ok_unlike T) (hr.mono (by decide)) (by rfl) T.g_unlike T.f_unlike.kp T.b_unlike .nil pass0 (pa_cons (pv 3) (pa_cons (pv 1) pa_nil))) (pe_call (ok_unlike T) (hr.mono (by decide)) (by rfl) T.g_unlike T.f_unlike.kp T.b_unlike .nil pass0 (pa_cons (pv 0) (pa_cons (pv 1) pa_nil))) (nomark _)))))))))))), ?_⟩
    have big : (10 : Int) ^ 90 ≤ 10 ^ 200 := by decide +kernel
    have sb : Sm b := sm_of (by omega) (by omega)
    have sn : Sm n := sm_of n0 (by omega)
    have lp := len_pow hb hb2 n0 n1
    have lp2 : b ^ (digs b n).length ≤ 10 ^ 250 := by
      have : (10 : Int) ^ 200 ≤ 10 ^ 250 := by decide +kernel
      omega
    have ll := len_two hb lp
    have inb := inB_digs hb n0
    have inr := inb.reverse
    have zs := srt_small hb n0 lp2
    have ls : (srt (digs b n)).length = (digs b n).length := (srt_perm _).length_eq
    have oA := ofs_range hb _ inb
    have oL := ofs_range hb _ zs.1
    have oH := ofs_range hb _ zs.1.reverse
    rw [List.length_reverse, ls] at oH
    rw [ls] at oL
    have sL : Sm (ofs b (srt (digs b n))) := sm_big oL.1 (by omega)
    have sH : Sm (ofs b (srt (digs b n)).reverse) := sm_big oH.1 (by omega)
    have sA : Sm (ofs b (digs b n)) := sm_big oA.1 (by omega)
    have lL := lenB2 hb hb2 oL.1 (by omega)
    have lH := lenB2 hb hb2 oH.1 (by omega)
    have lA := lenB2 hb hb2 oA.1 (by omega)
    have o1 : ofs b (srt (digs b n)) ≤ n := by
      have := srt_le hb inr (List.reverse_perm (digs b n))
      rw [ofs_digs hb n0] at this
      exact this
    have o2 : n ≤ ofs b (srt (digs b n)).reverse := by
      have := srt_ge hb inr (List.reverse_perm (digs b n))
      rw [ofs_digs hb n0] at this
      exact this
    have o3 := srt_le hb inb (List.Perm.refl (digs b n))
    have o4 := srt_ge hb inb (List.Perm.refl (digs b n))
    -- low, high, about
    refine ⟨_, rfl, _, rfl, n, b, rfl, n0, hb, sn, sb, lp2, fun H1 s1 => ?_⟩
    refine ⟨_, rfl, _, rfl, n, b, rfl, n0, hb, sn, sb, lp2, fun H2 s2 => ?_⟩
    refine ⟨_, rfl, _, rfl, n, b, rfl, n0, hb, sn, sb, lp2, fun H3 s3 => ?_⟩
    refine ⟨_, _, _, rfl, ?_⟩
    have t3 := (s1.trans s2).trans s3
    -- not low <= number <= high
    refine ⟨_, rfl, _, rfl, _, _, rfl, rfl, _, rfl, iteTd o1 ?_⟩
    refine ⟨_, rfl, _, _, rfl, rfl, _, rfl, ?_⟩
    rw [decide_eq_true o2]
    refine iteF ?_
    -- turned(high) != low
    refine ⟨_, rfl, _, rfl, _, _, rfl, oH.1, hb, sH, sb, lH, fun H4 s4 => ⟨_, rfl, ne_int (by rw [digs_high hb n0]) ⟨_, rfl, iteF ?_⟩⟩⟩
    -- not low <= about <= high
    refine ⟨_, rfl, _, rfl, _, _, rfl, rfl, _, rfl, iteTd o3 ?_⟩
    refine ⟨_, rfl, _, _, rfl, rfl, _, rfl, ?_⟩
    rw [decide_eq_true o4]
    refine iteF ?_
    have t4 := t3.trans s4
    -- bare
    refine ⟨_, rfl, ?_⟩
    refine whl (fun m σ H' => ∃ f : Int, σ = [some (.int n), some (.int b), some (.int (ofs b (srt (digs b n)))), some (.int (ofs b (srt (digs b n)).reverse)), some (.int (ofs b (digs b n))), some (.int f), none] ∧ 0 ≤ f ∧ f ≤ n ∧ m = f.toNat ∧ bare b f = bare b n ∧ Same H4 H') n.toNat
      ⟨n, rfl, n0, Int.le_refl _, rfl, rfl, Same.refl _⟩ ?_
    rintro m σ H' ⟨f, rfl, f0, f1, rfl, hf, s45⟩
    have sf : Sm f := sn.le f0 f1
    have out : ¬ (0 < f ∧ f % b = 0) → f = bare b n := fun z => by
      rw [← hf, bare_end z]
    refine by_ans (decide (0 < f ∧ f % b = 0)) (fun Q' kk => ?_) (fun H5 s5 => ?_)
    · refine ⟨_, rfl, _, _, rfl, rfl, _, rfl, ?_⟩
      by_cases c : 0 < f
      · rw [decide_eq_true c]
        refine iteT ?_
        refine ⟨_, rfl, .inl ⟨_, rfl, _, rfl, _, _, rfl, rfl, (show 0 < b by omega), rfl, _, rfl, ?_⟩⟩
        have e : decide (V.int (f % b) = V.int 0) = decide (0 < f ∧ f % b = 0) := by
          by_cases z : f % b = 0
          · rw [decide_eq_true (show V.int (f % b) = V.int 0 by rw [z]), decide_eq_true ⟨c, z⟩]
          · rw [decide_eq_false (fun y => z (V.int.inj y)), decide_eq_false (fun y => z y.2)]
        show Q' (decide (V.int (f % b) = V.int 0)) _
        rw [e]
        exact kk _ (Same.refl _)
      · rw [decide_eq_false c]
        refine iteF ?_
        rw [decide_eq_false (fun z => c z.1)] at kk
        exact kk _ (Same.refl _)
    by_cases c : 0 < f ∧ f % b = 0
    · rw [decide_eq_true c]
      refine iteT (turn_of ?_)
      refine ⟨_, rfl, _, rfl, _, _, rfl, rfl, divW (by omega) sb, ?_⟩
      have hle : b ≤ f := by
        by_cases z : b ≤ f
        · exact z
        · have := Int.emod_eq_of_lt (a := f) (b := b) f0 (by omega)
          omega
      have z1 := div_lt hb hle
      have z2 := div_nn hb f0
      exact ⟨(f / b).toNat, by omega, f / b, rfl, z2, by omega, rfl, by rw [← bare_step hb c.1 c.2]; exact hf, s45.trans s5⟩
    · rw [decide_eq_false c]
      refine iteF ?_
      have ef := out c
      subst ef
      have t5 := (t4.trans s45).trans s5
      clear out
      -- turned(about) != bare or mirrored(number) != (about == number)
      refine ⟨_, rfl, _, rfl, _, _, rfl, oA.1, hb, sA, sb, lA, fun H6 s6 => ⟨_, rfl, ne_int (turned_twice hb n0) ⟨_, rfl, iteF ?_⟩⟩⟩
      refine ⟨_, rfl, _, rfl, n, b, rfl, n0, hb, sn, sb, fun H7 s7 => ⟨_, rfl, _, rfl, rfl, ne_bl ?_ ⟨_, rfl, iteF ?_⟩⟩⟩
      · have mi := mirrored_iff hb n0
        by_cases z : ofs b (digs b n) = n
        · rw [decide_eq_true (mi.mpr z), decide_eq_true (show V.int (ofs b (digs b n)) = V.int n by rw [z])]
        · rw [decide_eq_false (fun y => z (mi.mp y)), decide_eq_false (fun y => z (V.int.inj y))]
      have hl := high_low hb n0
      -- lacking = many(number) - many(low)
      refine ⟨_, rfl, _, rfl, n, b, rfl, n0, hb, sn, sb, fun H8 s8 => ⟨_, rfl, _, rfl, _, _, rfl, oL.1, hb, sL, sb, fun H9 s9 => ⟨_, _, rfl, rfl, ?_⟩⟩⟩
      dsimp only
      generalize hk : (((digs b n).length : Nat) : Int) - (((digs b (ofs b (srt (digs b n)))).length : Nat) : Int) = k
      have k0 : 0 ≤ k := by omega
      have ek : k.toNat = (digs b n).length - (digs b (ofs b (srt (digs b n)))).length := by omega
      -- least(about) != low
      refine ⟨_, rfl, _, rfl, _, _, rfl, oA.1, hb, sA, sb, lA, fun H10 s10 => ⟨_, rfl, ne_int ?_ ⟨_, rfl, iteF ?_⟩⟩⟩
      · have e1 : ofs b (digs b n) = val b (digs b n).reverse := ofs_val b _
        rw [e1, digs_val hb _ inr, low_same inr, srt_same (List.reverse_perm _)]
      -- greatest(low) * written([1] + [0] * lacking) != high
      refine ⟨_, rfl, _, rfl, _, _, rfl, oL.1, hb, sL, sb, lL, fun H11 s11 => ?_⟩
      refine ⟨szr rfl, fun u hu => ⟨szr rfl, fun y hy => ⟨_, rfl, ?_⟩⟩⟩
      have sv := same_new (o := .lst [.int 1]) hu
      have sw := same_new (o := .lst [.int 0]) hy
      refine ⟨y, k, _, rfl, rfl, upd_same, by omega, by omega, ?_, fun x hx => ?_⟩
      · refine sz ?_
        show 1 * k.toNat ≤ 100000
        omega
      rw [rep_zeros]
      have sx := same_new (o := .lst (List.replicate k.toNat (V.int 0))) hx
      refine ⟨u, x, _, _, rfl, rfl, sx _ _ (sw _ _ upd_same), upd_same, ?_, fun z hz => ?_⟩
      · rw [List.length_replicate]
        refine sz ?_
        show 1 + k.toNat ≤ 100000
        omega
      have sz' := same_new (o := .lst ([.int 1] ++ List.replicate k.toNat (V.int 0))) hz
      have ib : InB b (1 :: List.replicate k.toNat 0) := fun w hw => by
        rcases List.mem_cons.mp hw with e | e
        · rw [e]
          omega
        · rw [List.eq_of_mem_replicate e]
          omega
      have pl : b ^ (1 :: List.replicate k.toNat (0 : Int)).length ≤ 10 ^ 250 := by
        rw [List.length_cons, List.length_replicate]
        have ne : (digs b (ofs b (srt (digs b n)))).length ≠ 0 := fun q' => digs_ne hb oL.1 (List.length_eq_zero_iff.mp q')
        have := pow_mono hb (show k.toNat + 1 ≤ (digs b n).length by omega)
        omega
      refine ⟨_, rfl, z, 1 :: List.replicate k.toNat 0, b, rfl, ?_, sb, ofs_smB hb ib pl, ?_⟩
      · rw [List.map_cons, List.map_replicate]
        exact sqL_new
      rw [ofs_one]
      have pk : 0 < b ^ k.toNat := Int.pow_pos (by omega)
      have pk2 : b ^ k.toNat ≤ 10 ^ 90 := by
        have := pow_mono hb (show k.toNat ≤ (digs b n).length by omega)
        omega
      have zl := srt_small hb oL.1 lL
      have gl : Sm (ofs b (srt (digs b (ofs b (srt (digs b n))))).reverse) := by
        have := ofs_smB hb zl.1.reverse (by rw [List.length_reverse]; exact zl.2) _ (Nat.le_refl _)
        rw [List.take_length] at this
        exact this
      refine ⟨_, _, rfl, rfl, mulW gl (sm_big (by omega) (by omega)), _, rfl, ne_int ?_ ⟨_, rfl, iteF ?_⟩⟩
      · rw [ek]
        exact hl.2
      -- return unlike(high) == unlike(number)
      refine ⟨_, rfl, _, rfl, _, _, rfl, oH.1, hb, sH, sb, fun H12 s12 => ?_⟩
      refine ⟨_, rfl, _, rfl, n, b, rfl, n0, hb, sn, sb, fun H13 s13 => ⟨rfl, ?_⟩⟩
      have eu : decide (digs b (ofs b (srt (digs b n)).reverse)).Nodup = decide (digs b n).Nodup := by
        rw [digs_high hb n0]
        by_cases z' : (digs b n).Nodup
        · rw [decide_eq_true z', decide_eq_true ((srt_perm _).nodup_iff.mpr z')]
        · rw [decide_eq_false z', decide_eq_false fun q' => z' ((srt_perm _).nodup_iff.mp q')]
      rw [eu, decide_eq_true rfl]
      exact q _ (((((((((((t5.trans s6).trans s7).trans s8).trans s9).trans s10).trans s11).trans sv).trans sw).trans sx).trans sz').trans (s12.trans s13))
theorem one_zeros_inB {b : Int} (hb : 2 ≤ b) (k : Nat) : InB b (1 :: List.replicate k 0) := fun w hw => by
  rcases List.mem_cons.mp hw with e | e
  · rw [e]
    omega
  · rw [List.eq_of_mem_replicate e]
    omega
theorem one_zeros_pow {b : Int} {k m : Nat} (hb : 2 ≤ b) (h : k < m + 1) (hp : b ^ m ≤ 10 ^ 90) (hb2 : b ≤ 10 ^ 30) : b ^ (1 :: List.replicate k (0 : Int)).length ≤ 10 ^ 250 := by
  rw [List.length_cons, List.length_replicate, Int.pow_succ]
  have h1 := pow_mono hb (show k ≤ m by omega)
  have p : 0 < b ^ k := Int.pow_pos (by omega)
  have m2 : b ^ k * b ≤ 10 ^ 90 * 10 ^ 30 := Int.mul_le_mul (by omega) hb2 (by omega) (by decide +kernel)
  have e : (10 : Int) ^ 90 * 10 ^ 30 ≤ 10 ^ 250 := by decide +kernel
  omega
def sp_law (K : PySem.W.Frag) : Sp := fun vs H Q _ => ∃ (a : Addr) (ns : List Int), vs = [V.ref a] ∧ SqL K H a (ns.map V.int) ∧ ns.length ≤ 63 ∧ ∀ H', Q (.bl true) H'
theorem ok_law (T : Txt K mg F D C) : FnOk P w K mg base CX0 9 (F 30) (D 30) ["_law_script"] (sp_law K) := by
  refine T.f_law.ok sc_law (fun vs H Q E h => ?_) (fun cdv A outer s H vs Q E hr h => ?_)
  · obtain ⟨a, ns, rfl, hs, hn, q⟩ := h
    rfl
  · obtain ⟨a, ns, rfl, hs, hn, q⟩ := h
    refine ⟨_, (pss_cons (ps_set (i := 1) sc_law.nd rfl (.inl rfl) (pe_call (ok__law_deal T) (hr.mono (by decide)) (by rfl) T.g__law_deal T.f__law_deal.kp T.b__law_deal .nil pass0 (pa_cons (pv 0) (pa_cons pe_int pa_nil)))) (pss_cons (ps_for PassesOwn.never rfl (pi_range1 (by rfl) T.n_range (pa_cons pe_int pa_nil)) (pg_name (i := 2) sc_law.nd rfl (.inl rfl)) (pss_cons (ps_set (i := 3) sc_law.nd rfl (.inr rfl) (pe_call (ok__law_base T) (hr.mono (by decide)) (by rfl) T.g__law_base T.f__law_base.kp T.b__law_base .nil pass0 (pa_cons (pv 1) pa_nil))) (pss_cons (ps_asg (pe_tup (pa_cons (pe_call (ok__law_number T) (hr.mono (by decide)) (by rfl) T.g__law_number T.f__law_number.kp T.b__law_number .nil pass0 (pa_cons (pv 1) (pa_cons (pv 3) pa_nil))) (pa_cons (pe_call (ok__law_number T) (hr.mono (by decide)) (by rfl) T.g__law_number T.f__law_number.kp T.b__law_number .nil pass0 (pa_cons (pv 1) (pa_cons (pv 3) pa_nil))) pa_nil))) (pg_tup rfl (pgs_cons (pg_name (i := 4) sc_law.nd rfl (.inr rfl)) (pgs_cons (pg_name (i := 5) sc_law.nd rfl (.inl rfl)) pgs_nil)))) (pss_cons (ps_set (i := 6) sc_law.nd rfl (.inl rfl) (pe_call (ok_many T) (hr.mono (by decide)) (by rfl) T.g_many T.f_many.kp T.b_many .nil pass0 (pa_cons (pv 4) (pa_cons (pv 3) pa_nil)))) (pss_cons (ps_set (i := 7) sc_law.nd rfl (.inl rfl) (pe_call (ok__law_draw T) (hr.mono (by decide)) (by rfl) T.g__law_draw T.f__law_draw.kp T.b__law_draw .nil pass0 (pa_cons (pv 1) (pa_cons (pe_op op_add (pv 6) pe_int) pa_nil)))) (pss_cons (ps_if (pt_cmpR op_ne (pe_call (ok_number_of T) (hr.mono (by decide)) (by rfl) T.g_number_of T.f_number_of.kp T.b_number_of .nil pass0 (pa_cons (pe_call (ok_figures_of T) (hr.mono (by decide)) (by rfl) T.g_figures_of T.f_figures_of.kp T.b_figures_of .nil pass0 (pa_cons (pv 4) (pa_cons (pv 3) pa_nil))) (pa_cons (pv 3) pa_nil))) (pv 4) (nomark _)) (pss_one (ps_ret pe_bl)) pss_nil) (pss_cons (ps_if (pt_cmpR op_ne (pe_callB (cr_sum rfl) (by rfl) T.n_sum Eb.bb_sum (pa_cons (pe_lc (own := [("_law_at", 11)]) rfl sc_law.nd (pi_range1 (by rfl) T.n_range (pa_cons (pv 6) pa_nil)) (blkOk_by (N := ["_law_script", "_law_deal_here", "_law_turn", "_law_base_here", "_law_number_here", "_law_other", "_law_size", "_law_k", "_law_head", "_law_tail", "_law_whole", "_law_at"]) (sc := defScope s_law) (by decide +kernel)) (fun _ _ _ _ _ => (pg_name (i := 11) sc_law.nd rfl (.inl rfl))) (fun _ _ _ _ _ => pts_nil) (fun _ _ _ _ _ => (pe_op op_mulW (pe_call (ok_figure T) (hr.mono (by decide)) (by rfl) T.g_figure T.f_figure.kp T.b_figure .nil pass0 (pa_cons (pv 4) (pa_cons (pv 11) (pa_cons (pv 3) pa_nil)))) (pe_call (ok__law_written T) (hr.mono (by decide)) (by rfl) T.g__law_written T.f__law_written.kp T.b__law_written .nil pass0 (pa_cons (pe_op op_cat (pe_lst (pa_cons pe_int pa_nil)) (pe_op op_rep (pe_lst (pa_cons pe_int pa_nil)) (pv 11))) (pa_cons (pv 3) pa_nil)))))) pa_nil)) (pv 4) (nomark _)) (pss_one (ps_ret pe_bl)) pss_nil) (pss_cons (ps_par (i := 8) (j := 9) (by rfl) sc_law.nd rfl rfl (by decide) rfl rfl (pa_cons (pe_call (ok_first T) (hr.mono (by decide)) (by rfl) T.g_first T.f_first.kp T.b_first .nil pass0 (pa_cons (pv 4) (pa_cons (pe_op op_sub (pv 6) (pv 7)) (pa_cons (pv 3) pa_nil)))) (pa_cons (pe_call (ok_last T) (hr.mono (by decide)) (by rfl) T.g_last T.f_last.kp T.b_last .nil pass0 (pa_cons (pv 4) (pa_cons (pv 7) (pa_cons (pv 3) pa_nil)))) pa_nil)) (by rfl)) (pss_cons (ps_if (pt_cmpR op_ne (pe_op op_add (pe_op op_mulW (pv 8) (pe_call (ok__law_written T) (hr.mono (by decide)) (by rfl) T.g__law_written T.f__law_written.kp T.b__law_written .nil pass0 (pa_cons (pe_op op_cat (pe_lst (pa_cons pe_int pa_nil)) (pe_op op_rep (pe_lst (pa_cons pe_int pa_nil)) (pv 7))) (pa_cons (pv 3) pa_nil)))) (pv 9)) (pv 4) (nomark _)) (pss_one (ps_ret pe_bl)) pss_nil) (pss_cons (ps_if (PW.pt (pw_and (pt_chain op_lt op_lt pe_int (pv 7) (pv 6)) (pw_and (pt_cmpR op_eq (pe_call (ok_many T) (hr.mono (by decide)) (by rfl) T.g_many T.f_many.kp T.b_many .nil pass0 (pa_cons (pv 9) (pa_cons (pv 3) pa_nil))) (pv 7) (nomark _)) (pw_and1 (pt_cmpR op_ne (pe_call (ok_joined T) (hr.mono (by decide)) (by rfl) T.g_joined T.f_joined.kp T.b_joined .nil pass0 (pa_cons (pv 8) (pa_cons (pv 9) (pa_cons (pv 3) pa_nil)))) (pv 4) (nomark _)))))) (pss_one (ps_ret pe_bl)) pss_nil) (pss_cons (ps_if (PW.pt (pw_or (pt_not (pt_val (pe_call (ok__law_sums_right T) (hr.mono (by decide)) (by rfl) T.g__law_sums_right T.f__law_sums_right.kp T.b__law_sums_right .nil pass0 (pa_cons (pv 4) (pa_cons (pv 3) pa_nil))))) (pw_or1 (pt_not (pt_val (pe_call (ok__law_order_right T) (hr.mono (by decide)) (by rfl) T.g__law_order_right T.f__law_order_right.kp T.b__law_order_right .nil pass0 (pa_cons (pv 4) (pa_cons (pv 3) pa_nil)))))))) (pss_one (ps_ret pe_bl)) pss_nil) (pss_cons (ps_set (i := 4) sc_law.nd rfl (.inr rfl) (pe_call (ok_first T) (hr.mono (by decide)) (by rfl) T.g_first T.f_first.kp T.b_first .nil pass0 (pa_cons (pv 4) (pa_cons (pe_callB (call_max2 rfl) (by rfl) T.n_max Eb.bb_max (pa_cons pe_int (pa_cons (pe_op op_fdivX (pv 6) pe_int) pa_nil))) (pa_cons (pv 3) pa_nil))))) (pss_cons (ps_set (i := 5) sc_law.nd rfl (.inl rfl) (pe_call (ok_first T) (hr.mono (by decide)) (by rfl) T.g_first T.f_first.kp T.b_first .nil pass0 (pa_cons (pv 5) (pa_cons (pe_callB (call_max2 rfl) (by rfl) T.n_max Eb.bb_max (pa_cons pe_int (pa_cons (pe_op op_fdivX (pe_call (ok_many T) (hr.mono (by decide)) (by rfl) T.g_many T.f_many.kp T.b_many .nil pass0 (pa_cons (pv 5) (pa_cons (pv 3) pa_nil))) pe_int) pa_nil))) (pa_cons (pv 3) pa_nil))))) (pss_cons (ps_par (i := 10) (j := 6) (by rfl) sc_law.nd rfl rfl (by decide) rfl rfl (pa_cons (pe_call (ok_joined T) (hr.mono (by decide)) (by rfl) T.g_joined T.f_joined.kp T.b_joined .nil pass0 (pa_cons (pv 4) (pa_cons (pv 5) (pa_cons (pv 3) pa_nil)))) (pa_cons (pe_call (ok_many T) (hr.mono (by decide)) (by rfl) T.g_many T.f_many.kp T.b_many .nil pass0 (pa_cons (pv 4) (pa_cons (pv 3) pa_nil))) pa_nil)) (by rfl)) (pss_cons (ps_if (pt_cmpR op_ne (pe_call (ok_total T) (hr.mono (by decide)) (by rfl) T.g_total T.f_total.kp T.b_total .nil pass0 (pa_cons (pv 10) (pa_cons (pv 3) pa_nil))) (pe_op op_add (pe_call (ok_total T) (hr.mono (by decide)) (by rfl) T.g_total T.f_total.kp T.b_total .nil pass0 (pa_cons (pv 4) (pa_cons (pv 3) pa_nil))) (pe_call (ok_total T) (hr.mono (by decide)) (by rfl) T.g_total T.f_total.kp T.b_total .nil pass0 (pa_cons (pv 5) (pa_cons (pv 3) pa_nil)))) (nomark _)) (pss_one (ps_ret pe_bl)) pss_nil) (pss_cons (ps_if (pt_cmpR op_ne (pe_call (ok_many T) (hr.mono (by decide)) (by rfl) T.g_many T.f_many.kp T.b_many .nil pass0 (pa_cons (pv 10) (pa_cons (pv 3) pa_nil))) (pe_op op_add (pe_op op_mulW (pe_call (ok_many T) (hr.mono (by decide)) (by rfl) T.g_many T.f_many.kp T.b_many .nil pass0 (pa_cons (pv 4) (pa_cons (pv 3) pa_nil))) (pe_callTy call_int1 (by rfl) T.n_int Eb.bb_int (pa_cons (pe_cmpR op_gt (pv 4) pe_int (nomark _)) pa_nil))) (pe_call (ok_many T) (hr.mono (by decide)) (by rfl) T.g_many T.f_many.kp T.b_many .nil pass0 (pa_cons (pv 5) (pa_cons (pv 3) pa_nil)))) (nomark _)) (pss_one (ps_ret pe_bl)) pss_nil) (pss_one (ps_if (PW.pt (pw_or (pt_cmpR op_ne (pe_call (ok_last T) (hr.mono (by decide)) (by rfl) T.g_last T.f_last.kp T.b_last .nil pass0 (pa_cons (pv 10) (pa_cons (pe_call (ok_many T) (hr.mono (by decide)) (by rfl) T.g_many T.f_many.kp T.b_many .nil pass0 (pa_cons (pv 5) (pa_cons (pv 3) pa_nil))) (pa_cons (pv 3) pa_nil)))) (pv 5) (nomark _)) (pw_or1 (PW.pt (pw_and (pt_cmpR op_ne (pe_call (ok_first T) (hr.mono (by decide)) (by rfl) T.g_first T.f_first.kp T.b_first .nil pass0 (pa_cons (pv 10) (pa_cons (pv 6) (pa_cons (pv 3) pa_nil)))) (pv 4) (nomark _)) (pw_and1 (pt_cmpR op_gt (pv 4) pe_int (nomark _)))))))) (pss_one (ps_ret pe_bl)) pss_nil)))))))))))))))))) (pss_one (ps_ret pe_bl)))), ?_⟩
    refine ⟨_, rfl, a, ns, 0, rfl, hs, hn, (by decide), (by decide), fun d l H0 s0 nd nl D0 => ?_⟩
    refine ⟨8, rfl, (by decide), (by decide), for_range (lo := 0) (n := (8 : Int).toNat) (fun i σ H' => ∃ v2 v3 v4 v5 v6 v7 v8 v9 v10 : Option V, σ = [some (.ref a), some (.ref d), v2, v3, v4, v5, v6, v7, v8, v9, v10, none] ∧ Deal H' d l) ⟨none, none, none, none, none, none, none, none, none, rfl, D0⟩ ?_ ?_⟩
    · rintro i σ H1 _ ⟨v2, v3, v4, v5, v6, v7, v8, v9, v10, rfl, D1⟩
      refine ⟨_, rfl, d, l, rfl, D1, fun b H2 hb hb2 w2 => ?_⟩
      have sb : Sm b := sm_of (by omega) (by omega)
      -- number, other
      refine ⟨_, rfl, _, rfl, d, l, b, rfl, w2.deal, hb, hb2, fun n H3 n0 n1 w3 => ?_⟩
      refine ⟨_, rfl, _, rfl, d, l, b, rfl, w3.deal, hb, hb2, fun o H4 o0 o1 w4 => ?_⟩
      refine ⟨szr rfl, fun t0 ht0 => ?_⟩
      have D4 : Deal (upd H4 t0 (.tup [.int n, .int o])) d l := w4.deal.same (same_new ht0)
      refine ⟨t0, _, rfl, sqT_new, rfl, _, _, rfl, _, _, rfl, rfl, ?_⟩
      generalize upd H4 t0 (.tup [.int n, .int o]) = H5 at D4 ⊢
      have sn : Sm n := sm_of n0 (by omega)
      have so : Sm o := sm_of o0 (by omega)
      have lp := len_pow hb hb2 n0 n1
      have big1 : (10 : Int) ^ 90 ≤ 10 ^ 200 := by decide +kernel
      have big2 : (10 : Int) ^ 200 ≤ 10 ^ 250 := by decide +kernel
      have big3 : (10 : Int) ^ 60 ≤ 10 ^ 90 := by decide +kernel
      have lp2 : b ^ (digs b n).length ≤ 10 ^ 250 := by omega
      have ll := len_two hb lp
      have lpo := len_pow hb hb2 o0 o1
      have llo := len_two hb lpo
      have inb := inB_digs hb n0
      have inr := inb.reverse
      have hne : (digs b n).length ≠ 0 := fun z => digs_ne hb n0 (List.length_eq_zero_iff.mp z)
      -- size, k
      refine ⟨_, rfl, _, rfl, n, b, rfl, n0, hb, sn, sb, fun H6 s6 => ?_⟩
      generalize hS : (((digs b n).length : Nat) : Int) = S
      refine ⟨_, rfl, _, rfl, _, _, rfl, rfl, d, l, _, rfl, D4.same s6, (show 0 < S + 1 by omega), sm_of (show 0 ≤ S + 1 by omega) (show S + 1 ≤ 10 ^ 61 by omega), fun k H7 k0 k1 w7 => ?_⟩
      replace k1 : k < S + 1 := k1
      have kN : k.toNat ≤ (digs b n).length := by omega
      -- number_of(figures_of(number)) != number
      refine ⟨_, rfl, _, rfl, n, b, rfl, n0, hb, sn, sb, fun p H8 s8 hp e8 => ?_⟩
      refine ⟨_, rfl, p, (digs b n).reverse, b, rfl, .inr e8, ?_, inr, hb, sb, by rw [List.length_reverse]; exact lp2, fun H9 s9 => ⟨_, rfl, ne_int (ofs_digs hb n0) ⟨_, rfl, iteF ?_⟩⟩⟩
      · intro z
        have := congrArg List.length z
        rw [List.length_reverse] at this
        exact hne this
      have D9 := (w7.deal.same s8).same s9
      -- sum([figure * written([1] + [0] * at)]) != number
      refine ⟨_, rfl, S, rfl, by omega, by omega, fun X1 hX1 => ?_⟩
      have eS : S.toNat = (digs b n).length := by omega
      rw [eS]
      refine lc_range (lo := 0) (n := (digs b n).length) (fun j H' => H' X1 = some (.lst (((List.range j).map fun x => (digs b n).getD x 0 * b ^ x).map V.int)) ∧ Same H9 H') ⟨upd_same, same_new hX1⟩ ?_ ?_
      · rintro j H' hj ⟨hz, sm⟩
        refine ⟨rfl, _, rfl, _, rfl, _, rfl, n, _, b, rfl, n0, hb, sn, by omega, by omega, by omega, fun H10 s10 => ?_⟩
        have ej : ((0 : Int) + (j : Int)).toNat = j := by omega
        refine ⟨szr rfl, fun u hu => ⟨szr rfl, fun y hy => ⟨_, rfl, ?_⟩⟩⟩
        have sv := same_new (o := .lst [.int 1]) hu
        have sw := same_new (o := .lst [.int 0]) hy
        refine ⟨y, _, _, rfl, rfl, upd_same, by omega, by omega, ?_, fun x hx => ?_⟩
        · refine sz ?_
          show 1 * ((0 : Int) + (j : Int)).toNat ≤ 100000
          omega
        rw [rep_zeros, ej]
        have sx := same_new (o := .lst (List.replicate j (V.int 0))) hx
        refine ⟨u, x, _, _, rfl, rfl, sx _ _ (sw _ _ upd_same), upd_same, ?_, fun z hz' => ?_⟩
        · rw [List.length_replicate]
          refine sz ?_
          show 1 + j ≤ 100000
          omega
        have sz' := same_new (o := .lst ([.int 1] ++ List.replicate j (V.int 0))) hz'
        refine ⟨_, rfl, z, 1 :: List.replicate j 0, b, rfl, ?_, sb, ofs_smB hb (one_zeros_inB hb j) (one_zeros_pow hb (Nat.lt_succ_of_lt hj) lp hb2), ?_⟩
        · rw [List.map_cons, List.map_replicate]
          exact sqL_new
        rw [ofs_one]
        have pj : 0 < b ^ j := Int.pow_pos (by omega)
        have pj2 : b ^ j ≤ 10 ^ 90 := by
          have := pow_mono hb (Nat.le_of_lt hj)
          omega
        have gj : 0 ≤ (digs b n).getD j 0 ∧ (digs b n).getD j 0 < b := by
          rw [← figure_at hb n0]
          exact ⟨Int.emod_nonneg _ (by omega), Int.emod_lt_of_pos _ (by omega)⟩
        have sA := (((s10.trans sv).trans sw).trans sx).trans sz'
        refine ⟨_, _, rfl, rfl, mulW (sb.le gj.1 (by omega)) (sm_big (by omega) (by omega)), _, sA _ _ hz, ?_, ?_, same_mut (sm.trans sA) hX1⟩
        · rw [List.length_map, List.length_map, List.length_range]
          exact szl (by omega)
        · rw [upd_same, List.range_succ, List.map_append, List.map_append]
          rfl
      rintro H10 ⟨hz, s10⟩
      refine ⟨X1, _, rfl, sqL_of hz, ?_⟩
      refine ⟨_, rfl, ne_int ?_ ⟨_, rfl, iteF ?_⟩⟩
      · rw [sum_places, List.take_length, val_digs hb n n0]
      have D10 := D9.same s10
      have hd := head_div hb n0 kN
      have eSk : (S - k).toNat = (digs b n).length - k.toNat := by omega
      have fl := first_le hb n0 ((digs b n).length - k.toNat)
      have pk : 0 < b ^ k.toNat := Int.pow_pos (by omega)
      have pk2 : b ^ k.toNat ≤ 10 ^ 90 := by
        have := pow_mono hb kN
        omega
      have tl0 : 0 ≤ n % b ^ k.toNat := Int.emod_nonneg _ (by omega)
      have tl1 : n % b ^ k.toNat ≤ n := by
        have e := Int.emod_add_mul_ediv n (b ^ k.toNat)
        have p0 : 0 ≤ b ^ k.toNat * (n / b ^ k.toNat) := Int.mul_nonneg (by omega) (Int.ediv_nonneg n0 (by omega))
        omega
      have whole_n : n / b ^ k.toNat * b ^ k.toNat + n % b ^ k.toNat = n := by
        have e := Int.emod_add_mul_ediv n (b ^ k.toNat)
        rw [Int.mul_comm (b ^ k.toNat)] at e
        omega
      rw [hd] at fl
      -- head, tail
      refine ⟨_, rfl, _, rfl, _, rfl, _, _, rfl, rfl, _, rfl, n, S - k, b, rfl, n0, hb, sn, sb, by omega, lp2, fun H11 s11 => ?_⟩
      rw [eSk, hd]
      refine ⟨_, rfl, _, rfl, _, rfl, n, k, b, rfl, n0, hb, by omega, k0, by omega, fun H12 s12 => ⟨_, _, rfl, ?_⟩⟩
      -- head * written([1] + [0] * k) + tail != number
      refine ⟨_, rfl, szr rfl, fun u hu => ⟨szr rfl, fun y hy => ⟨_, rfl, ?_⟩⟩⟩
      have sv := same_new (o := .lst [.int 1]) hu
      have sw := same_new (o := .lst [.int 0]) hy
      refine ⟨y, k, _, rfl, rfl, upd_same, by omega, by omega, ?_, fun x hx => ?_⟩
      · refine sz ?_
        show 1 * k.toNat ≤ 100000
        omega
      rw [rep_zeros]
      have sx := same_new (o := .lst (List.replicate k.toNat (V.int 0))) hx
      refine ⟨u, x, _, _, rfl, rfl, sx _ _ (sw _ _ upd_same), upd_same, ?_, fun z hz' => ?_⟩
      · rw [List.length_replicate]
        refine sz ?_
        show 1 + k.toNat ≤ 100000
        omega
      have sz' := same_new (o := .lst ([.int 1] ++ List.replicate k.toNat (V.int 0))) hz'
      refine ⟨_, rfl, z, 1 :: List.replicate k.toNat 0, b, rfl, ?_, sb, ofs_smB hb (one_zeros_inB hb _) (one_zeros_pow hb (Nat.lt_succ_of_le kN) lp hb2), ?_⟩
      · rw [List.map_cons, List.map_replicate]
        exact sqL_new
      rw [ofs_one]
      refine ⟨_, _, rfl, rfl, mulW (sn.le fl.1 fl.2) (sm_big (by omega) (by omega)), _, rfl, _, _, rfl, rfl, _, rfl, ne_int whole_n ⟨_, rfl, iteF ?_⟩⟩
      have D13 := (((((D10.same s11).same s12).same sv).same sw).same sx).same sz'
      generalize upd (upd (upd (upd H12 u (.lst [.int 1])) y (.lst [.int 0])) x (.lst (List.replicate k.toNat (V.int 0)))) z (.lst ([.int 1] ++ List.replicate k.toNat (V.int 0))) = H13 at D13 ⊢
      -- 0 < k < size and many(tail) == k and joined(head, tail) != number
      dsimp only [tNext]
      have stl : Sm (n % b ^ k.toNat) := sn.le tl0 tl1
      have ltl := len_two hb (len_pow hb hb2 tl0 (by omega))
      refine by_ifF (fun Q' kk => ?_) (fun H14 s14 => ?_)
      · refine ⟨_, rfl, _, _, rfl, rfl, _, rfl, ite2 (fun _ => ?_) (fun _ => ⟨_, rfl, iteF (kk _ (Same.refl _))⟩)⟩
        refine ⟨_, rfl, _, _, rfl, rfl, _, rfl, ite2 (fun _ => ?_) (fun _ => kk _ (Same.refl _))⟩
        refine ⟨_, rfl, _, rfl, _, b, rfl, tl0, hb, stl, sb, fun H14 s14 => ⟨_, rfl, rfl, _, rfl, ite2 (fun c => ?_) (fun _ => kk _ s14)⟩⟩
        have c' : (((digs b (n % b ^ k.toNat)).length : Nat) : Int) = k := V.int.inj (of_decide_eq_true c)
        refine ⟨_, rfl, _, rfl, _, rfl, _, _, b, rfl, fl.1, tl0, hb, sn.le fl.1 fl.2, stl, by omega, by omega, fun H15 s15 => ⟨_, rfl, ne_int ?_ ⟨_, rfl, kk _ (s14.trans s15)⟩⟩⟩
        rw [show (digs b (n % b ^ k.toNat)).length = k.toNat by omega]
        exact whole_n
      have D14 := D13.same s14
      -- sums_right, order_right
      refine ⟨_, rfl, _, rfl, n, b, rfl, n0, n1, hb, hb2, fun H15 s15 => ⟨true, rfl, iteF ?_⟩⟩
      refine ⟨_, rfl, _, rfl, n, b, rfl, n0, n1, hb, hb2, fun H16 s16 => ⟨true, rfl, iteF ?_⟩⟩
      -- number = first(number, max(1, size // 2))
      refine ⟨_, rfl, _, rfl, _, _, rfl, rfl, divW (by decide) (sm_of (by decide) (by decide)), _, _, rfl, _, rfl, n, _, b, rfl, n0, hb, sn, sb, by split <;> omega, lp2, fun H17 s17 => ?_⟩
      have fn := first_le hb n0 (if S / 2 > 1 then S / 2 else 1).toNat
      dsimp only at fn ⊢
      generalize hm : ofs b ((digs b n).reverse.take (if S / 2 > 1 then S / 2 else 1).toNat) = m at fn ⊢
      have m0 := fn.1
      have m1 : m < 10 ^ 60 := by omega
      have sm' : Sm m := sm_of m0 (by omega)
      -- other = first(other, max(1, many(other) // 2))
      refine ⟨_, rfl, _, rfl, _, rfl, o, b, rfl, o0, hb, so, sb, fun H18 s18 => ⟨_, _, rfl, rfl, divW (by decide) (sm_of (by decide) (by decide)), _, _, rfl, _, rfl, o, _, b, rfl, o0, hb, so, sb, ?_, by omega, fun H19 s19 => ?_⟩⟩
      · split <;> omega
      have fo := first_le hb o0 (if (((digs b o).length : Nat) : Int) / 2 > 1 then (((digs b o).length : Nat) : Int) / 2 else 1).toNat
      dsimp only at fo ⊢
      generalize ofs b ((digs b o).reverse.take (if (((digs b o).length : Nat) : Int) / 2 > 1 then (((digs b o).length : Nat) : Int) / 2 else 1).toNat) = p2 at fo ⊢
      have p0 := fo.1
      have p1 : p2 < 10 ^ 60 := by omega
      have sp2 : Sm p2 := sm_of p0 (by omega)
      have lpp := len_pow hb hb2 p0 p1
      have llp := len_two hb lpp
      have D19 := ((((D14.same s15).same s16).same s17).same s18).same s19
      -- whole, size
      refine ⟨_, rfl, _, rfl, _, rfl, m, p2, b, rfl, m0, p0, hb, sm', sp2, by omega, by omega, fun H20 s20 => ?_⟩
      refine ⟨_, rfl, _, rfl, m, b, rfl, m0, hb, sm', sb, fun H21 s21 => ⟨_, _, rfl, ?_⟩⟩
      have pp : 0 < b ^ (digs b p2).length := Int.pow_pos (by omega)
      have W0 : 0 ≤ m * b ^ (digs b p2).length + p2 := by
        have := Int.mul_nonneg m0 (Int.le_of_lt pp)
        omega
      have W1 : m * b ^ (digs b p2).length + p2 ≤ 10 ^ 200 := by
        have h1 : m * b ^ (digs b p2).length ≤ 10 ^ 60 * 10 ^ 90 := Int.mul_le_mul (by omega) lpp (by omega) (by decide)
        have h2 : (10 : Int) ^ 60 * 10 ^ 90 + 10 ^ 60 ≤ 10 ^ 200 := by decide +kernel
        omega
      have sW : Sm (m * b ^ (digs b p2).length + p2) := sm_big W0 (by omega)
      have dW : digs b (m * b ^ (digs b p2).length + p2) = if m = 0 then digs b p2 else digs b p2 ++ digs b m := by
        split
        · rename_i z
          rw [z, Int.zero_mul, Int.zero_add]
        · rename_i z
          exact digs_joined hb (by omega) p0
      have lW := lenB2 hb hb2 W0 W1
      have ltp := lt_pow hb p0
      -- total(whole) != total(number) + total(other)
      refine ⟨_, rfl, _, rfl, _, b, rfl, W0, hb, sW, sb, fun H22 s22 => ?_⟩
      refine ⟨_, rfl, _, rfl, m, b, rfl, m0, hb, sm', sb, fun H23 s23 => ?_⟩
      refine ⟨_, rfl, _, rfl, p2, b, rfl, p0, hb, sp2, sb, fun H24 s24 => ⟨_, _, rfl, rfl, ne_int ?_ ⟨_, rfl, iteF ?_⟩⟩⟩
      · unfold dsum
        rw [dW]
        split
        · rename_i z
          rw [z, digs_lt (show (0 : Int) < b by omega)]
          show _ = (0 : Int) + 0 + _
          omega
        · rw [List.sum_append]
          omega
      -- many(whole) != many(number) * int(number > 0) + many(other)
      refine ⟨_, rfl, _, rfl, _, b, rfl, W0, hb, sW, sb, fun H25 s25 => ?_⟩
      refine ⟨_, rfl, _, rfl, m, b, rfl, m0, hb, sm', sb, fun H26 s26 => ?_⟩
      refine ⟨_, rfl, _, _, rfl, rfl, .inr ⟨_, rfl, _, _, rfl, rfl, ?_, ?_⟩⟩
      · have l1 := len_two hb (len_pow hb hb2 m0 m1)
        refine mulW (sm_of (by omega) (by omega)) ?_
        split
        · exact sm_of (by decide) (by decide)
        · exact sm_of (by decide) (by decide)
      refine ⟨_, rfl, _, rfl, p2, b, rfl, p0, hb, sp2, sb, fun H27 s27 => ⟨_, _, rfl, rfl, ne_int ?_ ⟨_, rfl, iteF ?_⟩⟩⟩
      · rw [dW]
        by_cases z : m = 0
        · rw [if_pos z, decide_eq_false (show ¬ 0 < m by omega)]
          show _ = _ * (0 : Int) + _
          rw [Int.mul_zero, Int.zero_add]
        · rw [if_neg z, decide_eq_true (show 0 < m by omega), List.length_append]
          show _ = _ * (1 : Int) + _
          rw [Int.mul_one]
          omega
      -- last(whole, many(other)) != other or (first(whole, size) != number and number > 0)
      refine ⟨_, rfl, _, rfl, _, rfl, p2, b, rfl, p0, hb, sp2, sb, fun H28 s28 => ⟨_, rfl, _, _, b, rfl, W0, hb, by omega, by omega, by omega, fun H29 s29 => ⟨_, rfl, ne_int ?_ ⟨_, rfl, iteF ?_⟩⟩⟩⟩
      · show (m * b ^ (digs b p2).length + p2) % b ^ (((digs b p2).length : Nat) : Int).toNat = p2
        rw [show (((digs b p2).length : Nat) : Int).toNat = (digs b p2).length by omega, Int.add_comm, Int.add_mul_emod_self_right, Int.emod_eq_of_lt p0 ltp]
      refine ⟨_, rfl, _, rfl, _, rfl, _, _, b, rfl, W0, hb, sW, sb, by omega, lW, fun H30 s30 => ⟨_, rfl, rfl, _, rfl, ?_⟩⟩
      have DZ := ((((((((((D19.same s20).same s21).same s22).same s23).same s24).same s25).same s26).same s27).same s28).same s29).same s30
      rw [show (((digs b m).length : Nat) : Int).toNat = (digs b m).length by omega, dW]
      by_cases z : m = 0
      · rw [if_pos z]
        refine ite2 (fun _ => ?_) (fun _ => iteF ?_)
        · refine ⟨_, rfl, _, _, rfl, rfl, _, rfl, ?_⟩
          rw [decide_eq_false (show ¬ 0 < m by omega)]
          exact iteF ⟨_, _, _, _, _, _, _, _, _, rfl, DZ⟩
        · exact ⟨_, _, _, _, _, _, _, _, _, rfl, DZ⟩
      · rw [if_neg z]
        have e : ofs b ((digs b p2 ++ digs b m).reverse.take (digs b m).length) = m := by
          rw [List.reverse_append, List.take_append_of_le_length (by rw [List.length_reverse]; exact Nat.le_refl _), List.take_of_length_le (by rw [List.length_reverse]; exact Nat.le_refl _), ofs_digs hb m0]
        rw [e, decide_eq_true rfl]
        exact iteF (iteF ⟨_, _, _, _, _, _, _, _, _, rfl, DZ⟩)
    · rintro σ H1 ⟨v2, v3, v4, v5, v6, v7, v8, v9, v10, rfl, D1⟩
      exact q _

end
theorem all_mk {l : PySem.W.OpenLaw} {w : World} {K : PySem.W.Frag} {h : Heap} {mg : Str → Option Value} {fa : Addr} (X : K.In h) (G : h.Ns mainGlobals mg) (hfa : mg "law" = some (.ref fa))
    {f0 : Addr} {od0 an0 : Option Addr} {sl0 : Array (Option Value)} {oc0 kV0 dc0 pm0 cd0 ct0 : Value}
    {f1 : Addr} {od1 an1 : Option Addr} {sl1 : Array (Option Value)} {oc1 kV1 dc1 pm1 cd1 ct1 : Value}
    {f2 : Addr} {od2 an2 : Option Addr} {sl2 : Array (Option Value)} {oc2 kV2 dc2 pm2 cd2 ct2 : Value}
    {f3 : Addr} {od3 an3 : Option Addr} {sl3 : Array (Option Value)} {oc3 kV3 dc3 pm3 cd3 ct3 : Value}
    {f4 : Addr} {od4 an4 : Option Addr} {sl4 : Array (Option Value)} {oc4 kV4 dc4 pm4 cd4 ct4 : Value}
    {f5 : Addr} {od5 an5 : Option Addr} {sl5 : Array (Option Value)} {oc5 kV5 dc5 pm5 cd5 ct5 : Value}
    {f6 : Addr} {od6 an6 : Option Addr} {sl6 : Array (Option Value)} {oc6 kV6 dc6 pm6 cd6 ct6 : Value}
    {f7 : Addr} {od7 an7 : Option Addr} {sl7 : Array (Option Value)} {oc7 kV7 dc7 pm7 cd7 ct7 : Value}
    {f8 : Addr} {od8 an8 : Option Addr} {sl8 : Array (Option Value)} {oc8 kV8 dc8 pm8 cd8 ct8 : Value}
    {f9 : Addr} {od9 an9 : Option Addr} {sl9 : Array (Option Value)} {oc9 kV9 dc9 pm9 cd9 ct9 : Value}
    {f10 : Addr} {od10 an10 : Option Addr} {sl10 : Array (Option Value)} {oc10 kV10 dc10 pm10 cd10 ct10 : Value}
    {f11 : Addr} {od11 an11 : Option Addr} {sl11 : Array (Option Value)} {oc11 kV11 dc11 pm11 cd11 ct11 : Value}
    {f12 : Addr} {od12 an12 : Option Addr} {sl12 : Array (Option Value)} {oc12 kV12 dc12 pm12 cd12 ct12 : Value}
    {f13 : Addr} {od13 an13 : Option Addr} {sl13 : Array (Option Value)} {oc13 kV13 dc13 pm13 cd13 ct13 : Value}
    {f14 : Addr} {od14 an14 : Option Addr} {sl14 : Array (Option Value)} {oc14 kV14 dc14 pm14 cd14 ct14 : Value}
    {f15 : Addr} {od15 an15 : Option Addr} {sl15 : Array (Option Value)} {oc15 kV15 dc15 pm15 cd15 ct15 : Value}
    {f16 : Addr} {od16 an16 : Option Addr} {sl16 : Array (Option Value)} {oc16 kV16 dc16 pm16 cd16 ct16 : Value}
    {f17 : Addr} {od17 an17 : Option Addr} {sl17 : Array (Option Value)} {oc17 kV17 dc17 pm17 cd17 ct17 : Value}
    {f18 : Addr} {od18 an18 : Option Addr} {sl18 : Array (Option Value)} {oc18 kV18 dc18 pm18 cd18 ct18 : Value}
    {f19 : Addr} {od19 an19 : Option Addr} {sl19 : Array (Option Value)} {oc19 kV19 dc19 pm19 cd19 ct19 : Value}
    {f20 : Addr} {od20 an20 : Option Addr} {sl20 : Array (Option Value)} {oc20 kV20 dc20 pm20 cd20 ct20 : Value}
    {f21 : Addr} {od21 an21 : Option Addr} {sl21 : Array (Option Value)} {oc21 kV21 dc21 pm21 cd21 ct21 : Value}
    {f22 : Addr} {od22 an22 : Option Addr} {sl22 : Array (Option Value)} {oc22 kV22 dc22 pm22 cd22 ct22 : Value}
    {f23 : Addr} {od23 an23 : Option Addr} {sl23 : Array (Option Value)} {oc23 kV23 dc23 pm23 cd23 ct23 : Value}
    {f24 : Addr} {od24 an24 : Option Addr} {sl24 : Array (Option Value)} {oc24 kV24 dc24 pm24 cd24 ct24 : Value}
    {f25 : Addr} {od25 an25 : Option Addr} {sl25 : Array (Option Value)} {oc25 kV25 dc25 pm25 cd25 ct25 : Value}
    {f26 : Addr} {od26 an26 : Option Addr} {sl26 : Array (Option Value)} {oc26 kV26 dc26 pm26 cd26 ct26 : Value}
    {f27 : Addr} {od27 an27 : Option Addr} {sl27 : Array (Option Value)} {oc27 kV27 dc27 pm27 cd27 ct27 : Value}
    {f28 : Addr} {od28 an28 : Option Addr} {sl28 : Array (Option Value)} {oc28 kV28 dc28 pm28 cd28 ct28 : Value}
    {f29 : Addr} {od29 an29 : Option Addr} {sl29 : Array (Option Value)} {oc29 kV29 dc29 pm29 cd29 ct29 : Value}
    {f30 : Addr} {od30 an30 : Option Addr} {sl30 : Array (Option Value)} {oc30 kV30 dc30 pm30 cd30 ct30 : Value}
    {tk0 : Tok}
    (a0 : PySem.W.nsIn K mainGlobals "is_integer" = some (some (.ref f0)))
    (l0 : K.lookup f0 = some ⟨oc0, od0, .func (PySem.W.fnOf "is_integer" "is_integer" (defArgs s_is_integer) (defBody s_is_integer) (defScope s_is_integer) .none kV0 dc0 pm0 an0 cd0 ct0), sl0⟩)
    (c0 : PySem.W.codeIn K cd0 "is_integer" = true)
    (k0 : PySem.W.keepIn K (.ref f0) = true)
    (a1 : PySem.W.nsIn K mainGlobals "is_number" = some (some (.ref f1)))
    (l1 : K.lookup f1 = some ⟨oc1, od1, .func (PySem.W.fnOf "is_number" "is_number" (defArgs s_is_number) (defBody s_is_number) (defScope s_is_number) .none kV1 dc1 pm1 an1 cd1 ct1), sl1⟩)
    (c1 : PySem.W.codeIn K cd1 "is_number" = true)
    (k1 : PySem.W.keepIn K (.ref f1) = true)
    (a2 : PySem.W.nsIn K mainGlobals "is_base" = some (some (.ref f2)))
    (l2 : K.lookup f2 = some ⟨oc2, od2, .func (PySem.W.fnOf "is_base" "is_base" (defArgs s_is_base) (defBody s_is_base) (defScope s_is_base) .none kV2 dc2 pm2 an2 cd2 ct2), sl2⟩)
    (c2 : PySem.W.codeIn K cd2 "is_base" = true)
    (k2 : PySem.W.keepIn K (.ref f2) = true)
    (a3 : PySem.W.nsIn K mainGlobals "need_base" = some (some (.ref f3)))
    (l3 : K.lookup f3 = some ⟨oc3, od3, .func (PySem.W.fnOf "need_base" "need_base" (defArgs s_need_base) (defBody s_need_base) (defScope s_need_base) .none kV3 dc3 pm3 an3 cd3 ct3), sl3⟩)
    (c3 : PySem.W.codeIn K cd3 "need_base" = true)
    (k3 : PySem.W.keepIn K (.ref f3) = true)
    (a4 : PySem.W.nsIn K mainGlobals "need_numbers" = some (some (.ref f4)))
    (l4 : K.lookup f4 = some ⟨oc4, od4, .func (PySem.W.fnOf "need_numbers" "need_numbers" (defArgs s_need_numbers) (defBody s_need_numbers) (defScope s_need_numbers) .none kV4 dc4 pm4 an4 cd4 ct4), sl4⟩)
    (c4 : PySem.W.codeIn K cd4 "need_numbers" = true)
    (k4 : PySem.W.keepIn K (.ref f4) = true)
    (a5 : PySem.W.nsIn K mainGlobals "power" = some (some (.ref f5)))
    (l5 : K.lookup f5 = some ⟨oc5, od5, .func (PySem.W.fnOf "power" "power" (defArgs s_power) (defBody s_power) (defScope s_power) .none kV5 dc5 pm5 an5 cd5 ct5), sl5⟩)
    (c5 : PySem.W.codeIn K cd5 "power" = true)
    (k5 : PySem.W.keepIn K (.ref f5) = true)
    (a6 : PySem.W.nsIn K mainGlobals "figures_of" = some (some (.ref f6)))
    (l6 : K.lookup f6 = some ⟨oc6, od6, .func (PySem.W.fnOf "figures_of" "figures_of" (defArgs s_figures_of) (defBody s_figures_of) (defScope s_figures_of) .none kV6 dc6 pm6 an6 cd6 ct6), sl6⟩)
    (c6 : PySem.W.codeIn K cd6 "figures_of" = true)
    (k6 : PySem.W.keepIn K (.ref f6) = true)
    (a7 : PySem.W.nsIn K mainGlobals "put_together" = some (some (.ref f7)))
    (l7 : K.lookup f7 = some ⟨oc7, od7, .func (PySem.W.fnOf "put_together" "put_together" (defArgs s_put_together) (defBody s_put_together) (defScope s_put_together) .none kV7 dc7 pm7 an7 cd7 ct7), sl7⟩)
    (c7 : PySem.W.codeIn K cd7 "put_together" = true)
    (k7 : PySem.W.keepIn K (.ref f7) = true)
    (a8 : PySem.W.nsIn K mainGlobals "number_of" = some (some (.ref f8)))
    (l8 : K.lookup f8 = some ⟨oc8, od8, .func (PySem.W.fnOf "number_of" "number_of" (defArgs s_number_of) (defBody s_number_of) (defScope s_number_of) .none kV8 dc8 pm8 an8 cd8 ct8), sl8⟩)
    (c8 : PySem.W.codeIn K cd8 "number_of" = true)
    (k8 : PySem.W.keepIn K (.ref f8) = true)
    (a9 : PySem.W.nsIn K mainGlobals "ascending" = some (some (.ref f9)))
    (l9 : K.lookup f9 = some ⟨oc9, od9, .func (PySem.W.fnOf "ascending" "ascending" (defArgs s_ascending) (defBody s_ascending) (defScope s_ascending) .none kV9 dc9 pm9 an9 cd9 ct9), sl9⟩)
    (c9 : PySem.W.codeIn K cd9 "ascending" = true)
    (k9 : PySem.W.keepIn K (.ref f9) = true)
    (a10 : PySem.W.nsIn K mainGlobals "turned" = some (some (.ref f10)))
    (l10 : K.lookup f10 = some ⟨oc10, od10, .func (PySem.W.fnOf "turned" "turned" (defArgs s_turned) (defBody s_turned) (defScope s_turned) .none kV10 dc10 pm10 an10 cd10 ct10), sl10⟩)
    (c10 : PySem.W.codeIn K cd10 "turned" = true)
    (k10 : PySem.W.keepIn K (.ref f10) = true)
    (a11 : PySem.W.nsIn K mainGlobals "least" = some (some (.ref f11)))
    (l11 : K.lookup f11 = some ⟨oc11, od11, .func (PySem.W.fnOf "least" "least" (defArgs s_least) (defBody s_least) (defScope s_least) .none kV11 dc11 pm11 an11 cd11 ct11), sl11⟩)
    (c11 : PySem.W.codeIn K cd11 "least" = true)
    (k11 : PySem.W.keepIn K (.ref f11) = true)
    (a12 : PySem.W.nsIn K mainGlobals "greatest" = some (some (.ref f12)))
    (l12 : K.lookup f12 = some ⟨oc12, od12, .func (PySem.W.fnOf "greatest" "greatest" (defArgs s_greatest) (defBody s_greatest) (defScope s_greatest) .none kV12 dc12 pm12 an12 cd12 ct12), sl12⟩)
    (c12 : PySem.W.codeIn K cd12 "greatest" = true)
    (k12 : PySem.W.keepIn K (.ref f12) = true)
    (a13 : PySem.W.nsIn K mainGlobals "total" = some (some (.ref f13)))
    (l13 : K.lookup f13 = some ⟨oc13, od13, .func (PySem.W.fnOf "total" "total" (defArgs s_total) (defBody s_total) (defScope s_total) .none kV13 dc13 pm13 an13 cd13 ct13), sl13⟩)
    (c13 : PySem.W.codeIn K cd13 "total" = true)
    (k13 : PySem.W.keepIn K (.ref f13) = true)
    (a14 : PySem.W.nsIn K mainGlobals "many" = some (some (.ref f14)))
    (l14 : K.lookup f14 = some ⟨oc14, od14, .func (PySem.W.fnOf "many" "many" (defArgs s_many) (defBody s_many) (defScope s_many) .none kV14 dc14 pm14 an14 cd14 ct14), sl14⟩)
    (c14 : PySem.W.codeIn K cd14 "many" = true)
    (k14 : PySem.W.keepIn K (.ref f14) = true)
    (a15 : PySem.W.nsIn K mainGlobals "root" = some (some (.ref f15)))
    (l15 : K.lookup f15 = some ⟨oc15, od15, .func (PySem.W.fnOf "root" "root" (defArgs s_root) (defBody s_root) (defScope s_root) .none kV15 dc15 pm15 an15 cd15 ct15), sl15⟩)
    (c15 : PySem.W.codeIn K cd15 "root" = true)
    (k15 : PySem.W.keepIn K (.ref f15) = true)
    (a16 : PySem.W.nsIn K mainGlobals "figure" = some (some (.ref f16)))
    (l16 : K.lookup f16 = some ⟨oc16, od16, .func (PySem.W.fnOf "figure" "figure" (defArgs s_figure) (defBody s_figure) (defScope s_figure) .none kV16 dc16 pm16 an16 cd16 ct16), sl16⟩)
    (c16 : PySem.W.codeIn K cd16 "figure" = true)
    (k16 : PySem.W.keepIn K (.ref f16) = true)
    (a17 : PySem.W.nsIn K mainGlobals "first" = some (some (.ref f17)))
    (l17 : K.lookup f17 = some ⟨oc17, od17, .func (PySem.W.fnOf "first" "first" (defArgs s_first) (defBody s_first) (defScope s_first) .none kV17 dc17 pm17 an17 cd17 ct17), sl17⟩)
    (c17 : PySem.W.codeIn K cd17 "first" = true)
    (k17 : PySem.W.keepIn K (.ref f17) = true)
    (a18 : PySem.W.nsIn K mainGlobals "last" = some (some (.ref f18)))
    (l18 : K.lookup f18 = some ⟨oc18, od18, .func (PySem.W.fnOf "last" "last" (defArgs s_last) (defBody s_last) (defScope s_last) .none kV18 dc18 pm18 an18 cd18 ct18), sl18⟩)
    (c18 : PySem.W.codeIn K cd18 "last" = true)
    (k18 : PySem.W.keepIn K (.ref f18) = true)
    (a19 : PySem.W.nsIn K mainGlobals "joined" = some (some (.ref f19)))
    (l19 : K.lookup f19 = some ⟨oc19, od19, .func (PySem.W.fnOf "joined" "joined" (defArgs s_joined) (defBody s_joined) (defScope s_joined) .none kV19 dc19 pm19 an19 cd19 ct19), sl19⟩)
    (c19 : PySem.W.codeIn K cd19 "joined" = true)
    (k19 : PySem.W.keepIn K (.ref f19) = true)
    (a20 : PySem.W.nsIn K mainGlobals "mirrored" = some (some (.ref f20)))
    (l20 : K.lookup f20 = some ⟨oc20, od20, .func (PySem.W.fnOf "mirrored" "mirrored" (defArgs s_mirrored) (defBody s_mirrored) (defScope s_mirrored) .none kV20 dc20 pm20 an20 cd20 ct20), sl20⟩)
    (c20 : PySem.W.codeIn K cd20 "mirrored" = true)
    (k20 : PySem.W.keepIn K (.ref f20) = true)
    (a21 : PySem.W.nsIn K mainGlobals "unlike" = some (some (.ref f21)))
    (l21 : K.lookup f21 = some ⟨oc21, od21, .func (PySem.W.fnOf "unlike" "unlike" (defArgs s_unlike) (defBody s_unlike) (defScope s_unlike) .none kV21 dc21 pm21 an21 cd21 ct21), sl21⟩)
    (c21 : PySem.W.codeIn K cd21 "unlike" = true)
    (k21 : PySem.W.keepIn K (.ref f21) = true)
    (a22 : PySem.W.nsIn K mainGlobals "_law_deal" = some (some (.ref f22)))
    (l22 : K.lookup f22 = some ⟨oc22, od22, .func (PySem.W.fnOf "_law_deal" "_law_deal" (defArgs s__law_deal) (defBody s__law_deal) (defScope s__law_deal) .none kV22 dc22 pm22 an22 cd22 ct22), sl22⟩)
    (c22 : PySem.W.codeIn K cd22 "_law_deal" = true)
    (k22 : PySem.W.keepIn K (.ref f22) = true)
    (a23 : PySem.W.nsIn K mainGlobals "_law_draw" = some (some (.ref f23)))
    (l23 : K.lookup f23 = some ⟨oc23, od23, .func (PySem.W.fnOf "_law_draw" "_law_draw" (defArgs s__law_draw) (defBody s__law_draw) (defScope s__law_draw) .none kV23 dc23 pm23 an23 cd23 ct23), sl23⟩)
    (c23 : PySem.W.codeIn K cd23 "_law_draw" = true)
    (k23 : PySem.W.keepIn K (.ref f23) = true)
    (a24 : PySem.W.nsIn K mainGlobals "_law_pick" = some (some (.ref f24)))
    (l24 : K.lookup f24 = some ⟨oc24, od24, .func (PySem.W.fnOf "_law_pick" "_law_pick" (defArgs s__law_pick) (defBody s__law_pick) (defScope s__law_pick) .none kV24 dc24 pm24 an24 cd24 ct24), sl24⟩)
    (c24 : PySem.W.codeIn K cd24 "_law_pick" = true)
    (k24 : PySem.W.keepIn K (.ref f24) = true)
    (a25 : PySem.W.nsIn K mainGlobals "_law_base" = some (some (.ref f25)))
    (l25 : K.lookup f25 = some ⟨oc25, od25, .func (PySem.W.fnOf "_law_base" "_law_base" (defArgs s__law_base) (defBody s__law_base) (defScope s__law_base) .none kV25 dc25 pm25 an25 cd25 ct25), sl25⟩)
    (c25 : PySem.W.codeIn K cd25 "_law_base" = true)
    (k25 : PySem.W.keepIn K (.ref f25) = true)
    (a26 : PySem.W.nsIn K mainGlobals "_law_written" = some (some (.ref f26)))
    (l26 : K.lookup f26 = some ⟨oc26, od26, .func (PySem.W.fnOf "_law_written" "_law_written" (defArgs s__law_written) (defBody s__law_written) (defScope s__law_written) .none kV26 dc26 pm26 an26 cd26 ct26), sl26⟩)
    (c26 : PySem.W.codeIn K cd26 "_law_written" = true)
    (k26 : PySem.W.keepIn K (.ref f26) = true)
    (a27 : PySem.W.nsIn K mainGlobals "_law_number" = some (some (.ref f27)))
    (l27 : K.lookup f27 = some ⟨oc27, od27, .func (PySem.W.fnOf "_law_number" "_law_number" (defArgs s__law_number) (defBody s__law_number) (defScope s__law_number) .none kV27 dc27 pm27 an27 cd27 ct27), sl27⟩)
    (c27 : PySem.W.codeIn K cd27 "_law_number" = true)
    (k27 : PySem.W.keepIn K (.ref f27) = true)
    (a28 : PySem.W.nsIn K mainGlobals "_law_sums_right" = some (some (.ref f28)))
    (l28 : K.lookup f28 = some ⟨oc28, od28, .func (PySem.W.fnOf "_law_sums_right" "_law_sums_right" (defArgs s__law_sums_right) (defBody s__law_sums_right) (defScope s__law_sums_right) .none kV28 dc28 pm28 an28 cd28 ct28), sl28⟩)
    (c28 : PySem.W.codeIn K cd28 "_law_sums_right" = true)
    (k28 : PySem.W.keepIn K (.ref f28) = true)
    (a29 : PySem.W.nsIn K mainGlobals "_law_order_right" = some (some (.ref f29)))
    (l29 : K.lookup f29 = some ⟨oc29, od29, .func (PySem.W.fnOf "_law_order_right" "_law_order_right" (defArgs s__law_order_right) (defBody s__law_order_right) (defScope s__law_order_right) .none kV29 dc29 pm29 an29 cd29 ct29), sl29⟩)
    (c29 : PySem.W.codeIn K cd29 "_law_order_right" = true)
    (k29 : PySem.W.keepIn K (.ref f29) = true)
    (a30 : PySem.W.nsIn K mainGlobals "law" = some (some (.ref f30)))
    (l30 : K.lookup f30 = some ⟨oc30, od30, .func (PySem.W.fnOf "law" "law" (defArgs s_law) (defBody s_law) (defScope s_law) .none kV30 dc30 pm30 an30 cd30 ct30), sl30⟩)
    (c30 : PySem.W.codeIn K cd30 "law" = true)
    (k30 : PySem.W.keepIn K (.ref f30) = true)
    (z0 : PySem.W.nsIn K mainGlobals "isinstance" = some none)
    (z1 : PySem.W.nsIn K mainGlobals "int" = some none)
    (z2 : PySem.W.nsIn K mainGlobals "bool" = some none)
    (z3 : PySem.W.nsIn K mainGlobals "range" = some none)
    (z4 : PySem.W.nsIn K mainGlobals "tuple" = some none)
    (z5 : PySem.W.nsIn K mainGlobals "list" = some none)
    (z6 : PySem.W.nsIn K mainGlobals "len" = some none)
    (z7 : PySem.W.nsIn K mainGlobals "enumerate" = some none)
    (z8 : PySem.W.nsIn K mainGlobals "sorted" = some none)
    (z9 : PySem.W.nsIn K mainGlobals "sum" = some none)
    (z10 : PySem.W.nsIn K mainGlobals "set" = some none)
    (z11 : PySem.W.nsIn K mainGlobals "min" = some none)
    (z12 : PySem.W.nsIn K mainGlobals "max" = some none)
    (y0 : PySem.W.nsIn K mainGlobals "LEAST_BASE" = some (some (.int 2 tk0))) :
    ∃ fd : FuncData, (∀ (s : Shared) (v : Value), BindsTo s fd ⟨[v], []⟩ [("_law_script", v)]) ∧ ∀ base : Heap, K.In base → base.Ns mainGlobals mg → FnOk l.prog w K mg base CX0 9 fa fd ["_law_script"] (sp_law K) := by
  obtain rfl : f30 = fa := by
    have e := hfa.symm.trans (PySem.W.mg_of X G a30)
    cases e
    rfl
  have F0 := fun_mk (st := s_is_integer) l0 c0 k0
  have B0 := F0.binds (ps := ["value"]) fun _ _ _ _ _ _ us hl => match us, hl with | [_], _ => rfl
  have F1 := fun_mk (st := s_is_number) l1 c1 k1
  have B1 := F1.binds (ps := ["value"]) fun _ _ _ _ _ _ us hl => match us, hl with | [_], _ => rfl
  have F2 := fun_mk (st := s_is_base) l2 c2 k2
  have B2 := F2.binds (ps := ["value"]) fun _ _ _ _ _ _ us hl => match us, hl with | [_], _ => rfl
  have F3 := fun_mk (st := s_need_base) l3 c3 k3
  have B3 := F3.binds (ps := ["base"]) fun _ _ _ _ _ _ us hl => match us, hl with | [_], _ => rfl
  have F4 := fun_mk (st := s_need_numbers) l4 c4 k4
  have B4 := F4.binds (ps := ["numbers", "base"]) fun _ _ _ _ _ _ us hl => match us, hl with | [_, _], _ => rfl
  have F5 := fun_mk (st := s_power) l5 c5 k5
  have B5 := F5.binds (ps := ["base", "k"]) fun _ _ _ _ _ _ us hl => match us, hl with | [_, _], _ => rfl
  have F6 := fun_mk (st := s_figures_of) l6 c6 k6
  have B6 := F6.binds (ps := ["number", "base"]) fun _ _ _ _ _ _ us hl => match us, hl with | [_, _], _ => rfl
  have F7 := fun_mk (st := s_put_together) l7 c7 k7
  have B7 := F7.binds (ps := ["figures", "base"]) fun _ _ _ _ _ _ us hl => match us, hl with | [_, _], _ => rfl
  have F8 := fun_mk (st := s_number_of) l8 c8 k8
  have B8 := F8.binds (ps := ["figures", "base"]) fun _ _ _ _ _ _ us hl => match us, hl with | [_, _], _ => rfl
  have F9 := fun_mk (st := s_ascending) l9 c9 k9
  have B9 := F9.binds (ps := ["number", "base"]) fun _ _ _ _ _ _ us hl => match us, hl with | [_, _], _ => rfl
  have F10 := fun_mk (st := s_turned) l10 c10 k10
  have B10 := F10.binds (ps := ["number", "base"]) fun _ _ _ _ _ _ us hl => match us, hl with | [_, _], _ => rfl
  have F11 := fun_mk (st := s_least) l11 c11 k11
  have B11 := F11.binds (ps := ["number", "base"]) fun _ _ _ _ _ _ us hl => match us, hl with | [_, _], _ => rfl
  have F12 := fun_mk (st := s_greatest) l12 c12 k12
  have B12 := F12.binds (ps := ["number", "base"]) fun _ _ _ _ _ _ us hl => match us, hl with | [_, _], _ => rfl
  have F13 := fun_mk (st := s_total) l13 c13 k13
  have B13 := F13.binds (ps := ["number", "base"]) fun _ _ _ _ _ _ us hl => match us, hl with | [_, _], _ => rfl
  have F14 := fun_mk (st := s_many) l14 c14 k14
  have B14 := F14.binds (ps := ["number", "base"]) fun _ _ _ _ _ _ us hl => match us, hl with | [_, _], _ => rfl
  have F15 := fun_mk (st := s_root) l15 c15 k15
  have B15 := F15.binds (ps := ["number", "base"]) fun _ _ _ _ _ _ us hl => match us, hl with | [_, _], _ => rfl
  have F16 := fun_mk (st := s_figure) l16 c16 k16
  have B16 := F16.binds (ps := ["number", "k", "base"]) fun _ _ _ _ _ _ us hl => match us, hl with | [_, _, _], _ => rfl
  have F17 := fun_mk (st := s_first) l17 c17 k17
  have B17 := F17.binds (ps := ["number", "k", "base"]) fun _ _ _ _ _ _ us hl => match us, hl with | [_, _, _], _ => rfl
  have F18 := fun_mk (st := s_last) l18 c18 k18
  have B18 := F18.binds (ps := ["number", "k", "base"]) fun _ _ _ _ _ _ us hl => match us, hl with | [_, _, _], _ => rfl
  have F19 := fun_mk (st := s_joined) l19 c19 k19
  have B19 := F19.binds (ps := ["number", "other", "base"]) fun _ _ _ _ _ _ us hl => match us, hl with | [_, _, _], _ => rfl
  have F20 := fun_mk (st := s_mirrored) l20 c20 k20
  have B20 := F20.binds (ps := ["number", "base"]) fun _ _ _ _ _ _ us hl => match us, hl with | [_, _], _ => rfl
  have F21 := fun_mk (st := s_unlike) l21 c21 k21
  have B21 := F21.binds (ps := ["number", "base"]) fun _ _ _ _ _ _ us hl => match us, hl with | [_, _], _ => rfl
  have F22 := fun_mk (st := s__law_deal) l22 c22 k22
  have B22 := F22.binds (ps := ["_law_script", "_law_base_here"]) fun _ _ _ _ _ _ us hl => match us, hl with | [_, _], _ => rfl
  have F23 := fun_mk (st := s__law_draw) l23 c23 k23
  have B23 := F23.binds (ps := ["_law_deal_here", "_law_span"]) fun _ _ _ _ _ _ us hl => match us, hl with | [_, _], _ => rfl
  have F24 := fun_mk (st := s__law_pick) l24 c24 k24
  have B24 := F24.binds (ps := ["_law_deal_here", "_law_some"]) fun _ _ _ _ _ _ us hl => match us, hl with | [_, _], _ => rfl
  have F25 := fun_mk (st := s__law_base) l25 c25 k25
  have B25 := F25.binds (ps := ["_law_deal_here"]) fun _ _ _ _ _ _ us hl => match us, hl with | [_], _ => rfl
  have F26 := fun_mk (st := s__law_written) l26 c26 k26
  have B26 := F26.binds (ps := ["_law_figures_here", "_law_base_here"]) fun _ _ _ _ _ _ us hl => match us, hl with | [_, _], _ => rfl
  have F27 := fun_mk (st := s__law_number) l27 c27 k27
  have B27 := F27.binds (ps := ["_law_deal_here", "_law_base_here"]) fun _ _ _ _ _ _ us hl => match us, hl with | [_, _], _ => rfl
  have F28 := fun_mk (st := s__law_sums_right) l28 c28 k28
  have B28 := F28.binds (ps := ["_law_number_here", "_law_base_here"]) fun _ _ _ _ _ _ us hl => match us, hl with | [_, _], _ => rfl
  have F29 := fun_mk (st := s__law_order_right) l29 c29 k29
  have B29 := F29.binds (ps := ["_law_number_here", "_law_base_here"]) fun _ _ _ _ _ _ us hl => match us, hl with | [_, _], _ => rfl
  have F30 := fun_mk (st := s_law) l30 c30 k30
  have B30 := F30.binds (ps := ["_law_script"]) fun _ _ _ _ _ _ us hl => match us, hl with | [_], _ => rfl
  have T : Txt K mg (fun i => match i with | 0 => f0 | 1 => f1 | 2 => f2 | 3 => f3 | 4 => f4 | 5 => f5 | 6 => f6 | 7 => f7 | 8 => f8 | 9 => f9 | 10 => f10 | 11 => f11 | 12 => f12 | 13 => f13 | 14 => f14 | 15 => f15 | 16 => f16 | 17 => f17 | 18 => f18 | 19 => f19 | 20 => f20 | 21 => f21 | 22 => f22 | 23 => f23 | 24 => f24 | 25 => f25 | 26 => f26 | 27 => f27 | 28 => f28 | 29 => f29 | 30 => f30 | _ => 0) (fun i => match i with | 0 => (PySem.W.fnOf "is_integer" "is_integer" (defArgs s_is_integer) (defBody s_is_integer) (defScope s_is_integer) .none kV0 dc0 pm0 an0 cd0 ct0) | 1 => (PySem.W.fnOf "is_number" "is_number" (defArgs s_is_number) (defBody s_is_number) (defScope s_is_number) .none kV1 dc1 pm1 an1 cd1 ct1) | 2 => (PySem.W.fnOf "is_base" "is_base" (defArgs s_is_base) (defBody s_is_base) (defScope s_is_base) .none kV2 dc2 pm2 an2 cd2 ct2) | 3 => (PySem.W.fnOf "need_base" "need_base" (defArgs s_need_base) (defBody s_need_base) (defScope s_need_base) .none kV3 dc3 pm3 an3 cd3 ct3) | 4 => (PySem.W.fnOf "need_numbers" "need_numbers" (defArgs s_need_numbers) (defBody s_need_numbers) (defScope s_need_numbers) .none kV4 dc4 pm4 an4 cd4 ct4) | 5 => (PySem.W.fnOf "power" "power" (defArgs s_power) (defBody s_power) (defScope s_power) .none kV5 dc5 pm5 an5 cd5 ct5) | 6 => (PySem.W.fnOf "figures_of" "figures_of" (defArgs s_figures_of) (defBody s_figures_of) (defScope s_figures_of) .none kV6 dc6 pm6 an6 cd6 ct6) | 7 => (PySem.W.fnOf "put_together" "put_together" (defArgs s_put_together) (defBody s_put_together) (defScope s_put_together) .none kV7 dc7 pm7 an7 cd7 ct7) | 8 => (PySem.W.fnOf "number_of" "number_of" (defArgs s_number_of) (defBody s_number_of) (defScope s_number_of) .none kV8 dc8 pm8 an8 cd8 ct8) | 9 => (PySem.W.fnOf "ascending" "ascending" (defArgs s_ascending) (defBody s_ascending) (defScope s_ascending) .none kV9 dc9 pm9 an9 cd9 ct9) | 10 => (PySem.W.fnOf "turned" "turned" (defArgs s_turned) (defBody s_turned) (defScope s_turned) .none kV10 dc10 pm10 an10 cd10 ct10) | 11 => (PySem.W.fnOf "least" "least" (defArgs s_least) (defBody s_least) (defScope s_least) .none kV11 dc11 pm11 an11 cd11 ct11) | 12 => (PySem.W.fnOf "greatest" "greatest" (defArgs s_greatest) (defBody s_greatest) (defScope s_greatest) .none kV12 dc12 pm12 an12 cd12 ct12) | 13 => (PySem.W.fnOf "total" "total" (defArgs s_total) (defBody s_total) (defScope s_total) .none kV13 dc13 pm13 an13 cd13 ct13) | 14 => (PySem.W.fnOf "many" "many" (defArgs s_many) (defBody s_many) (defScope s_many) .none kV14 dc14 pm14 an14 cd14 ct14) | 15 => (PySem.W.fnOf "root" "root" (defArgs s_root) (defBody s_root) (defScope s_root) .none kV15 dc15 pm15 an15 cd15 ct15) | 16 => (PySem.W.fnOf "figure" "figure" (defArgs s_figure) (defBody s_figure) (defScope s_figure) .none kV16 dc16 pm16 an16 cd16 ct16) | 17 => (PySem.W.fnOf "first" "first" (defArgs s_first) (defBody s_first) (defScope s_first) .none kV17 dc17 pm17 an17 cd17 ct17) | 18 => (PySem.W.fnOf "last" "last" (defArgs s_last) (defBody s_last) (defScope s_last) .none kV18 dc18 pm18 an18 cd18 ct18) | 19 => (PySem.W.fnOf "joined" "joined" (defArgs s_joined) (defBody s_joined) (defScope s_joined) .none kV19 dc19 pm19 an19 cd19 ct19) | 20 => (PySem.W.fnOf "mirrored" "mirrored" (defArgs s_mirrored) (defBody s_mirrored) (defScope s_mirrored) .none kV20 dc20 pm20 an20 cd20 ct20) | 21 => (PySem.W.fnOf "unlike" "unlike" (defArgs s_unlike) (defBody s_unlike) (defScope s_unlike) .none kV21 dc21 pm21 an21 cd21 ct21) | 22 => (PySem.W.fnOf "_law_deal" "_law_deal" (defArgs s__law_deal) (defBody s__law_deal) (defScope s__law_deal) .none kV22 dc22 pm22 an22 cd22 ct22) | 23 => (PySem.W.fnOf "_law_draw" "_law_draw" (defArgs s__law_draw) (defBody s__law_draw) (defScope s__law_draw) .none kV23 dc23 pm23 an23 cd23 ct23) | 24 => (PySem.W.fnOf "_law_pick" "_law_pick" (defArgs s__law_pick) (defBody s__law_pick) (defScope s__law_pick) .none kV24 dc24 pm24 an24 cd24 ct24) | 25 => (PySem.W.fnOf "_law_base" "_law_base" (defArgs s__law_base) (defBody s__law_base) (defScope s__law_base) .none kV25 dc25 pm25 an25 cd25 ct25) | 26 => (PySem.W.fnOf "_law_written" "_law_written" (defArgs s__law_written) (defBody s__law_written) (defScope s__law_written) .none kV26 dc26 pm26 an26 cd26 ct26) | 27 => (PySem.W.fnOf "_law_number" "_law_number" (defArgs s__law_number) (defBody s__law_number) (defScope s__law_number) .none kV27 dc27 pm27 an27 cd27 ct27) | 28 => (PySem.W.fnOf "_law_sums_right" "_law_sums_right" (defArgs s__law_sums_right) (defBody s__law_sums_right) (defScope s__law_sums_right) .none kV28 dc28 pm28 an28 cd28 ct28) | 29 => (PySem.W.fnOf "_law_order_right" "_law_order_right" (defArgs s__law_order_right) (defBody s__law_order_right) (defScope s__law_order_right) .none kV29 dc29 pm29 an29 cd29 ct29) | 30 => (PySem.W.fnOf "law" "law" (defArgs s_law) (defBody s_law) (defScope s_law) .none kV30 dc30 pm30 an30 cd30 ct30) | _ => (PySem.W.fnOf "" "" (defArgs s_law) (defBody s_law) (defScope s_law) .none kV0 dc0 pm0 an0 cd0 ct0)) (fun _ => 0) := ⟨F0, B0, (PySem.W.mg_of X G a0), F1, B1, (PySem.W.mg_of X G a1), F2, B2, (PySem.W.mg_of X G a2), F3, B3, (PySem.W.mg_of X G a3), F4, B4, (PySem.W.mg_of X G a4), F5, B5, (PySem.W.mg_of X G a5), F6, B6, (PySem.W.mg_of X G a6), F7, B7, (PySem.W.mg_of X G a7), F8, B8, (PySem.W.mg_of X G a8), F9, B9, (PySem.W.mg_of X G a9), F10, B10, (PySem.W.mg_of X G a10), F11, B11, (PySem.W.mg_of X G a11), F12, B12, (PySem.W.mg_of X G a12), F13, B13, (PySem.W.mg_of X G a13), F14, B14, (PySem.W.mg_of X G a14), F15, B15, (PySem.W.mg_of X G a15), F16, B16, (PySem.W.mg_of X G a16), F17, B17, (PySem.W.mg_of X G a17), F18, B18, (PySem.W.mg_of X G a18), F19, B19, (PySem.W.mg_of X G a19), F20, B20, (PySem.W.mg_of X G a20), F21, B21, (PySem.W.mg_of X G a21), F22, B22, (PySem.W.mg_of X G a22), F23, B23, (PySem.W.mg_of X G a23), F24, B24, (PySem.W.mg_of X G a24), F25, B25, (PySem.W.mg_of X G a25), F26, B26, (PySem.W.mg_of X G a26), F27, B27, (PySem.W.mg_of X G a27), F28, B28, (PySem.W.mg_of X G a28), F29, B29, (PySem.W.mg_of X G a29), F30, B30, (PySem.W.mg_of X G a30), (PySem.W.mg_none_of X G z0), (PySem.W.mg_none_of X G z1), (PySem.W.mg_none_of X G z2), (PySem.W.mg_none_of X G z3), (PySem.W.mg_none_of X G z4), (PySem.W.mg_none_of X G z5), (PySem.W.mg_none_of X G z6), (PySem.W.mg_none_of X G z7), (PySem.W.mg_none_of X G z8), (PySem.W.mg_none_of X G z9), (PySem.W.mg_none_of X G z10), (PySem.W.mg_none_of X G z11), (PySem.W.mg_none_of X G z12), ⟨_, PySem.W.mg_of X G y0, ⟨_, rfl⟩⟩⟩
  exact ⟨_, fun s v => .of_eq rfl, fun base _ _ => ok_law T⟩
end K07
open PySem PySem.W PyProof.Rows
set_option maxRecDepth 100000 in
set_option maxHeartbeats 0 in
theorem PySem.Challenge.cw_everybase_k07_whole_figures_go_together_holds : PySem.Challenge.rw_everybase_k07_whole_figures_go_together.Holds := by
  w_on; o_law; k_head; (case hw => w_witness2)
  k_fill
  refine L2.walk_of (l := PySem.Challenge.rw_everybase_k07_whole_figures_go_together) (n := 63) (k := 9) (x := "_law_script") (CX := fun _ => L2.CX0) (sp := fun w => K07.sp_law _) rfl (by decide) rfl ⟨rfl, by decide, by decide⟩ (fun w h Y => PySem.W.kIn_of Y) ?F (fun _ _ a ns hl _ hS => ⟨a, ns, rfl, hS, hl, fun _ => rfl⟩) (fun _ _ _ _ _ h => h)
  case F =>
    intro w mg fa h KX G hmg
    refine' K07.all_mk KX G hmg ?a0 ?l0 ?c0 ?k0 ?a1 ?l1 ?c1 ?k1 ?a2 ?l2 ?c2 ?k2 ?a3 ?l3 ?c3 ?k3 ?a4 ?l4 ?c4 ?k4 ?a5 ?l5 ?c5 ?k5 ?a6 ?l6 ?c6 ?k6 ?a7 ?l7 ?c7 ?k7 ?a8 ?l8 ?c8 ?k8 ?a9 ?l9 ?c9 ?k9 ?a10 ?l10 ?c10 ?k10 ?a11 ?l11 ?c11 ?k11 ?a12 ?l12 ?c12 ?k12 ?a13 ?l13 ?c13 ?k13 ?a14 ?l14 ?c14 ?k14 ?a15 ?l15 ?c15 ?k15 ?a16 ?l16 ?c16 ?k16 ?a17 ?l17 ?c17 ?k17 ?a18 ?l18 ?c18 ?k18 ?a19 ?l19 ?c19 ?k19 ?a20 ?l20 ?c20 ?k20 ?a21 ?l21 ?c21 ?k21 ?a22 ?l22 ?c22 ?k22 ?a23 ?l23 ?c23 ?k23 ?a24 ?l24 ?c24 ?k24 ?a25 ?l25 ?c25 ?k25 ?a26 ?l26 ?c26 ?k26 ?a27 ?l27 ?c27 ?k27 ?a28 ?l28 ?c28 ?k28 ?a29 ?l29 ?c29 ?k29 ?a30 ?l30 ?c30 ?k30 ?z0 ?z1 ?z2 ?z3 ?z4 ?z5 ?z6 ?z7 ?z8 ?z9 ?z10 ?z11 ?z12 ?y0
    (case a0 => k_is)
    (case l0 => k_is)
    (case c0 => k_is)
    (case k0 => k_is)
    (case a1 => k_is)
    (case l1 => k_is)
    (case c1 => k_is)
    (case k1 => k_is)
    (case a2 => k_is)
    (case l2 => k_is)
    (case c2 => k_is)
    (case k2 => k_is)
    (case a3 => k_is)
    (case l3 => k_is)
    (case c3 => k_is)
    (case k3 => k_is)
    (case a4 => k_is)
    (case l4 => k_is)
    (case c4 => k_is)
    (case k4 => k_is)
    (case a5 => k_is)
    (case l5 => k_is)
    (case c5 => k_is)
    (case k5 => k_is)
    (case a6 => k_is)
    (case l6 => k_is)
    (case c6 => k_is)
    (case k6 => k_is)
    (case a7 => k_is)
    (case l7 => k_is)
    (case c7 => k_is)
    (case k7 => k_is)
    (case a8 => k_is)
    (case l8 => k_is)
    (case c8 => k_is)
    (case k8 => k_is)
    (case a9 => k_is)
    (case l9 => k_is)
    (case c9 => k_is)
    (case k9 => k_is)
    (case a10 => k_is)
    (case l10 => k_is)
    (case c10 => k_is)
    (case k10 => k_is)
    (case a11 => k_is)
    (case l11 => k_is)
    (case c11 => k_is)
    (case k11 => k_is)
    (case a12 => k_is)
    (case l12 => k_is)
    (case c12 => k_is)
    (case k12 => k_is)
    (case a13 => k_is)
    (case l13 => k_is)
    (case c13 => k_is)
    (case k13 => k_is)
    (case a14 => k_is)
    (case l14 => k_is)
    (case c14 => k_is)
    (case k14 => k_is)
    (case a15 => k_is)
    (case l15 => k_is)
    (case c15 => k_is)
    (case k15 => k_is)
    (case a16 => k_is)
    (case l16 => k_is)
    (case c16 => k_is)
    (case k16 => k_is)
    (case a17 => k_is)
    (case l17 => k_is)
    (case c17 => k_is)
    (case k17 => k_is)
    (case a18 => k_is)
    (case l18 => k_is)
    (case c18 => k_is)
    (case k18 => k_is)
    (case a19 => k_is)
    (case l19 => k_is)
    (case c19 => k_is)
    (case k19 => k_is)
    (case a20 => k_is)
    (case l20 => k_is)
    (case c20 => k_is)
    (case k20 => k_is)
    (case a21 => k_is)
    (case l21 => k_is)
    (case c21 => k_is)
    (case k21 => k_is)
    (case a22 => k_is)
    (case l22 => k_is)
    (case c22 => k_is)
    (case k22 => k_is)
    (case a23 => k_is)
    (case l23 => k_is)
    (case c23 => k_is)
    (case k23 => k_is)
    (case a24 => k_is)
    (case l24 => k_is)
    (case c24 => k_is)
    (case k24 => k_is)
    (case a25 => k_is)
    (case l25 => k_is)
    (case c25 => k_is)
    (case k25 => k_is)
    (case a26 => k_is)
    (case l26 => k_is)
    (case c26 => k_is)
    (case k26 => k_is)
    (case a27 => k_is)
    (case l27 => k_is)
    (case c27 => k_is)
    (case k27 => k_is)
    (case a28 => k_is)
    (case l28 => k_is)
    (case c28 => k_is)
    (case k28 => k_is)
    (case a29 => k_is)
    (case l29 => k_is)
    (case c29 => k_is)
    (case k29 => k_is)
    (case a30 => k_is)
    (case l30 => k_is)
    (case c30 => k_is)
    (case k30 => k_is)
    (case z0 => k_is)
    (case z1 => k_is)
    (case z2 => k_is)
    (case z3 => k_is)
    (case z4 => k_is)
    (case z5 => k_is)
    (case z6 => k_is)
    (case z7 => k_is)
    (case z8 => k_is)
    (case z9 => k_is)
    (case z10 => k_is)
    (case z11 => k_is)
    (case z12 => k_is)
    (case y0 => k_is)
