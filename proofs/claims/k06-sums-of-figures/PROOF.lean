import PyProof.Rows.All
import Wide.All
import OpenK.AllK
import Wide.FinOn
import PySem.Challenge.RW_everybase_k06_sums_of_figures
import HandS.ForMost
import HandS.ForExc
import HandS.Wide
import HandS.Style
import HandS.RaiseMore
import HandS.IsInst
import HandS.Flow
import HandS.Codes
import HandS.SortInts
import KE.KTupSum
set_option Elab.async false
set_option linter.all false
set_option maxRecDepth 100000
set_option maxHeartbeats 4000000
/-! ## own layer: rules, heaps, draws -/
namespace Eb
open PySem PySem.Spec PyProof.Rows L2
theorem bb_int : bootBuiltins "int" = some (.type "int") := by decide +kernel
theorem bb_bool : bootBuiltins "bool" = some (.type "bool") := by decide +kernel
theorem bb_str : bootBuiltins "str" = some (.type "str") := by decide +kernel
theorem bb_list : bootBuiltins "list" = some (.type "list") := by decide +kernel
theorem bb_tuple : bootBuiltins "tuple" = some (.type "tuple") := by decide +kernel
theorem bb_range : bootBuiltins "range" = some (.type "range") := by decide +kernel
theorem bb_set : bootBuiltins "set" = some (.type "set") := by decide +kernel
theorem bb_len : bootBuiltins "len" = some (.builtin "len") := by decide +kernel
theorem bb_sum : bootBuiltins "sum" = some (.builtin "sum") := by decide +kernel
theorem bb_min : bootBuiltins "min" = some (.builtin "min") := by decide +kernel
theorem bb_max : bootBuiltins "max" = some (.builtin "max") := by decide +kernel
theorem bb_abs : bootBuiltins "abs" = some (.builtin "abs") := by decide +kernel
theorem bb_repr : bootBuiltins "repr" = some (.builtin "repr") := by decide +kernel
theorem bb_sorted : bootBuiltins "sorted" = some (.builtin "sorted") := by decide +kernel
theorem bb_all : bootBuiltins "all" = some (.builtin "all") := by decide +kernel
theorem bb_isinstance : bootBuiltins "isinstance" = some (.builtin "isinstance") := by decide +kernel

section
variable {X : Cx}
/-- sum(t), t a tuple of ints -/
def rSumT (K : PySem.W.Frag) : List V → Hp → VK → Prop := fun vs H Q => ∃ (a : Addr) (ns : List Int), vs = [V.ref a] ∧ SqT K H a (ns.map V.int) ∧ Q (.int ns.sum) H
theorem cr_sumT (hc : X.calm = true) : CallR X (.builtin "sum") (rSumT X.K) := by
  intro pins s σ H vs us Q I r h
  obtain ⟨a, ns, rfl, hs, q⟩ := h
  obtain ⟨its, rv, ht, _⟩ := I.tuple hs
  rw [Vals.ref1 r]
  have hi := rv.ints
  obtain ⟨xs, e⟩ := hi.allInts.items
  have hn : numsOf (intItems xs).toList = ns := by
    rw [← e]
    exact hi.numsOf
  rw [nums_intItems] at hn
  have ht' : s.heap.IsTuple a (intItems xs) := by
    rw [← e]
    exact ht
  refine PySem.W.ktm_sumG (I.ok.hd hc) ht' fun h' tk t' hk => ?_
  rw [preSum_eq, List.take_of_length_le (by simp), hn]
  exact ⟨.int _, H, I.kept hk, ⟨_, rfl⟩, q⟩
end

/-! ### heaps -/
theorem same_new {H : Hp} {p : Addr} {o : HO} (h : H p = none) : Same H (upd H p o) := fun b x e => by
  rw [upd_ne (ne_of_none e h)]
  exact e
theorem same_mut {H H' : Hp} {p : Addr} {o : HO} (e : Same H H') (h : H p = none) : Same H (upd H' p o) := fun b x hb => by
  rw [upd_ne (ne_of_none hb h)]
  exact e b x hb
theorem Same_seqT {K : PySem.W.Frag} {H H' : Hp} {a : Addr} {xs : List V} (e : Same H H') (h : SqT K H a xs) : SqT K H' a xs := by
  rcases h with (h | ⟨o, h⟩) | h
  · exact .inl (.inl (e _ _ h))
  · exact .inl (.inr ⟨o, e _ _ h⟩)
  · exact .inr h
/-- all but the objects at M stand as they stood -/
def Grow (M : List Addr) (H H' : Hp) : Prop := ∀ b o, b ∉ M → H b = some o → H' b = some o
theorem Grow.refl (M : List Addr) (H : Hp) : Grow M H H := fun _ _ _ h => h
theorem Grow.trans {M : List Addr} {H H1 H2 : Hp} (a : Grow M H H1) (b : Grow M H1 H2) : Grow M H H2 := fun c o n h => b c o n (a c o n h)
theorem Grow.of {M : List Addr} {H H' : Hp} (e : Same H H') : Grow M H H' := fun c o _ h => e c o h
theorem Grow.new {M : List Addr} {H H' : Hp} {p : Addr} {o : HO} (g : Grow M H H') (h : H p = none) : Grow M H (upd H' p o) := fun b x n hb => by
  rw [upd_ne (ne_of_none hb h)]
  exact g b x n hb
theorem Grow.at {M : List Addr} {H H' : Hp} {p : Addr} {o : HO} (g : Grow M H H') (h : p ∈ M) : Grow M H (upd H' p o) := fun b x n hb => by
  rw [upd_ne (show b ≠ p from fun e => n (by rw [e]; exact h))]
  exact g b x n hb
theorem Grow.none {M : List Addr} {H H' : Hp} {p : Addr} (g : Grow M H H') (hM : ∀ b ∈ M, H' b ≠ none) (h : H' p = none) : H p = none := by
  cases q : H p with
  | none => rfl
  | some o =>
    by_cases hm : p ∈ M
    · exact absurd h (hM p hm)
    · rw [g p o hm q] at h
      cases h
theorem Grow.seqL {M : List Addr} {K : PySem.W.Frag} {H H' : Hp} {a : Addr} {xs : List V} (g : Grow M H H') (n : a ∉ M) (h : SqL K H a xs) : SqL K H' a xs := by
  rcases h with (h | ⟨o, h⟩) | h
  · exact .inl (.inl (g _ _ n h))
  · exact .inl (.inr ⟨o, g _ _ n h⟩)
  · exact .inr h
theorem Grow.seqT {M : List Addr} {K : PySem.W.Frag} {H H' : Hp} {a : Addr} {xs : List V} (g : Grow M H H') (n : a ∉ M) (h : SqT K H a xs) : SqT K H' a xs := by
  rcases h with (h | ⟨o, h⟩) | h
  · exact .inl (.inl (g _ _ n h))
  · exact .inl (.inr ⟨o, g _ _ n h⟩)
  · exact .inr h
theorem sqL_of {K : PySem.W.Frag} {H : Hp} {a : Addr} {xs : List V} (h : H a = some (.lst xs)) : SqL K H a xs := .inl (.inl h)
theorem sqT_of {K : PySem.W.Frag} {H : Hp} {a : Addr} {xs : List V} (h : H a = some (.tup xs)) : SqT K H a xs := .inl (.inl h)
theorem sqL_new {K : PySem.W.Frag} {H : Hp} {a : Addr} {xs : List V} : SqL K (upd H a (.lst xs)) a xs := .inl (.inl upd_same)
theorem sqT_new {K : PySem.W.Frag} {H : Hp} {a : Addr} {xs : List V} : SqT K (upd H a (.tup xs)) a xs := .inl (.inl upd_same)
theorem sz {n : Nat} (h : n ≤ 100000) : n ≤ sizeLine := Nat.le_trans h (by decide)
theorem szr {n : Nat} (h : Nat.ble n 100000 = true) : n ≤ sizeLine := sz (Nat.le_of_ble_eq_true h)
theorem szl {n : Nat} (h : n < 100000) : n < sizeLine := Nat.lt_of_lt_of_le h (by decide)

/-! ### loops -/
theorem whl {c : TT} {tb : TS} {D : Ends} {σ : L2.St} {H : Hp} (W : Nat → L2.St → Hp → Prop) (m : Nat) (h0 : W m σ H)
    (hs : ∀ m σ H, W m σ H → c σ H fun b H1 => if b = true then ∃ N : L2.St → Hp → Prop, (∀ σ' H', N σ' H' → ∃ m', m' < m ∧ W m' σ' H') ∧ tb { D with nx := N, ct := N, bk := D.nx } σ H1 else D.nx σ H1) : tWhile c tb D σ H :=
  ⟨W, ⟨m, h0⟩, hs⟩
/-- the turn of a while whose test holds: the wished state is W at a smaller measure -/
theorem turn_of {tb : TS} {D : Ends} {σ : L2.St} {H : Hp} {W : Nat → L2.St → Hp → Prop} {m : Nat}
    (h : tb { D with nx := fun σ' H' => ∃ m', m' < m ∧ W m' σ' H', ct := fun σ' H' => ∃ m', m' < m ∧ W m' σ' H', bk := D.nx } σ H) :
    ∃ N : L2.St → Hp → Prop, (∀ σ' H', N σ' H' → ∃ m', m' < m ∧ W m' σ' H') ∧ tb { D with nx := N, ct := N, bk := D.nx } σ H := ⟨_, fun _ _ z => z, h⟩

/-- ways join: a test whose answer is known behind its ways -/
theorem by_ans {t : TT} {σ : L2.St} {H : Hp} {Q : Bool → Hp → Prop} (b : Bool) (h : ∀ Q' : Bool → Hp → Prop, (∀ H1, Same H H1 → Q' b H1) → t σ H Q') (k : ∀ H1, Same H H1 → Q b H1) : t σ H Q := h Q k
/-- ways join behind a statement that goes on -/
theorem by_st {t u : TS} {D : Ends} {σ : L2.St} {H : Hp} (J : L2.St → Hp → Prop) (h : ∀ D' : Ends, D'.rt = D.rt → (∀ σ' H', J σ' H' → D'.nx σ' H') → t D' σ H) (k : ∀ σ' H', J σ' H' → u D σ' H') : tSeq t u D σ H :=
  h { D with nx := u D } rfl k
theorem Grow.same {M : List Addr} {H H1 H2 : Hp} (g : Grow M H H1) (e : Same H1 H2) : Grow M H H2 := g.trans (Grow.of e)

/-! ### data -/
theorem dp_ints {K : PySem.W.Frag} {H : Hp} : ∀ xs : List Int, DpAll K H (xs.map V.int) (xs.map PyData.int)
  | [] => .nil
  | x :: r => .cons (.int x) (dp_ints r)
theorem dp_list {K : PySem.W.Frag} {H : Hp} {a : Addr} {xs : List Int} (h : SqL K H a (xs.map V.int)) : Dp K H (.ref a) (.list (xs.map PyData.int)) := .lst h (dp_ints xs)
theorem dp_tuple {K : PySem.W.Frag} {H : Hp} {a : Addr} {xs : List Int} (h : SqT K H a (xs.map V.int)) : Dp K H (.ref a) (.tuple (xs.map PyData.int)) := .tup h (dp_ints xs)
theorem lay_ints : ∀ xs : List Int, PyData.canLayAll0 (xs.map PyData.int) = true
  | [] => by simp [PyData.canLayAll0]
  | x :: r => by simp [PyData.canLayAll0, PyData.canLay0, lay_ints r]
theorem depth_ints : ∀ xs : List Int, PyData.depthAll (xs.map PyData.int) = 0
  | [] => by simp [PyData.depthAll]
  | x :: r => by simp [PyData.depthAll, PyData.depth, depth_ints r]
theorem shaped_list (xs : List Int) : SeqAt.shaped (.list (xs.map PyData.int)) = true := by
  unfold SeqAt.shaped
  simp [PyData.canLay0, PyData.depth, lay_ints, depth_ints]
theorem shaped_tuple (xs : List Int) : SeqAt.shaped (.tuple (xs.map PyData.int)) = true := by
  unfold SeqAt.shaped
  simp [PyData.canLay0, PyData.depth, lay_ints, depth_ints]
theorem eqv_ints : ∀ xs ys : List Int, PyData.eqvAll (xs.map PyData.int) (ys.map PyData.int) = decide (xs = ys)
  | [], [] => by simp [PyData.eqvAll]
  | [], _ :: _ => by simp [PyData.eqvAll]
  | _ :: _, [] => by simp [PyData.eqvAll]
  | x :: r, y :: q => by
    simp only [List.map_cons, PyData.eqvAll, PyData.eqv, eqv_ints r q]
    by_cases h : x = y
    · subst h; simp
    · simp [h]
section
variable {X : Cx}
def rEqL (K : PySem.W.Frag) (neg : Bool) : R2 := fun x y H Q => ∃ (a b : Addr) (xs ys : List Int), x = .ref a ∧ y = .ref b ∧ SqL K H a (xs.map V.int) ∧ SqL K H b (ys.map V.int) ∧ Q (.bl (if neg then !decide (xs = ys) else decide (xs = ys))) H
def rEqT (K : PySem.W.Frag) (neg : Bool) : R2 := fun x y H Q => ∃ (a b : Addr) (xs ys : List Int), x = .ref a ∧ y = .ref b ∧ SqT K H a (xs.map V.int) ∧ SqT K H b (ys.map V.int) ∧ Q (.bl (if neg then !decide (xs = ys) else decide (xs = ys))) H
theorem op_eqL (hu : X.A.units + 64 < cLine) : OpR X (compareOp .Eq) (rEqL X.K false) := by
  intro pins s σ H x y v u Q I rx ry h
  obtain ⟨a, b, xs, ys, rfl, rfl, ha, hb, q⟩ := h
  exact op_eqD hu pins s σ H _ _ v u Q I rx ry ⟨_, _, dp_list ha, dp_list hb, shaped_list _, shaped_list _, by simp only [PyData.eqv, eqv_ints]; exact q⟩
theorem op_neL (hu : X.A.units + 64 < cLine) : OpR X (compareOp .NotEq) (rEqL X.K true) := by
  intro pins s σ H x y v u Q I rx ry h
  obtain ⟨a, b, xs, ys, rfl, rfl, ha, hb, q⟩ := h
  exact op_neD hu pins s σ H _ _ v u Q I rx ry ⟨_, _, dp_list ha, dp_list hb, shaped_list _, shaped_list _, by simp only [PyData.eqv, eqv_ints]; exact q⟩
theorem op_eqT (hu : X.A.units + 64 < cLine) : OpR X (compareOp .Eq) (rEqT X.K false) := by
  intro pins s σ H x y v u Q I rx ry h
  obtain ⟨a, b, xs, ys, rfl, rfl, ha, hb, q⟩ := h
  exact op_eqD hu pins s σ H _ _ v u Q I rx ry ⟨_, _, dp_tuple ha, dp_tuple hb, shaped_tuple _, shaped_tuple _, by simp only [PyData.eqv, eqv_ints]; exact q⟩
theorem op_neT (hu : X.A.units + 64 < cLine) : OpR X (compareOp .NotEq) (rEqT X.K true) := by
  intro pins s σ H x y v u Q I rx ry h
  obtain ⟨a, b, xs, ys, rfl, rfl, ha, hb, q⟩ := h
  exact op_neD hu pins s σ H _ _ v u Q I rx ry ⟨_, _, dp_tuple ha, dp_tuple hb, shaped_tuple _, shaped_tuple _, by simp only [PyData.eqv, eqv_ints]; exact q⟩
end

/-! ### the source of draws -/
structure Deal (H : Hp) (d l : Addr) : Prop where
  ex : ∃ (xs : List Int) (n : Int), H d = some (.lst [.ref l, .int n]) ∧ H l = some (.lst (xs.map V.int)) ∧ xs.length ≤ 63 ∧ 0 ≤ n ∧ n < 2147483647
theorem Deal.ne {H : Hp} {d l : Addr} (D : Deal H d l) : d ≠ l := by
  obtain ⟨xs, n, h1, h2, _⟩ := D.ex
  intro e
  subst e
  rw [h1] at h2
  have h3 := HO.lst.inj (Option.some.inj h2)
  cases xs with
  | nil => cases h3
  | cons x r => cases h3
theorem Deal.same {H H' : Hp} {d l : Addr} (D : Deal H d l) (e : Same H H') : Deal H' d l := by
  obtain ⟨xs, n, h1, h2, h3⟩ := D.ex
  exact ⟨xs, n, e _ _ h1, e _ _ h2, h3⟩
theorem Deal.fresh {H : Hp} {d l p : Addr} (D : Deal H d l) (h : H p = none) : p ∉ [d, l] := by
  obtain ⟨xs, n, h1, h2, _⟩ := D.ex
  intro z
  rcases List.mem_cons.mp z with e | z
  · rw [e, h1] at h; cases h
  · rw [List.mem_singleton.mp z, h2] at h; cases h
theorem Deal.upd {H : Hp} {d l p : Addr} {o : HO} (D : Deal H d l) (h : p ∉ [d, l]) : Deal (upd H p o) d l := by
  obtain ⟨xs, n, h1, h2, h3⟩ := D.ex
  have n1 : d ≠ p := fun e => h (by simp [e])
  have n2 : l ≠ p := fun e => h (by simp [e])
  exact ⟨xs, n, by rw [upd_ne n1]; exact h1, by rw [upd_ne n2]; exact h2, h3⟩
theorem Deal.none {H : Hp} {d l : Addr} (D : Deal H d l) : ∀ b ∈ [d, l], H b ≠ none := by
  obtain ⟨xs, n, h1, h2, _⟩ := D.ex
  intro b hb
  rcases List.mem_cons.mp hb with e | z
  · rw [e, h1]; simp
  · rw [List.mem_singleton.mp z, h2]; simp
/-- what a drawing def hands on: the source stands, all else stands -/
structure Drew (d l : Addr) (H H' : Hp) : Prop where
  deal : Deal H' d l
  grow : Grow [d, l] H H'
theorem Drew.trans {d l : Addr} {H H1 H2 : Hp} (a : Drew d l H H1) (b : Drew d l H1 H2) : Drew d l H H2 := ⟨b.deal, a.grow.trans b.grow⟩
theorem Drew.new {d l : Addr} {H H' : Hp} {p : Addr} {o : HO} (a : Drew d l H H') (h : H' p = none) : Drew d l H (upd H' p o) :=
  ⟨a.deal.upd (a.deal.fresh h), a.grow.trans (Grow.of (same_new h))⟩
theorem Drew.refl {d l : Addr} {H : Hp} (D : Deal H d l) : Drew d l H H := ⟨D, Grow.refl _ _⟩
theorem Drew.same {d l : Addr} {H H' H2 : Hp} (a : Drew d l H H') (e : Same H' H2) : Drew d l H H2 := ⟨a.deal.same e, a.grow.trans (Grow.of e)⟩
theorem Drew.get {d l : Addr} {H H' : Hp} {p : Addr} {o : HO} (a : Drew d l H H') (n : p ∉ [d, l]) (h : H p = some o) : H' p = some o := a.grow p o n h
theorem Drew.seqL {d l : Addr} {K : PySem.W.Frag} {H H' : Hp} {a : Addr} {xs : List V} (g : Drew d l H H') (n : a ∉ [d, l]) (h : SqL K H a xs) : SqL K H' a xs := g.grow.seqL n h
theorem Drew.free {d l : Addr} {H H' : Hp} {p : Addr} (a : Drew d l H H') (h : H' p = none) : H p = none := a.grow.none a.deal.none h
end Eb

/-! ## figures: plain mathematics -/
namespace Eb
def Sm (n : Int) : Prop := n.natAbs < 2 ^ 1900
theorem Sm.log {n : Int} (h : Sm n) : n.natAbs.log2 < 1900 := PySem.Flt.log2_lt_of (by decide) h
theorem Sm.le {n m : Int} (h : Sm m) (h0 : 0 ≤ n) (h1 : n ≤ m) : Sm n := Nat.lt_of_le_of_lt (by omega) h
theorem sm_of {n : Int} (h0 : 0 ≤ n) (h1 : n ≤ 10 ^ 61) : Sm n := Sm.le (m := 10 ^ 61) (by unfold Sm; decide +kernel) h0 h1
theorem divW {i j : Int} (h : 0 < j) (s : Sm j) : L2.CDivW i j := ⟨h, Nat.lt_trans s.log (by decide)⟩
theorem mulW {i j : Int} (h : Sm i) (s : Sm j) : L2.CMulW i j := by
  have a := h.log
  have b := s.log
  unfold L2.CMulW
  omega
/-- the figures of n, the last one first -/
def digs (b n : Int) : List Int := if h : 2 ≤ b ∧ b ≤ n then (n % b) :: digs b (n / b) else [n]
termination_by n.toNat
decreasing_by
  have h1 : n / b < n := Int.ediv_lt_self_of_pos_of_ne_one (by omega) (by omega)
  have h2 : 0 ≤ n / b := Int.ediv_nonneg (by omega) (by omega)
  omega
theorem digs_lt {b n : Int} (h : n < b) : digs b n = [n] := by
  rw [digs, dif_neg (by omega)]
theorem digs_ge {b n : Int} (hb : 2 ≤ b) (h : b ≤ n) : digs b n = (n % b) :: digs b (n / b) := by
  rw [digs, dif_pos ⟨hb, h⟩]
theorem div_lt {b n : Int} (hb : 2 ≤ b) (h : b ≤ n) : n / b < n := Int.ediv_lt_self_of_pos_of_ne_one (by omega) (by omega)
theorem div_nn {b n : Int} (hb : 2 ≤ b) (h : 0 ≤ n) : 0 ≤ n / b := Int.ediv_nonneg h (by omega)
theorem div_pos {b n : Int} (hb : 2 ≤ b) (h : b ≤ n) : 1 ≤ n / b := by
  have := Int.le_ediv_of_mul_le (a := 1) (b := n) (c := b) (by omega) (by omega)
  exact this
theorem div_zero {b n : Int} (h0 : 0 ≤ n) (h : n < b) : n / b = 0 := Int.ediv_eq_zero_of_lt h0 h
theorem mod_self {b n : Int} (h0 : 0 ≤ n) (h : n < b) : n % b = n := Int.emod_eq_of_lt h0 h
/-- induction along the figures -/
theorem digs_ind {b : Int} (hb : 2 ≤ b) {P : Int → Prop} (h0 : ∀ n, 0 ≤ n → n < b → P n) (h1 : ∀ n, b ≤ n → P (n / b) → P n) : ∀ n, 0 ≤ n → P n := by
  have go : ∀ (k : Nat) (n : Int), n.toNat ≤ k → 0 ≤ n → P n := by
    intro k
    induction k with
    | zero =>
      intro n hk hn
      exact h0 n hn (by omega)
    | succ k ih =>
      intro n hk hn
      by_cases c : n < b
      · exact h0 n hn c
      · have a := div_lt hb (Int.not_lt.mp c)
        have d := div_nn hb hn
        exact h1 n (Int.not_lt.mp c) (ih _ (by omega) d)
  intro n hn
  exact go n.toNat n (Nat.le_refl _) hn
/-- what a walk that divides on has still to tell -/
def rest (b n : Int) : List Int := if n ≤ 0 then [] else digs b n
theorem rest_zero {b n : Int} (h : n ≤ 0) : rest b n = [] := if_pos h
theorem rest_pos {b n : Int} (h : 0 < n) : rest b n = digs b n := if_neg (by omega)
theorem digs_rest {b n : Int} (hb : 2 ≤ b) (h0 : 0 ≤ n) : digs b n = (n % b) :: rest b (n / b) := by
  by_cases c : n < b
  · rw [digs_lt c, div_zero h0 c, rest_zero (Int.le_refl _), mod_self h0 c]
  · have c' := Int.not_lt.mp c
    rw [digs_ge hb c', rest_pos (by have := div_pos hb c'; omega)]
theorem rest_step {b n : Int} (hb : 2 ≤ b) (h : 0 < n) : rest b n = (n % b) :: rest b (n / b) := by
  rw [rest_pos h, digs_rest hb (by omega)]
theorem digs_range {b : Int} (hb : 2 ≤ b) : ∀ n, 0 ≤ n → ∀ x ∈ digs b n, 0 ≤ x ∧ x < b := by
  refine digs_ind hb (fun n h0 h1 x hx => ?_) (fun n h ih x hx => ?_)
  · rw [digs_lt h1, List.mem_singleton] at hx
    omega
  · rw [digs_ge hb h] at hx
    rcases List.mem_cons.mp hx with e | hx
    · rw [e]
      exact ⟨Int.emod_nonneg _ (by omega), Int.emod_lt_of_pos _ (by omega)⟩
    · exact ih x hx
theorem digs_ne {b n : Int} (hb : 2 ≤ b) (h0 : 0 ≤ n) : digs b n ≠ [] := by
  rw [digs_rest hb h0]
  simp
theorem digs_len {b : Int} (hb : 2 ≤ b) : ∀ (k : Nat) (n : Int), 0 ≤ n → n < 2 ^ (k + 1) → (digs b n).length ≤ k + 1 := by
  intro k
  induction k with
  | zero =>
    intro n h0 h1
    rw [digs_lt (by omega)]
    simp
  | succ k ih =>
    intro n h0 h1
    by_cases c : n < b
    · rw [digs_lt c]
      simp
    · have c' := Int.not_lt.mp c
      rw [digs_ge hb c', List.length_cons]
      have e : (2 : Int) ^ (k + 1 + 1) = 2 ^ (k + 1) * 2 := Int.pow_succ _ _
      have h2 : n / b ≤ n / 2 := by
        have h3 : n / b * b ≤ n := Int.ediv_mul_le _ (by omega)
        have h4 : n / b * 2 ≤ n / b * b := Int.mul_le_mul_of_nonneg_left hb (div_nn hb h0)
        omega
      have := ih (n / b) (div_nn hb h0) (by omega)
      omega
theorem digs_small {b n : Int} (hb : 2 ≤ b) (h0 : 0 ≤ n) (s : Sm n) : (digs b n).length ≤ 1900 := by
  refine digs_len hb 1899 n h0 ?_
  have h : n.natAbs < 2 ^ 1900 := s
  have e : ((2 ^ 1900 : Nat) : Int) = (2 : Int) ^ (1899 + 1) := by
    rw [Int.natCast_pow]
    rfl
  omega
theorem Sm.div {b n : Int} (hb : 2 ≤ b) (h0 : 0 ≤ n) (s : Sm n) : Sm (n / b) := by
  refine s.le (div_nn hb h0) ?_
  by_cases c : n < b
  · rw [div_zero h0 c]
    exact h0
  · have := div_lt hb (Int.not_lt.mp c)
    omega
/-- the sum of the figures -/
def dsum (b n : Int) : Int := (digs b n).sum
theorem dsum_nn {b : Int} (hb : 2 ≤ b) : ∀ n, 0 ≤ n → 0 ≤ dsum b n := by
  unfold dsum
  refine digs_ind hb (fun n h0 h1 => ?_) (fun n h ih => ?_)
  · rw [digs_lt h1]
    simpa using h0
  · rw [digs_ge hb h, List.sum_cons]
    have := Int.emod_nonneg n (show b ≠ 0 by omega)
    omega
theorem dsum_le {b : Int} (hb : 2 ≤ b) : ∀ n, 0 ≤ n → dsum b n ≤ n := by
  unfold dsum
  refine digs_ind hb (fun n h0 h1 => ?_) (fun n h ih => ?_)
  · rw [digs_lt h1]
    simp
  · rw [digs_ge hb h, List.sum_cons]
    have h1 := Int.emod_add_mul_ediv n b
    have h2 : 1 * (n / b) ≤ b * (n / b) := Int.mul_le_mul_of_nonneg_right (by omega) (div_nn hb (by omega))
    omega
theorem dsum_lt {b n : Int} (hb : 2 ≤ b) (h : b ≤ n) : dsum b n < n := by
  unfold dsum
  rw [digs_ge hb h, List.sum_cons]
  have h1 := Int.emod_add_mul_ediv n b
  have h2 : 2 * (n / b) ≤ b * (n / b) := Int.mul_le_mul_of_nonneg_right hb (div_nn hb (by omega))
  have h3 := div_pos hb h
  have h4 := dsum_le hb (n / b) (by omega)
  unfold dsum at h4
  omega
theorem dsum_small {b n : Int} (h : n < b) : dsum b n = n := by
  unfold dsum
  rw [digs_lt h]
  simp
/-- the figure that is left -/
def rooted (b n : Int) : Int := if h : 2 ≤ b ∧ b ≤ n then rooted b (dsum b n) else n
termination_by n.toNat
decreasing_by
  have h1 := dsum_lt h.1 h.2
  omega
theorem rooted_lt {b n : Int} (h : n < b) : rooted b n = n := by
  rw [rooted, dif_neg (by omega)]
theorem rooted_ge {b n : Int} (hb : 2 ≤ b) (h : b ≤ n) : rooted b n = rooted b (dsum b n) := by
  rw [rooted, dif_pos ⟨hb, h⟩]
theorem rooted_dsum {b n : Int} (hb : 2 ≤ b) : rooted b (dsum b n) = rooted b n := by
  by_cases c : n < b
  · rw [dsum_small c]
  · exact (rooted_ge hb (Int.not_lt.mp c)).symm
theorem rooted_ind {b : Int} (hb : 2 ≤ b) {P : Int → Prop} (h0 : ∀ n, 0 ≤ n → n < b → P n) (h1 : ∀ n, b ≤ n → P (dsum b n) → P n) : ∀ n, 0 ≤ n → P n := by
  have go : ∀ (k : Nat) (n : Int), n.toNat ≤ k → 0 ≤ n → P n := by
    intro k
    induction k with
    | zero =>
      intro n hk hn
      exact h0 n hn (by omega)
    | succ k ih =>
      intro n hk hn
      by_cases c : n < b
      · exact h0 n hn c
      · have a := dsum_lt hb (Int.not_lt.mp c)
        have d := dsum_nn hb n hn
        exact h1 n (Int.not_lt.mp c) (ih _ (by omega) d)
  intro n hn
  exact go n.toNat n (Nat.le_refl _) hn
theorem rooted_le {b : Int} (hb : 2 ≤ b) : ∀ n, 0 ≤ n → rooted b n ≤ n ∧ 0 ≤ rooted b n := by
  refine rooted_ind hb (fun n h0 h1 => ?_) (fun n h ih => ?_)
  · rw [rooted_lt h1]
    omega
  · rw [rooted_ge hb h]
    have := dsum_le hb n (by omega)
    omega
end Eb
namespace Eb
/-- the number with some figures, the greatest place first -/
def ofs (b : Int) (xs : List Int) : Int := xs.foldl (fun a x => a * b + x) 0
theorem ofs_snoc (b : Int) (xs : List Int) (x : Int) : ofs b (xs ++ [x]) = ofs b xs * b + x := by
  unfold ofs
  rw [List.foldl_append]
  rfl
theorem ofs_take {b : Int} {xs : List Int} {i : Nat} {x : Int} (h : xs[i]? = some x) : ofs b (xs.take (i + 1)) = ofs b (xs.take i) * b + x := by
  rw [List.take_add_one, h, ← ofs_snoc]
  rfl
/-- all figures lie below the base -/
def InB (b : Int) (xs : List Int) : Prop := ∀ x ∈ xs, 0 ≤ x ∧ x < b
theorem InB.take {b : Int} {xs : List Int} (h : InB b xs) (i : Nat) : InB b (xs.take i) := fun x hx => h x (List.mem_of_mem_take hx)
theorem InB.drop {b : Int} {xs : List Int} (h : InB b xs) (i : Nat) : InB b (xs.drop i) := fun x hx => h x (List.mem_of_mem_drop hx)
theorem InB.append {b : Int} {xs ys : List Int} (h : InB b xs) (g : InB b ys) : InB b (xs ++ ys) := fun x hx => (List.mem_append.mp hx).elim (h x) (g x)
theorem InB.reverse {b : Int} {xs : List Int} (h : InB b xs) : InB b xs.reverse := fun x hx => h x (List.mem_reverse.mp hx)
theorem ofs_range {b : Int} (hb : 2 ≤ b) : ∀ (xs : List Int), InB b xs → 0 ≤ ofs b xs ∧ ofs b xs < b ^ xs.length := by
  intro xs
  have go : ∀ (n : Nat) (xs : List Int), xs.length = n → InB b xs → 0 ≤ ofs b xs ∧ ofs b xs < b ^ xs.length := by
    intro n
    induction n with
    | zero =>
      intro xs e _
      rw [List.length_eq_zero_iff.mp e]
      exact ⟨Int.le_refl _, by rw [List.length_nil, Int.pow_zero]; exact (by decide : (0 : Int) < 1)⟩
    | succ n ih =>
      intro xs e h
      have hne : xs ≠ [] := fun z => by rw [z] at e; cases e
      obtain ⟨ys, z, rfl⟩ : ∃ ys z, xs = ys ++ [z] := ⟨xs.dropLast, xs.getLast hne, (List.dropLast_concat_getLast hne).symm⟩
      have el : ys.length = n := by simpa using e
      have i1 := ih ys el fun x hx => h x (List.mem_append_left _ hx)
      have i2 := h z (by simp)
      rw [ofs_snoc, List.length_append, List.length_singleton, Int.pow_succ]
      have p1 : 0 ≤ ofs b ys * b := Int.mul_nonneg i1.1 (by omega)
      have p2 : (ofs b ys + 1) * b ≤ b ^ ys.length * b := Int.mul_le_mul_of_nonneg_right (by omega) (by omega)
      rw [Int.add_mul] at p2
      omega
  exact go xs.length xs rfl
theorem pow_mono {b : Int} (hb : 2 ≤ b) {i j : Nat} (h : i ≤ j) : b ^ i ≤ b ^ j := by
  induction j with
  | zero =>
    have : i = 0 := by omega
    subst this
    exact Int.le_refl _
  | succ j ih =>
    by_cases e : i = j + 1
    · subst e
      exact Int.le_refl _
    · have h1 := ih (by omega)
      have h0 : 0 < b ^ j := Int.pow_pos (by omega)
      rw [Int.pow_succ]
      have h2 : b ^ j * 1 ≤ b ^ j * b := Int.mul_le_mul_of_nonneg_left (by omega) (by omega)
      omega
/-- partial numbers of figures that are small are small -/
theorem ofs_sm {b : Int} (hb : 2 ≤ b) {xs : List Int} (h : InB b xs) (hs : b ^ xs.length ≤ 10 ^ 61) : ∀ i, i ≤ xs.length → Sm (ofs b (xs.take i)) := fun i hi => by
  have r := ofs_range hb _ (h.take i)
  have e : (xs.take i).length ≤ xs.length := by
    rw [List.length_take]
    omega
  have m := pow_mono hb e
  exact sm_of r.1 (by omega)
theorem pow_two_le {b : Int} (hb : 2 ≤ b) : ∀ k : Nat, (2 : Int) ^ k ≤ b ^ k
  | 0 => by rw [Int.pow_zero, Int.pow_zero]; decide
  | k + 1 => by
    rw [Int.pow_succ, Int.pow_succ]
    have h1 := pow_two_le hb k
    have h0 : 0 < (2 : Int) ^ k := Int.pow_pos (by omega)
    exact Int.mul_le_mul h1 hb (by omega) (by omega)
theorem span_le {b : Int} (hb : 2 ≤ b) {k : Nat} (h : b ^ k < 10 ^ 60) : k < 200 := by
  by_cases c : k < 200
  · exact c
  · have h1 := pow_two_le hb k
    have h2 := pow_mono (b := 2) (by decide) (show 200 ≤ k by omega)
    have h3 : (10 : Int) ^ 60 < 2 ^ 200 := by decide +kernel
    omega
end Eb

local macro_rules | `(tactic| walk_at "go") => `(tactic| repeat (first | refine ⟨_, rfl, ?_⟩ | refine ⟨_, _, rfl, rfl, ?_⟩ | refine ⟨rfl, ?_⟩ | refine ⟨_, _, rfl, rfl, ⟨by decide, by decide, by decide⟩, ?_⟩))
namespace K06
open PySem PySem.Spec PyProof.Rows L2 Eb
def topS (i : Nat) : Stmt := PySem.Challenge.pw_everybase_k06_sums_of_figures.main.body.getD i (.Pass ⟨0, 0, 0, 0⟩)
abbrev s_is_integer : Stmt := topS 6
theorem sc_is_integer : FnScope ["value"] ["value"] (defScope s_is_integer) := ⟨rfl, rfl, rfl, by decide +kernel, rfl, by decide +kernel, by decide +kernel⟩
abbrev s_is_number : Stmt := topS 7
theorem sc_is_number : FnScope ["value"] ["value"] (defScope s_is_number) := ⟨rfl, rfl, rfl, by decide +kernel, rfl, by decide +kernel, by decide +kernel⟩
abbrev s_is_base : Stmt := topS 8
theorem sc_is_base : FnScope ["value"] ["value"] (defScope s_is_base) := ⟨rfl, rfl, rfl, by decide +kernel, rfl, by decide +kernel, by decide +kernel⟩
abbrev s_need_base : Stmt := topS 10
theorem sc_need_base : FnScope ["base"] ["base"] (defScope s_need_base) := ⟨rfl, rfl, rfl, by decide +kernel, rfl, by decide +kernel, by decide +kernel⟩
abbrev s_need_numbers : Stmt := topS 11
theorem sc_need_numbers : FnScope ["numbers", "base", "number"] ["numbers", "base"] (defScope s_need_numbers) := ⟨rfl, rfl, rfl, by decide +kernel, rfl, by decide +kernel, by decide +kernel⟩
abbrev s_figures_of : Stmt := topS 12
theorem sc_figures_of : FnScope ["number", "base", "found", "left"] ["number", "base"] (defScope s_figures_of) := ⟨rfl, rfl, rfl, by decide +kernel, rfl, by decide +kernel, by decide +kernel⟩
abbrev s_total : Stmt := topS 13
theorem sc_total : FnScope ["number", "base"] ["number", "base"] (defScope s_total) := ⟨rfl, rfl, rfl, by decide +kernel, rfl, by decide +kernel, by decide +kernel⟩
abbrev s_root : Stmt := topS 14
theorem sc_root : FnScope ["number", "base", "found"] ["number", "base"] (defScope s_root) := ⟨rfl, rfl, rfl, by decide +kernel, rfl, by decide +kernel, by decide +kernel⟩
abbrev s__law_deal : Stmt := topS 16
theorem sc__law_deal : FnScope ["_law_script", "_law_base_here", "_law_cell", "_law_cells", "_law_blend"] ["_law_script", "_law_base_here"] (defScope s__law_deal) := ⟨rfl, rfl, rfl, by decide +kernel, rfl, by decide +kernel, by decide +kernel⟩
abbrev s__law_draw : Stmt := topS 17
theorem sc__law_draw : FnScope ["_law_deal_here", "_law_span", "_law_left"] ["_law_deal_here", "_law_span"] (defScope s__law_draw) := ⟨rfl, rfl, rfl, by decide +kernel, rfl, by decide +kernel, by decide +kernel⟩
abbrev s__law_pick : Stmt := topS 18
theorem sc__law_pick : FnScope ["_law_deal_here", "_law_some"] ["_law_deal_here", "_law_some"] (defScope s__law_pick) := ⟨rfl, rfl, rfl, by decide +kernel, rfl, by decide +kernel, by decide +kernel⟩
abbrev s__law_base : Stmt := topS 19
theorem sc__law_base : FnScope ["_law_deal_here", "_law_some"] ["_law_deal_here"] (defScope s__law_base) := ⟨rfl, rfl, rfl, by decide +kernel, rfl, by decide +kernel, by decide +kernel⟩
abbrev s__law_written : Stmt := topS 20
theorem sc__law_written : FnScope ["_law_figures_here", "_law_base_here", "_law_found", "_law_one"] ["_law_figures_here", "_law_base_here"] (defScope s__law_written) := ⟨rfl, rfl, rfl, by decide +kernel, rfl, by decide +kernel, by decide +kernel⟩
abbrev s__law_figures : Stmt := topS 21
theorem sc__law_figures : FnScope ["_law_number_here", "_law_base_here", "_law_found"] ["_law_number_here", "_law_base_here"] (defScope s__law_figures) := ⟨rfl, rfl, rfl, by decide +kernel, rfl, by decide +kernel, by decide +kernel⟩
abbrev s__law_number : Stmt := topS 22
theorem sc__law_number : FnScope ["_law_deal_here", "_law_base_here", "_law_span", "_law_room", "_law_some", "_law_found", "_law_k"] ["_law_deal_here", "_law_base_here"] (defScope s__law_number) := ⟨rfl, rfl, rfl, by decide +kernel, rfl, by decide +kernel, by decide +kernel⟩
abbrev s__law_rooted : Stmt := topS 23
theorem sc__law_rooted : FnScope ["_law_number_here", "_law_base_here"] ["_law_number_here", "_law_base_here"] (defScope s__law_rooted) := ⟨rfl, rfl, rfl, by decide +kernel, rfl, by decide +kernel, by decide +kernel⟩
abbrev s_law : Stmt := topS 24
theorem sc_law : FnScope ["_law_script", "_law_deal_here", "_law_turn", "_law_base_here", "_law_number_here", "_law_form", "_law_other", "_law_pair"] ["_law_script"] (defScope s_law) := ⟨rfl, rfl, rfl, by decide +kernel, rfl, by decide +kernel, by decide +kernel⟩
structure Txt (K : PySem.W.Frag) (mg : Str → Option Value) (F : Nat → Addr) (D : Nat → FuncData) (C : Nat → Addr) : Prop where
  f_is_integer : Fun K "is_integer" "is_integer" s_is_integer (F 0) (D 0)
  b_is_integer : Binds K (D 0) ["value"] []
  g_is_integer : mg "is_integer" = some (.ref (F 0))
  f_is_number : Fun K "is_number" "is_number" s_is_number (F 1) (D 1)
  b_is_number : Binds K (D 1) ["value"] []
  g_is_number : mg "is_number" = some (.ref (F 1))
  f_is_base : Fun K "is_base" "is_base" s_is_base (F 2) (D 2)
  b_is_base : Binds K (D 2) ["value"] []
  g_is_base : mg "is_base" = some (.ref (F 2))
  f_need_base : Fun K "need_base" "need_base" s_need_base (F 3) (D 3)
  b_need_base : Binds K (D 3) ["base"] []
  g_need_base : mg "need_base" = some (.ref (F 3))
  f_need_numbers : Fun K "need_numbers" "need_numbers" s_need_numbers (F 4) (D 4)
  b_need_numbers : Binds K (D 4) ["numbers", "base"] []
  g_need_numbers : mg "need_numbers" = some (.ref (F 4))
  f_figures_of : Fun K "figures_of" "figures_of" s_figures_of (F 5) (D 5)
  b_figures_of : Binds K (D 5) ["number", "base"] []
  g_figures_of : mg "figures_of" = some (.ref (F 5))
  f_total : Fun K "total" "total" s_total (F 6) (D 6)
  b_total : Binds K (D 6) ["number", "base"] []
  g_total : mg "total" = some (.ref (F 6))
  f_root : Fun K "root" "root" s_root (F 7) (D 7)
  b_root : Binds K (D 7) ["number", "base"] []
  g_root : mg "root" = some (.ref (F 7))
  f__law_deal : Fun K "_law_deal" "_law_deal" s__law_deal (F 8) (D 8)
  b__law_deal : Binds K (D 8) ["_law_script", "_law_base_here"] []
  g__law_deal : mg "_law_deal" = some (.ref (F 8))
  f__law_draw : Fun K "_law_draw" "_law_draw" s__law_draw (F 9) (D 9)
  b__law_draw : Binds K (D 9) ["_law_deal_here", "_law_span"] []
  g__law_draw : mg "_law_draw" = some (.ref (F 9))
  f__law_pick : Fun K "_law_pick" "_law_pick" s__law_pick (F 10) (D 10)
  b__law_pick : Binds K (D 10) ["_law_deal_here", "_law_some"] []
  g__law_pick : mg "_law_pick" = some (.ref (F 10))
  f__law_base : Fun K "_law_base" "_law_base" s__law_base (F 11) (D 11)
  b__law_base : Binds K (D 11) ["_law_deal_here"] []
  g__law_base : mg "_law_base" = some (.ref (F 11))
  f__law_written : Fun K "_law_written" "_law_written" s__law_written (F 12) (D 12)
  b__law_written : Binds K (D 12) ["_law_figures_here", "_law_base_here"] []
  g__law_written : mg "_law_written" = some (.ref (F 12))
  f__law_figures : Fun K "_law_figures" "_law_figures" s__law_figures (F 13) (D 13)
  b__law_figures : Binds K (D 13) ["_law_number_here", "_law_base_here"] []
  g__law_figures : mg "_law_figures" = some (.ref (F 13))
  f__law_number : Fun K "_law_number" "_law_number" s__law_number (F 14) (D 14)
  b__law_number : Binds K (D 14) ["_law_deal_here", "_law_base_here"] []
  g__law_number : mg "_law_number" = some (.ref (F 14))
  f__law_rooted : Fun K "_law_rooted" "_law_rooted" s__law_rooted (F 15) (D 15)
  b__law_rooted : Binds K (D 15) ["_law_number_here", "_law_base_here"] []
  g__law_rooted : mg "_law_rooted" = some (.ref (F 15))
  f_law : Fun K "law" "law" s_law (F 16) (D 16)
  b_law : Binds K (D 16) ["_law_script"] []
  g_law : mg "law" = some (.ref (F 16))
  n_isinstance : mg "isinstance" = none
  n_int : mg "int" = none
  n_bool : mg "bool" = none
  n_tuple : mg "tuple" = none
  n_sum : mg "sum" = none
  n_len : mg "len" = none
  n_range : mg "range" = none
  n_min : mg "min" = none
  n_max : mg "max" = none
  n_repr : mg "repr" = none
  v_LEAST_BASE : ∃ u, mg "LEAST_BASE" = some u ∧ RelV (.int 2) u
section
variable {P : Program} {w : World} {K : PySem.W.Frag} {mg : Str → Option Value} {base : Heap} {F : Nat → Addr} {D : Nat → FuncData} {C : Nat → Addr}
def sp_is_integer : Sp := fun vs H Q _ => ∃ i, vs = [V.int i] ∧ Q (.bl true) H
theorem ok_is_integer (T : Txt K mg F D C) : FnOk P w K mg base CX0 1 (F 0) (D 0) ["value"] (sp_is_integer) := by
  refine T.f_is_integer.ok sc_is_integer (fun vs H Q E h => ?_) (fun cdv A outer s H vs Q E hr h => ?_)
  · obtain ⟨i, rfl, q⟩ := h
    rfl
  · obtain ⟨i, rfl, q⟩ := h
    refine ⟨_, (pss_one (ps_ret (pe_and (pe_callB call_isi (by rfl) T.n_isinstance Eb.bb_isinstance (pa_cons (pv 0) (pa_cons (pe_bltn (v := .ty "int") (by rfl) T.n_int Eb.bb_int rfl) pa_nil))) (pe_one (pe_not (pe_callB call_isi (by rfl) T.n_isinstance Eb.bb_isinstance (pa_cons (pv 0) (pa_cons (pe_bltn (v := .ty "bool") (by rfl) T.n_bool Eb.bb_bool rfl) pa_nil)))))))), ?_⟩
    refine ⟨_, rfl, _, _, _, _, true, rfl, .ty "int", .base (.int i), kit_ty (by decide +kernel), true, rfl, iteT ?_⟩
    refine ⟨_, rfl, _, _, _, _, false, rfl, .ty "bool", .base (.int i), kit_ty (by decide +kernel), false, rfl, ?_⟩
    exact q
def sp_is_number : Sp := fun vs H Q _ => ∃ i, vs = [V.int i] ∧ Q (.bl (decide (0 ≤ i))) H
theorem ok_is_number (T : Txt K mg F D C) : FnOk P w K mg base CX0 2 (F 1) (D 1) ["value"] (sp_is_number) := by
  refine T.f_is_number.ok sc_is_number (fun vs H Q E h => ?_) (fun cdv A outer s H vs Q E hr h => ?_)
  · obtain ⟨i, rfl, q⟩ := h
    rfl
  · obtain ⟨i, rfl, q⟩ := h
    refine ⟨_, (pss_one (ps_ret (pe_and (pe_call (ok_is_integer T) (hr.mono (by decide)) (by rfl) T.g_is_integer T.f_is_integer.kp T.b_is_integer .nil pass0 (pa_cons (pv 0) pa_nil)) (pe_one (pe_cmpR op_ge (pv 0) pe_int (nomark _)))))), ?_⟩
    refine ⟨_, rfl, i, rfl, true, rfl, iteT ?_⟩
    refine ⟨_, rfl, _, _, rfl, rfl, ?_⟩
    exact q
def sp_is_base : Sp := fun vs H Q _ => ∃ i, vs = [V.int i] ∧ Q (.bl (decide (2 ≤ i))) H
theorem ok_is_base (T : Txt K mg F D C) : FnOk P w K mg base CX0 2 (F 2) (D 2) ["value"] (sp_is_base) := by
  refine T.f_is_base.ok sc_is_base (fun vs H Q E h => ?_) (fun cdv A outer s H vs Q E hr h => ?_)
  · obtain ⟨i, rfl, q⟩ := h
    rfl
  · obtain ⟨i, rfl, q⟩ := h
    refine ⟨_, (pss_one (ps_ret (pe_and (pe_call (ok_is_integer T) (hr.mono (by decide)) (by rfl) T.g_is_integer T.f_is_integer.kp T.b_is_integer .nil pass0 (pa_cons (pv 0) pa_nil)) (pe_one (pe_cmpR op_ge (pv 0) (C8.pe_gc (by rfl) T.v_LEAST_BASE) (nomark _)))))), ?_⟩
    refine ⟨_, rfl, i, rfl, true, rfl, iteT ?_⟩
    refine ⟨_, rfl, _, _, rfl, rfl, ?_⟩
    exact q
def sp_need_base : Sp := fun vs H Q _ => ∃ i, vs = [V.int i] ∧ 2 ≤ i ∧ Q .non H
theorem ok_need_base (T : Txt K mg F D C) : FnOk P w K mg base CX0 3 (F 3) (D 3) ["base"] (sp_need_base) := by
  refine T.f_need_base.ok sc_need_base (fun vs H Q E h => ?_) (fun cdv A outer s H vs Q E hr h => ?_)
  · obtain ⟨i, rfl, hi, q⟩ := h
    rfl
  · obtain ⟨i, rfl, hi, q⟩ := h
    refine ⟨_, (pss_one (ps_if (pt_not (pt_val (pe_call (ok_is_base T) (hr.mono (by decide)) (by rfl) T.g_is_base T.f_is_base.kp T.b_is_base .nil pass0 (pa_cons (pv 0) pa_nil)))) (pss_one ps_never) pss_nil)), ?_⟩
    refine ⟨_, rfl, i, rfl, _, rfl, ?_⟩
    rw [decide_eq_true hi]
    exact iteF q
def sp_need_numbers (K : PySem.W.Frag) : Sp := fun vs H Q _ => ∃ (a : Addr) (ns : List Int) (b : Int), vs = [V.ref a, .int b] ∧ SqL K H a (ns.map V.int) ∧ (∀ n ∈ ns, 0 ≤ n) ∧ 2 ≤ b ∧ Q .non H
theorem ok_need_numbers (T : Txt K mg F D C) : FnOk P w K mg base CX0 4 (F 4) (D 4) ["numbers", "base"] (sp_need_numbers K) := by
  refine T.f_need_numbers.ok sc_need_numbers (fun vs H Q E h => ?_) (fun cdv A outer s H vs Q E hr h => ?_)
  · obtain ⟨a, ns, b, rfl, hs, hn, hb, q⟩ := h
    rfl
  · obtain ⟨a, ns, b, rfl, hs, hn, hb, q⟩ := h
    refine ⟨_, (pss_cons (ps_expr (pe_call (ok_need_base T) (hr.mono (by decide)) (by rfl) T.g_need_base T.f_need_base.kp T.b_need_base .nil pass0 (pa_cons (pv 1) pa_nil))) (pss_one (ps_for PassesOwn.never rfl (pi_list (pv 0)) (pg_name (i := 2) sc_need_numbers.nd rfl (.inl rfl)) (pss_one (ps_if (pt_not (pt_val (pe_call (ok_is_number T) (hr.mono (by decide)) (by rfl) T.g_is_number T.f_is_number.kp T.b_is_number .nil pass0 (pa_cons (pv 2) pa_nil)))) (pss_one ps_never) pss_nil))))), ?_⟩
    refine ⟨_, rfl, b, rfl, hb, ?_⟩
    refine ⟨_, rfl, a, rfl, ⟨_, hs⟩, for_list (K := K) (a := a) (xs := ns.map V.int) (fun i σ H' => ∃ v, σ = [some (.ref a), some (.int b), v] ∧ H' = H) ⟨none, rfl, rfl⟩ ?_ ?_ ?_⟩
    · rintro i σ H' _ ⟨v, rfl, rfl⟩
      exact hs
    · rintro i x σ H' hx ⟨v, rfl, rfl⟩
      rw [List.getElem?_map] at hx
      obtain ⟨z, hz, rfl⟩ := Option.map_eq_some_iff.mp hx
      refine ⟨_, rfl, z, rfl, _, rfl, ?_⟩
      rw [decide_eq_true (hn z (List.mem_of_getElem? hz))]
      exact iteF ⟨_, rfl, rfl⟩
    · rintro σ H' ⟨v, rfl, rfl⟩
      exact q

/-- figures_of: a new tuple of the figures -/
def sp_figures_of : Sp := fun vs H Q _ => ∃ n b : Int, vs = [V.int n, .int b] ∧ 0 ≤ n ∧ 2 ≤ b ∧ Sm n ∧ Sm b ∧ ∀ p H', Same H H' → H p = none → H' p = some (.tup ((digs b n).reverse.map V.int)) → Q (.ref p) H'
theorem ok_figures_of (T : Txt K mg F D C) : FnOk P w K mg base CX0 5 (F 5) (D 5) ["number", "base"] (sp_figures_of) := by
  refine T.f_figures_of.ok sc_figures_of (fun vs H Q E h => ?_) (fun cdv A outer s H vs Q E hr h => ?_)
  · obtain ⟨n, b, rfl, hn, hb, sn, sb, q⟩ := h
    rfl
  · obtain ⟨n, b, rfl, hn, hb, sn, sb, q⟩ := h
    refine ⟨_, (pss_cons (ps_expr (pe_call (ok_need_numbers T) (hr.mono (by decide)) (by rfl) T.g_need_numbers T.f_need_numbers.kp T.b_need_numbers .nil pass0 (pa_cons (pe_lst (pa_cons (pv 0) pa_nil)) (pa_cons (pv 1) pa_nil)))) (pss_cons (ps_set (i := 2) sc_figures_of.nd rfl (.inl rfl) (pe_lst (pa_cons (pe_op op_mod (pv 0) (pv 1)) pa_nil))) (pss_cons (ps_set (i := 3) sc_figures_of.nd rfl (.inl rfl) (pe_op op_fdivW (pv 0) (pv 1))) (pss_cons (ps_while PassesOwn.never (pt_cmpR op_gt (pv 3) pe_int (nomark _)) (pss_cons (ps_expr (pe_bm PySem.F.plainAttrs_list PySem.F.slot_list_append PySem.F.type_list_append mt_append (pv 2) (pa_cons (pe_op op_mod (pv 3) (pv 1)) pa_nil))) (pss_one (ps_set (i := 3) sc_figures_of.nd rfl (.inl rfl) (pe_op op_fdivW (pv 3) (pv 1)))))) (pss_one (ps_ret (pe_callTy call_tuple_of (by rfl) T.n_tuple Eb.bb_tuple (pa_cons (pe_revL (pv 2)) pa_nil)))))))), ?_⟩
    -- need_numbers([number], base)
    refine ⟨_, rfl, szr rfl, fun t ht => ⟨_, rfl, t, [n], b, rfl, sqL_new, ?_, hb, ?_⟩⟩
    · intro z hz
      rw [List.mem_singleton.mp hz]
      exact hn
    -- found = [number % base], left = number // base
    refine ⟨_, rfl, _, rfl, _, _, rfl, rfl, (show 0 < b by omega), szr rfl, fun p hp => ?_⟩
    refine ⟨_, rfl, _, rfl, _, _, rfl, rfl, divW (by omega) sb, ?_⟩
    have hp0 : H p = none := by
      cases e : H p with
      | none => rfl
      | some o =>
        rw [same_new ht _ _ e] at hp
        cases hp
    refine whl (fun m σ H' => ∃ (c : List Int) (l : Int), σ = [some (.int n), some (.int b), some (.ref p), some (.int l)] ∧ 0 ≤ l ∧ l ≤ n ∧ m = l.toNat ∧ c ++ rest b l = digs b n ∧ H' p = some (.lst (c.map V.int)) ∧ Same H H') (n / b).toNat
      ⟨[n % b], n / b, rfl, div_nn hb hn, Int.ediv_le_self _ hn, rfl, (digs_rest hb hn).symm, upd_same, same_mut (same_new ht) hp0⟩ ?_
    rintro m σ H' ⟨c, l, rfl, h0, h1, rfl, hc, hH, sm⟩
    have hlen : c.length ≤ 1900 := by
      have := congrArg List.length hc
      rw [List.length_append] at this
      have := digs_small hb hn sn
      omega
    refine ⟨_, rfl, _, _, rfl, rfl, _, rfl, ?_⟩
    by_cases hl : 0 < l
    · rw [decide_eq_true hl]
      refine iteT (turn_of ?_)
      refine ⟨_, rfl, .inl ⟨rfl, _, sqL_of hH⟩, _, rfl, _, rfl, _, _, rfl, rfl, (show 0 < b by omega), p, _, _, rfl, rfl, hH, ?_, ?_⟩
      · rw [List.length_map]
        exact szl (by omega)
      · refine ⟨_, rfl, _, rfl, _, _, rfl, rfl, divW (by omega) sb, ?_⟩
        refine ⟨(l / b).toNat, ?_, c ++ [l % b], l / b, rfl, div_nn hb h0, ?_, rfl, ?_, ?_, same_mut sm hp0⟩
        · by_cases z : l < b
          · rw [div_zero h0 z]
            show 0 < l.toNat
            omega
          · have z1 := div_lt hb (Int.not_lt.mp z)
            have z2 := div_nn hb h0
            omega
        · exact Int.le_trans (Int.ediv_le_self _ h0) h1
        · rw [← hc, rest_step hb hl, List.append_assoc]
          rfl
        · rw [upd_same, List.map_append]
          rfl
    · rw [decide_eq_false hl]
      refine iteF ?_
      rw [rest_zero (by omega), List.append_nil] at hc
      -- return tuple(found[::-1])
      refine ⟨_, rfl, p, _, rfl, sqL_of hH, fun r hr' => ⟨r, _, rfl, .inl ⟨sqL_new, fun t2 ht2 => ?_⟩⟩⟩
      have e1 : Same H' (upd H' r (.lst ((c.map V.int).reverse))) := same_new hr'
      refine q t2 _ ((sm.trans e1).trans (same_new ht2)) (sm.free (e1.free ht2)) ?_
      rw [upd_same, hc, List.map_reverse]
def sp_total : Sp := fun vs H Q _ => ∃ n b : Int, vs = [V.int n, .int b] ∧ 0 ≤ n ∧ 2 ≤ b ∧ Sm n ∧ Sm b ∧ ∀ H', Same H H' → Q (.int (dsum b n)) H'
theorem ok_total (T : Txt K mg F D C) : FnOk P w K mg base CX0 6 (F 6) (D 6) ["number", "base"] (sp_total) := by
  refine T.f_total.ok sc_total (fun vs H Q E h => ?_) (fun cdv A outer s H vs Q E hr h => ?_)
  · obtain ⟨n, b, rfl, hn, hb, sn, sb, q⟩ := h
    rfl
  · obtain ⟨n, b, rfl, hn, hb, sn, sb, q⟩ := h
    refine ⟨_, (pss_one (ps_ret (pe_callB (Eb.cr_sumT rfl) (by rfl) T.n_sum Eb.bb_sum (pa_cons (pe_call (ok_figures_of T) (hr.mono (by decide)) (by rfl) T.g_figures_of T.f_figures_of.kp T.b_figures_of .nil pass0 (pa_cons (pv 0) (pa_cons (pv 1) pa_nil))) pa_nil)))), ?_⟩
    refine ⟨_, rfl, _, rfl, n, b, rfl, hn, hb, sn, sb, fun p H' sm hp e => ?_⟩
    refine ⟨p, (digs b n).reverse, rfl, sqT_of e, ?_⟩
    have e2 : (digs b n).reverse.sum = dsum b n := by
      rw [List.sum_reverse]
      rfl
    rw [e2]
    exact q _ sm
def sp_root : Sp := fun vs H Q _ => ∃ n b : Int, vs = [V.int n, .int b] ∧ 0 ≤ n ∧ 2 ≤ b ∧ Sm n ∧ Sm b ∧ ∀ H', Same H H' → Q (.int (rooted b n)) H'
theorem ok_root (T : Txt K mg F D C) : FnOk P w K mg base CX0 7 (F 7) (D 7) ["number", "base"] (sp_root) := by
  refine T.f_root.ok sc_root (fun vs H Q E h => ?_) (fun cdv A outer s H vs Q E hr h => ?_)
  · obtain ⟨n, b, rfl, hn, hb, sn, sb, q⟩ := h
    rfl
  · obtain ⟨n, b, rfl, hn, hb, sn, sb, q⟩ := h
    refine ⟨_, (pss_cons (ps_set (i := 2) sc_root.nd rfl (.inl rfl) (pe_call (ok_total T) (hr.mono (by decide)) (by rfl) T.g_total T.f_total.kp T.b_total .nil pass0 (pa_cons (pv 0) (pa_cons (pv 1) pa_nil)))) (pss_cons (ps_while PassesOwn.never (pt_cmpR op_ge (pv 2) (pv 1) (nomark _)) (pss_one (ps_set (i := 2) sc_root.nd rfl (.inl rfl) (pe_call (ok_total T) (hr.mono (by decide)) (by rfl) T.g_total T.f_total.kp T.b_total .nil pass0 (pa_cons (pv 2) (pa_cons (pv 1) pa_nil)))))) (pss_one (ps_ret (pv 2))))), ?_⟩
    refine ⟨_, rfl, _, rfl, n, b, rfl, hn, hb, sn, sb, fun H1 s1 => ?_⟩
    refine whl (fun m σ H' => ∃ f : Int, σ = [some (.int n), some (.int b), some (.int f)] ∧ 0 ≤ f ∧ f ≤ n ∧ m = f.toNat ∧ rooted b f = rooted b n ∧ Same H H') (dsum b n).toNat
      ⟨dsum b n, rfl, dsum_nn hb n hn, dsum_le hb n hn, rfl, rooted_dsum hb, s1⟩ ?_
    rintro m σ H' ⟨f, rfl, h0, h1, rfl, hc, sm⟩
    refine ⟨_, rfl, _, rfl, _, _, rfl, rfl, _, rfl, ?_⟩
    by_cases hl : b ≤ f
    · rw [decide_eq_true hl]
      refine iteT (turn_of ?_)
      refine ⟨_, rfl, _, rfl, f, b, rfl, h0, hb, sn.le h0 h1, sb, fun H2 s2 => ?_⟩
      have z := dsum_lt hb hl
      have z2 := dsum_nn hb f h0
      exact ⟨(dsum b f).toNat, by omega, dsum b f, rfl, z2, by omega, rfl, (rooted_dsum hb).trans hc, sm.trans s2⟩
    · rw [decide_eq_false hl]
      refine iteF ?_
      refine ⟨_, rfl, ?_⟩
      rw [rooted_lt (by omega)] at hc
      rw [hc]
      exact q _ sm

theorem last_split {xs : List Int} {z : Int} (h : xs.getLast? = some z) : xs = xs.dropLast ++ [z] := by
  obtain ⟨ys, rfl⟩ := List.getLast?_eq_some_iff.mp h
  simp
theorem last_at {xs : List Int} {z : Int} (h : xs.getLast? = some z) : atI (xs.map V.int) (-1) = some (.int z) := by
  rw [last_split h, List.map_append]
  exact atI_last _ _
theorem last_get {xs : List Int} {z : Int} (h : xs.getLast? = some z) : (xs.map V.int)[(xs.map V.int).length - 1]? = some (.int z) := by
  rw [← List.getLast?_eq_getElem?, List.getLast?_map, h]
  rfl
theorem last_none {xs : List Int} (h : xs ≠ []) : ∃ z, xs.getLast? = some z := ⟨xs.getLast h, List.getLast?_eq_getLast h⟩
def sp_draw : Sp := fun vs H Q _ => ∃ (d l : Addr) (n : Int), vs = [V.ref d, .int n] ∧ Deal H d l ∧ 0 < n ∧ Sm n ∧ ∀ r H', 0 ≤ r → r < n → Drew d l H H' → Q (.int r) H'
theorem ok__law_draw (T : Txt K mg F D C) : FnOk P w K mg base CX0 1 (F 9) (D 9) ["_law_deal_here", "_law_span"] (sp_draw) := by
  refine T.f__law_draw.ok sc__law_draw (fun vs H Q E h => ?_) (fun cdv A outer s H vs Q E hr h => ?_)
  · obtain ⟨d, l, n, rfl, D0, hn, sn, q⟩ := h
    rfl
  · obtain ⟨d, l, n, rfl, D0, hn, sn, q⟩ := h
    refine ⟨_, (pss_cons (ps_while PassesOwn.never (PW.pt (pw_and (pt_cmpR (op_neL hr.units) (pe_ix ix_list (pv 0) pe_int (fun _ _ => rfl)) (pe_lst pa_nil) (nomark _)) (pw_and1 (pt_cmpR op_eq (pe_ix ix_list (pe_ix ix_list (pv 0) pe_int (fun _ _ => rfl)) (pe_un un_neg pe_int) (fun _ _ => rfl)) pe_int (nomark _))))) (pss_one (ps_expr (pe_bm0 PySem.F.plainAttrs_list PySem.F.slot_list_pop PySem.F.type_list_pop mt_pop (pe_ix ix_list (pv 0) pe_int (fun _ _ => rfl)))))) (pss_cons (ps_if (pt_cmpR (op_neL hr.units) (pe_ix ix_list (pv 0) pe_int (fun _ _ => rfl)) (pe_lst pa_nil) (nomark _)) (pss_cons (ps_set (i := 2) sc__law_draw.nd rfl (.inl rfl) (pe_bm0 PySem.F.plainAttrs_list PySem.F.slot_list_pop PySem.F.type_list_pop mt_pop (pe_ix ix_list (pv 0) pe_int (fun _ _ => rfl)))) (pss_cons (ps_expr (pe_bm PySem.F.plainAttrs_list PySem.F.slot_list_append PySem.F.type_list_append mt_append (pe_ix ix_list (pv 0) pe_int (fun _ _ => rfl)) (pa_cons (pe_op op_fdivW (pv 2) (pv 1)) pa_nil))) (pss_one (ps_ret (pe_op op_mod (pe_callTy call_int1 (by rfl) T.n_int Eb.bb_int (pa_cons (pv 2) pa_nil)) (pv 1)))))) pss_nil) (pss_cons (ps_asg (pe_op op_mod (pe_callTy call_int1 (by rfl) T.n_int Eb.bb_int (pa_cons (pe_op op_mulW (pe_ix ix_list (pv 0) pe_int (fun _ _ => rfl)) pe_int) pa_nil)) pe_int) (pg_sub (pv 0) pe_int set_list)) (pss_one (ps_ret (pe_op op_mod (pe_callTy call_int1 (by rfl) T.n_int Eb.bb_int (pa_cons (pe_op op_fdivW (pe_ix ix_list (pv 0) pe_int (fun _ _ => rfl)) pe_int) pa_nil)) (pv 1))))))), ?_⟩
    have ne : d ≠ l := D0.ne
    -- while deal[0] != [] and deal[0][-1] == 0: deal[0].pop()
    refine whl (fun m σ H' => ∃ (xs : List Int) (k : Int), σ = [some (.ref d), some (.int n), none] ∧ m = xs.length ∧ xs.length ≤ 63 ∧ H' d = some (.lst [.ref l, .int k]) ∧ H' l = some (.lst (xs.map V.int)) ∧ 0 ≤ k ∧ k < 2147483647 ∧ Grow [d, l] H H')
      (Classical.choose D0.ex).length ?_ ?_
    · obtain ⟨k, h1, h2, h3, h4, h5⟩ := Classical.choose_spec D0.ex
      exact ⟨_, k, rfl, rfl, h3, h1, h2, h4, h5, Grow.refl _ _⟩
    rintro m σ H' ⟨xs, k, rfl, rfl, hx, h1, h2, hk, hk2, g⟩
    refine by_ans (decide (xs.getLast? = some 0)) (fun Q' k' => ?_) (fun H1 s1 => ?_)
    · refine ⟨_, rfl, d, _, _, .ref l, rfl, rfl, sqL_of h1, rfl, szr rfl, fun p hp => ?_⟩
      have s1 : Same H' (upd H' p (.lst [])) := same_new hp
      refine ⟨l, p, xs, [], rfl, rfl, s1.seq (sqL_of h2), sqL_new, _, rfl, ?_⟩
      by_cases e : xs = []
      · subst e
        exact iteF (k' _ s1)
      · obtain ⟨z, hz⟩ := last_none e
        rw [decide_eq_false e]
        refine iteT ?_
        refine ⟨_, rfl, d, _, _, .ref l, rfl, rfl, sqL_of (s1 _ _ h1), rfl, 1, rfl, l, _, _, _, rfl, rfl, sqL_of (s1 _ _ h2), last_at hz, rfl, _, rfl, ?_⟩
        have e3 : decide (V.int z = V.int 0) = decide (xs.getLast? = some 0) := by
          rw [hz]
          by_cases c : z = 0
          · subst c; rfl
          · rw [decide_eq_false (fun y => c (V.int.inj y)), decide_eq_false (fun y => c (Option.some.inj y))]
        show Q' (decide (V.int z = V.int 0)) _
        rw [e3]
        exact k' _ s1
    replace h1 := s1 _ _ h1
    replace h2 := s1 _ _ h2
    replace g := g.same s1
    by_cases e : xs.getLast? = some 0
    · rw [decide_eq_true e]
      refine iteT (turn_of ?_)
      refine ⟨_, rfl, d, _, _, .ref l, rfl, rfl, sqL_of h1, rfl, .inl ⟨rfl, _, sqL_of h2⟩, l, _, _, rfl, rfl, h2, last_get e, ?_⟩
      have hl : 0 < xs.length := List.length_pos_iff.mpr (fun z => by subst z; cases e)
      refine ⟨xs.length - 1, by omega, xs.dropLast, k, rfl, by simp, by simp; omega, ?_, ?_, hk, hk2, g.at (by simp)⟩
      · rw [upd_ne ne]
        exact h1
      · rw [upd_same, List.map_dropLast]
    · rw [decide_eq_false e]
      refine iteF ?_
      have D1 : Deal H1 d l := ⟨xs, k, h1, h2, hx, hk, hk2⟩
      -- if deal[0] != []
      refine ⟨_, rfl, d, _, _, .ref l, rfl, rfl, sqL_of h1, rfl, szr rfl, fun p hp => ?_⟩
      have s2 : Same H1 (upd H1 p (.lst [])) := same_new hp
      generalize hH2 : upd H1 p (.lst []) = H2 at s2
      have hp2 : H2 p = some (.lst []) := by rw [← hH2]; exact upd_same
      replace h1 := s2 _ _ h1
      replace h2 := s2 _ _ h2
      replace g := g.same s2
      refine ⟨l, p, xs, [], rfl, rfl, sqL_of h2, sqL_of hp2, _, rfl, ?_⟩
      by_cases e2 : xs = []
      · subst e2
        refine iteF ?_
        -- deal[1] = int(deal[1] * 48271) % 2147483647
        refine ⟨_, rfl, d, _, _, .int k, rfl, rfl, sqL_of h1, rfl, _, _, rfl, rfl, mulW (sm_of hk (by omega)) (sm_of (by decide) (by decide)), .inl ⟨_, rfl, ?_⟩⟩
        refine ⟨_, _, rfl, rfl, (show (0 : Int) < 2147483647 by decide), ?_⟩
        refine ⟨_, rfl, d, _, _, 1, rfl, rfl, h1, rfl, ?_⟩
        have b0 : 0 ≤ k * 48271 % 2147483647 := by omega
        have b1 : k * 48271 % 2147483647 < 2147483647 := by omega
        -- return int(deal[1] // 8) % span
        refine ⟨_, rfl, d, _, _, _, rfl, rfl, sqL_of upd_same, rfl, _, _, rfl, rfl, divW (by decide) (sm_of (by decide) (by decide)), .inl ⟨_, rfl, ?_⟩⟩
        refine ⟨_, rfl, _, _, rfl, rfl, hn, ?_⟩
        refine q _ _ (Int.emod_nonneg _ (by omega)) (Int.emod_lt_of_pos _ hn) ⟨⟨[], _, upd_same, ?_, hx, b0, b1⟩, g.at (by simp)⟩
        rw [upd_ne ne.symm]
        exact h2
      · rw [decide_eq_false e2]
        refine iteT ?_
        obtain ⟨z, hz⟩ := last_none e2
        have hl : 0 < xs.length := List.length_pos_iff.mpr e2
        -- left = deal[0].pop()
        refine ⟨_, rfl, d, _, _, .ref l, rfl, rfl, sqL_of h1, rfl, .inl ⟨rfl, _, sqL_of h2⟩, l, _, _, rfl, rfl, h2, last_get hz, ?_⟩
        have h1' : upd H2 l (.lst ((xs.map V.int).dropLast)) d = some (.lst [.ref l, .int k]) := by rw [upd_ne ne]; exact h1
        -- deal[0].append(left // span)
        refine ⟨_, rfl, d, _, _, .ref l, rfl, rfl, sqL_of h1', rfl, .inl ⟨rfl, _, sqL_of upd_same⟩, _, rfl, _, rfl, _, _, rfl, rfl, divW hn sn, l, _, _, rfl, rfl, upd_same, ?_, ?_⟩
        · rw [List.length_dropLast, List.length_map]
          exact szl (by omega)
        -- return int(left) % span
        refine ⟨_, rfl, .inl ⟨_, rfl, ?_⟩⟩
        refine ⟨_, rfl, _, _, rfl, rfl, hn, ?_⟩
        refine q _ _ (Int.emod_nonneg _ (by omega)) (Int.emod_lt_of_pos _ hn) ⟨⟨xs.dropLast ++ [z / n], k, ?_, ?_, ?_, hk, hk2⟩, (g.at (by simp)).at (by simp)⟩
        · rw [upd_ne ne]
          exact h1'
        · rw [upd_same, List.map_append, List.map_dropLast]
          rfl
        · rw [List.length_append, List.length_dropLast]
          simp
          omega
/-- one of some things -/
def sp_pick (K : PySem.W.Frag) : Sp := fun vs H Q _ => ∃ (d l a : Addr) (xs : List V), vs = [V.ref d, .ref a] ∧ Deal H d l ∧ SqL K H a xs ∧ a ∉ [d, l] ∧ 0 < xs.length ∧ xs.length ≤ 100000 ∧ ∀ v H', v ∈ xs → Drew d l H H' → Q v H'
theorem ok__law_pick (T : Txt K mg F D C) : FnOk P w K mg base CX0 2 (F 10) (D 10) ["_law_deal_here", "_law_some"] (sp_pick K) := by
  refine T.f__law_pick.ok sc__law_pick (fun vs H Q E h => ?_) (fun cdv A outer s H vs Q E hr h => ?_)
  · obtain ⟨d, l, a, xs, rfl, D0, hs, na, h0, h1, q⟩ := h
    rfl
  · obtain ⟨d, l, a, xs, rfl, D0, hs, na, h0, h1, q⟩ := h
    refine ⟨_, (pss_one (ps_ret (pe_ix ix_list (pv 1) (pe_call (ok__law_draw T) (hr.mono (by decide)) (by rfl) T.g__law_draw T.f__law_draw.kp T.b__law_draw .nil pass0 (pa_cons (pv 0) (pa_cons (pe_callB call_len_seq (by rfl) T.n_len Eb.bb_len (pa_cons (pv 1) pa_nil)) pa_nil))) (fun _ _ => rfl)))), ?_⟩
    refine ⟨_, rfl, _, rfl, _, rfl, a, _, rfl, .inl hs, d, l, _, rfl, D0, (show (0 : Int) < (xs.length : Int) by omega), sm_of (by omega) (by omega), fun r H' r0 r1 dr => ?_⟩
    have hr : r.toNat < xs.length := by omega
    refine ⟨a, _, _, xs[r.toNat], rfl, rfl, dr.seqL na hs, at_of (j := r.toNat) (by omega) (List.getElem?_eq_getElem hr), ?_⟩
    exact q _ _ (List.getElem_mem hr) dr
theorem cut_ints (ns : List Int) (l h : Option Int) : ∃ ms : List Int, cutV (ns.map V.int) l h = ms.map V.int ∧ ms.length ≤ ns.length := by
  unfold cutV
  refine ⟨(ns.drop (HT.sIx (ns.map V.int).length 0 l)).take (HT.sIx (ns.map V.int).length (ns.map V.int).length h - HT.sIx (ns.map V.int).length 0 l), ?_, ?_⟩
  · rw [List.map_take, List.map_drop]
  · rw [List.length_take, List.length_drop]
    omega
/-- the source of draws: new -/
def sp_deal (K : PySem.W.Frag) : Sp := fun vs H Q _ => ∃ (a : Addr) (ns : List Int) (k : Int), vs = [V.ref a, .int k] ∧ SqL K H a (ns.map V.int) ∧ ns.length ≤ 63 ∧ 0 ≤ k ∧ k ≤ 1000 ∧ ∀ d l H', Same H H' → H d = none → H l = none → Deal H' d l → Q (.ref d) H'
theorem ok__law_deal (T : Txt K mg F D C) : FnOk P w K mg base CX0 1 (F 8) (D 8) ["_law_script", "_law_base_here"] (sp_deal K) := by
  refine T.f__law_deal.ok sc__law_deal (fun vs H Q E h => ?_) (fun cdv A outer s H vs Q E hr h => ?_)
  · obtain ⟨a, ns, k, rfl, hs, hn, k0, k1, q⟩ := h
    rfl
  · obtain ⟨a, ns, k, rfl, hs, hn, k0, k1, q⟩ := h
    refine ⟨_, (pss_cons (ps_setLc (i := 3) (own := [("_law_cell", 2)]) rfl sc__law_deal.nd rfl rfl (sw_true rfl rfl rfl (by decide +kernel)) (pi_list (pe_slice sl_list (pv 0) (po_some (pv 1)) (po_some pe_int))) (blkOk_by (N := ["_law_script", "_law_base_here", "_law_cell", "_law_cells", "_law_blend"]) (sc := defScope s__law_deal) (by decide +kernel)) (fun _ _ _ _ _ => (pg_name (i := 2) sc__law_deal.nd rfl (.inl rfl))) (fun _ _ _ _ _ => pts_nil) (fun _ _ _ _ _ => (pe_ifExp (pt_cmpR op_gt (pv 2) pe_int (nomark _)) (pv 2) (pe_op op_sub pe_int (pv 2))))) (pss_cons (ps_set (i := 4) sc__law_deal.nd rfl (.inl rfl) (pe_op op_add pe_int (pe_op op_mulW pe_int (pv 1)))) (pss_cons (ps_for PassesOwn.never rfl (pi_list (pv 3)) (pg_name (i := 2) sc__law_deal.nd rfl (.inl rfl)) (pss_one (ps_set (i := 4) sc__law_deal.nd rfl (.inl rfl) (pe_op op_mod (pe_callTy call_int1 (by rfl) T.n_int Eb.bb_int (pa_cons (pe_op op_add (pe_op op_mulW (pv 4) pe_int) (pe_op op_mod (pe_callTy call_int1 (by rfl) T.n_int Eb.bb_int (pa_cons (pv 2) pa_nil)) pe_int)) pa_nil)) pe_int)))) (pss_one (ps_ret (pe_lst (pa_cons (pe_revL (pe_lc (own := [("_law_cell", 2)]) rfl sc__law_deal.nd (pi_list (pv 3)) (blkOk_by (N := ["_law_script", "_law_base_here", "_law_cell", "_law_cells", "_law_blend"]) (sc := defScope s__law_deal) (by decide +kernel)) (fun _ _ _ _ _ => (pg_name (i := 2) sc__law_deal.nd rfl (.inl rfl))) (fun _ _ _ _ _ => (pts_one (pt_cmpR op_ge (pv 2) (pe_op op_pow pe_int pe_int) (nomark _)))) (fun _ _ _ _ _ => (pv 2)))) (pa_cons (pv 4) pa_nil)))))))), ?_⟩
    obtain ⟨ms, em, hm⟩ := cut_ints ns (some k) (some 63)
    -- cells = [.. for cell in script[base:63]]
    refine ⟨_, rfl, _, rfl, _, rfl, _, rfl, a, _, rfl, hs, fun c hc => ?_⟩
    refine ⟨c, rfl, ⟨_, sqL_new⟩, fun D hD => ?_⟩
    rw [em] at hD ⊢
    have s1 : Same H (upd H c (.lst (ms.map V.int))) := same_new hc
    generalize hH1 : upd H c (.lst (ms.map V.int)) = H1 at hD s1 ⊢
    have hc1 : H1 c = some (.lst (ms.map V.int)) := by rw [← hH1]; exact upd_same
    refine lc_list (K := K) (a := c) (xs := ms.map V.int) (fun i H' => ∃ zs : List Int, zs.length = i ∧ H' D = some (.lst (zs.map V.int)) ∧ Same H1 H') ⟨[], rfl, upd_same, same_new hD⟩ (fun i H' _ ⟨zs, _, _, sm⟩ => sqL_of (sm _ _ hc1)) ?_ ?_
    · rintro i x H' hx ⟨zs, ez, hz, sm⟩
      rw [List.getElem?_map] at hx
      obtain ⟨z, hz', rfl⟩ := Option.map_eq_some_iff.mp hx
      have hi : i < ms.length := (List.getElem?_eq_some_iff.mp hz').1
      refine ⟨rfl, ?_⟩
      refine ⟨_, rfl, _, _, rfl, rfl, _, rfl, ?_⟩
      have fin : ∀ y : Int, ∃ acc, H' D = some (.lst acc) ∧ acc.length < sizeLine ∧ ∃ zs : List Int, zs.length = i + 1 ∧ upd H' D (.lst (acc ++ [V.int y])) D = some (.lst (zs.map V.int)) ∧ Same H1 (upd H' D (.lst (acc ++ [V.int y]))) := fun y =>
        ⟨_, hz, by rw [List.length_map]; exact szl (by omega), zs ++ [y], by simp [ez], by rw [upd_same, List.map_append]; rfl, same_mut sm hD⟩
      exact ite2 (fun _ => ⟨_, rfl, fin z⟩) (fun _ => ⟨_, rfl, _, _, rfl, rfl, fin _⟩)
    · rintro H2 ⟨zs, ez, hz, sm⟩
      rw [List.length_map] at ez
      have s2 : Same H H2 := s1.trans sm
      -- blend = 40960001 + 19 * base
      refine ⟨_, rfl, _, _, rfl, rfl, mulW (sm_of (by decide) (by decide)) (sm_of k0 (by omega)), _, _, rfl, rfl, ?_⟩
      -- for cell in cells
      refine ⟨_, rfl, D, rfl, ⟨_, sqL_of hz⟩, for_list (K := K) (a := D) (xs := zs.map V.int) (fun i σ H' => ∃ (v : Option V) (b : Int), σ = [some (.ref a), some (.int k), v, some (.ref D), some (.int b)] ∧ H' = H2 ∧ 0 ≤ b ∧ b < 2147483647) ⟨none, _, rfl, rfl, by omega, by omega⟩ ?_ ?_ ?_⟩
      · rintro i σ H' _ ⟨v, b, rfl, rfl, _⟩
        exact sqL_of hz
      · rintro i x σ H' hx ⟨v, b, rfl, rfl, b0, b1⟩
        rw [List.getElem?_map] at hx
        obtain ⟨z, hz', rfl⟩ := Option.map_eq_some_iff.mp hx
        refine ⟨_, rfl, _, _, rfl, rfl, mulW (sm_of b0 (by omega)) (sm_of (by decide) (by decide)), _, rfl, .inl ⟨_, rfl, ?_⟩⟩
        refine ⟨_, _, rfl, rfl, (show (0 : Int) < 2147483629 by decide), _, _, rfl, rfl, .inl ⟨_, rfl, ?_⟩⟩
        refine ⟨_, _, rfl, rfl, (show (0 : Int) < 2147483647 by decide), ?_⟩
        exact ⟨_, _, rfl, rfl, Int.emod_nonneg _ (by decide), Int.emod_lt_of_pos _ (by decide)⟩
      · rintro σ H' ⟨v, b, rfl, rfl, b0, b1⟩
        -- [cell for cell in cells if cell >= 10 ** 18][::-1]
        refine ⟨_, rfl, D, rfl, ⟨_, sqL_of hz⟩, fun D2 hD2 => ?_⟩
        refine lc_list (K := K) (a := D) (xs := zs.map V.int) (fun i H3 => ∃ ys : List Int, ys.length ≤ i ∧ H3 D2 = some (.lst (ys.map V.int)) ∧ Same H' H3) ⟨[], Nat.le_refl _, upd_same, same_new hD2⟩ (fun i H3 _ ⟨ys, _, _, sm'⟩ => sqL_of (sm' _ _ hz)) ?_ ?_
        · rintro i x H3 hx ⟨ys, ey, hy, sm'⟩
          rw [List.getElem?_map] at hx
          obtain ⟨z, hz', rfl⟩ := Option.map_eq_some_iff.mp hx
          have hi : i < zs.length := (List.getElem?_eq_some_iff.mp hz').1
          refine ⟨rfl, _, rfl, _, _, rfl, rfl, ⟨by decide, by decide, by decide⟩, _, _, rfl, rfl, _, rfl, ite2 (fun _ => ?_) (fun _ => ?_)⟩
          · refine ⟨_, rfl, _, hy, by rw [List.length_map]; exact szl (by omega), ys ++ [z], by simp; omega, by rw [upd_same, List.map_append]; rfl, same_mut sm' hD2⟩
          · exact ⟨ys, by omega, hy, sm'⟩
        · rintro H3 ⟨ys, ey, hy, sm'⟩
          rw [List.length_map] at ey
          refine ⟨D2, _, rfl, sqL_of hy, fun l hl => ?_⟩
          refine ⟨_, rfl, szr rfl, fun d hd => ?_⟩
          have s3 : Same H3 (upd H3 l (.lst (ys.map V.int).reverse)) := same_new hl
          have s4 := same_new (o := .lst [V.ref l, .int b]) hd
          have sA : Same H H3 := s2.trans sm'
          refine q d l _ ((sA.trans s3).trans s4) (sA.free (s3.free hd)) (sA.free hl) ⟨ys.reverse, b, upd_same, ?_, by rw [List.length_reverse]; omega, b0, b1⟩
          refine s4 _ _ ?_
          rw [upd_same, List.map_reverse]

/-- a base -/
def sp_base : Sp := fun vs H Q _ => ∃ (d l : Addr), vs = [V.ref d] ∧ Deal H d l ∧ ∀ b H', 2 ≤ b → b ≤ 10 ^ 30 → Drew d l H H' → Q (.int b) H'
theorem ok__law_base (T : Txt K mg F D C) : FnOk P w K mg base CX0 3 (F 11) (D 11) ["_law_deal_here"] (sp_base) := by
  refine T.f__law_base.ok sc__law_base (fun vs H Q E h => ?_) (fun cdv A outer s H vs Q E hr h => ?_)
  · obtain ⟨d, l, rfl, D0, q⟩ := h
    rfl
  · obtain ⟨d, l, rfl, D0, q⟩ := h
    refine ⟨_, (pss_cons (ps_set (i := 1) sc__law_base.nd rfl (.inl rfl) (pe_lst (pa_cons pe_int (pa_cons pe_int (pa_cons pe_int (pa_cons pe_int (pa_cons (pe_op op_add pe_int (pe_call (ok__law_draw T) (hr.mono (by decide)) (by rfl) T.g__law_draw T.f__law_draw.kp T.b__law_draw .nil pass0 (pa_cons (pv 0) (pa_cons pe_int pa_nil)))) (pa_cons (pe_op op_add pe_int (pe_call (ok__law_draw T) (hr.mono (by decide)) (by rfl) T.g__law_draw T.f__law_draw.kp T.b__law_draw .nil pass0 (pa_cons (pv 0) (pa_cons (pe_op op_pow pe_int pe_int) pa_nil)))) (pa_cons (pe_op op_sub (pe_op op_pow pe_int pe_int) (pe_call (ok__law_draw T) (hr.mono (by decide)) (by rfl) T.g__law_draw T.f__law_draw.kp T.b__law_draw .nil pass0 (pa_cons (pv 0) (pa_cons pe_int pa_nil)))) pa_nil))))))))) (pss_one (ps_ret (pe_call (ok__law_pick T) (hr.mono (by decide)) (by rfl) T.g__law_pick T.f__law_pick.kp T.b__law_pick .nil pass0 (pa_cons (pv 0) (pa_cons (pv 1) pa_nil)))))), ?_⟩
    refine ⟨_, rfl, d, l, _, rfl, D0, (by decide), sm_of (by decide) (by decide), fun r1 H1 a1 b1 w1 => ⟨_, _, rfl, rfl, ?_⟩⟩
    refine ⟨_, rfl, _, _, rfl, rfl, ⟨by decide, by decide, by decide⟩, d, l, _, rfl, w1.deal, (by decide), sm_of (by decide) (by decide), fun r2 H2 a2 b2 w2 => ⟨_, _, rfl, rfl, ?_⟩⟩
    replace b2 : r2 < 1000000 := b2
    refine ⟨_, _, rfl, rfl, ⟨by decide, by decide, by decide⟩, _, rfl, d, l, _, rfl, w2.deal, (by decide), sm_of (by decide) (by decide), fun r3 H3 a3 b3 w3 => ⟨_, _, rfl, rfl, ?_⟩⟩
    refine ⟨szr rfl, fun p hp => ?_⟩
    have w : Drew d l H H3 := (w1.trans w2).trans w3
    refine ⟨_, rfl, _, rfl, d, l, p, _, rfl, (w.new hp).deal, sqL_new, w.deal.fresh hp, Nat.le_of_ble_eq_true rfl, Nat.le_of_ble_eq_true rfl, fun v H4 hv w4 => ?_⟩
    have fin : ∀ b : Int, 2 ≤ b → b ≤ 10 ^ 30 → v = .int b → Q v H4 := fun b h1 h2 e => by
      subst e
      exact q b H4 h1 h2 ((w.new hp).trans w4)
    simp only [List.mem_cons, List.not_mem_nil, or_false] at hv
    rcases hv with e | e | e | e | e | e | e
    · exact fin 2 (by decide) (by decide) e
    · exact fin 3 (by decide) (by decide) e
    · exact fin 10 (by decide) (by decide) e
    · exact fin 16 (by decide) (by decide) e
    · exact fin _ (by omega) (by omega) e
    · exact fin _ (by omega) (by omega) e
    · have e30 : (10 : Int) ^ (30 : Int).toNat = 10 ^ 30 := rfl
      exact fin _ (by rw [e30]; omega) (by rw [e30]; omega) e
def sp_written (K : PySem.W.Frag) : Sp := fun vs H Q _ => ∃ (a : Addr) (xs : List Int) (b : Int), vs = [V.ref a, .int b] ∧ SqL K H a (xs.map V.int) ∧ Sm b ∧ (∀ i, i ≤ xs.length → Sm (ofs b (xs.take i))) ∧ Q (.int (ofs b xs)) H
theorem ok__law_written (T : Txt K mg F D C) : FnOk P w K mg base CX0 1 (F 12) (D 12) ["_law_figures_here", "_law_base_here"] (sp_written K) := by
  refine T.f__law_written.ok sc__law_written (fun vs H Q E h => ?_) (fun cdv A outer s H vs Q E hr h => ?_)
  · obtain ⟨a, xs, b, rfl, hs, sb, hx, q⟩ := h
    rfl
  · obtain ⟨a, xs, b, rfl, hs, sb, hx, q⟩ := h
    refine ⟨_, (pss_cons (ps_set (i := 2) sc__law_written.nd rfl (.inl rfl) pe_int) (pss_cons (ps_for PassesOwn.never rfl (pi_list (pv 0)) (pg_name (i := 3) sc__law_written.nd rfl (.inl rfl)) (pss_one (ps_set (i := 2) sc__law_written.nd rfl (.inl rfl) (pe_op op_add (pe_op op_mulW (pv 2) (pv 1)) (pv 3))))) (pss_one (ps_ret (pv 2))))), ?_⟩
    refine ⟨_, rfl, a, rfl, ⟨_, hs⟩, for_list (K := K) (a := a) (xs := xs.map V.int) (fun i σ H' => ∃ v, σ = [some (.ref a), some (.int b), some (.int (ofs b (xs.take i))), v] ∧ H' = H) ⟨none, rfl, rfl⟩ ?_ ?_ ?_⟩
    · rintro i σ H' _ ⟨v, rfl, rfl⟩
      exact hs
    · rintro i x σ H' hi ⟨v, rfl, rfl⟩
      rw [List.getElem?_map] at hi
      obtain ⟨z, hz, rfl⟩ := Option.map_eq_some_iff.mp hi
      have hl : i < xs.length := (List.getElem?_eq_some_iff.mp hz).1
      refine ⟨_, rfl, _, rfl, _, _, rfl, rfl, mulW (hx i (by omega)) sb, _, rfl, _, _, rfl, rfl, ?_⟩
      refine ⟨some (.int z), ?_, rfl⟩
      rw [ofs_take hz]
      rfl
    · rintro σ H' ⟨v, rfl, rfl⟩
      rw [List.length_map, List.take_length]
      exact ⟨_, rfl, q⟩
def sp_lfigures : Sp := fun vs H Q _ => ∃ n b : Int, vs = [V.int n, .int b] ∧ 0 ≤ n ∧ 2 ≤ b ∧ Sm n ∧ Sm b ∧ ∀ p H', Same H H' → H p = none → H' p = some (.lst ((digs b n).reverse.map V.int)) → Q (.ref p) H'
theorem ok__law_figures (T : Txt K mg F D C) : FnOk P w K mg base CX0 1 (F 13) (D 13) ["_law_number_here", "_law_base_here"] (sp_lfigures) := by
  refine T.f__law_figures.ok sc__law_figures (fun vs H Q E h => ?_) (fun cdv A outer s H vs Q E hr h => ?_)
  · obtain ⟨n, b, rfl, hn, hb, sn, sb, q⟩ := h
    rfl
  · obtain ⟨n, b, rfl, hn, hb, sn, sb, q⟩ := h
    refine ⟨_, (pss_cons (ps_set (i := 2) sc__law_figures.nd rfl (.inl rfl) (pe_lst (pa_cons (pe_op op_mod (pe_callTy call_int1 (by rfl) T.n_int Eb.bb_int (pa_cons (pv 0) pa_nil)) (pv 1)) pa_nil))) (pss_cons (ps_while PassesOwn.never (pt_cmpR op_ge (pv 0) (pv 1) (nomark _)) (pss_cons (ps_set (i := 0) sc__law_figures.nd rfl (.inl rfl) (pe_op op_fdivW (pv 0) (pv 1))) (pss_one (ps_expr (pe_bm PySem.F.plainAttrs_list PySem.F.slot_list_append PySem.F.type_list_append mt_append (pv 2) (pa_cons (pe_op op_mod (pe_callTy call_int1 (by rfl) T.n_int Eb.bb_int (pa_cons (pv 0) pa_nil)) (pv 1)) pa_nil)))))) (pss_one (ps_ret (pe_revL (pv 2)))))), ?_⟩
    refine ⟨_, rfl, .inl ⟨_, rfl, _, rfl, _, _, rfl, rfl, (show 0 < b by omega), szr rfl, fun p hp => ?_⟩⟩
    refine whl (fun m σ H' => ∃ (c : List Int) (l : Int), σ = [some (.int l), some (.int b), some (.ref p)] ∧ 0 ≤ l ∧ l ≤ n ∧ m = l.toNat ∧ c ++ rest b (l / b) = digs b n ∧ H' p = some (.lst (c.map V.int)) ∧ Same H H') n.toNat
      ⟨[n % b], n, rfl, hn, Int.le_refl _, rfl, (digs_rest hb hn).symm, upd_same, same_new hp⟩ ?_
    rintro m σ H' ⟨c, l, rfl, h0, h1, rfl, hc, hH, sm⟩
    have hlen : c.length ≤ 1900 := by
      have := congrArg List.length hc
      rw [List.length_append] at this
      have := digs_small hb hn sn
      omega
    refine ⟨_, rfl, _, rfl, _, _, rfl, rfl, _, rfl, ?_⟩
    by_cases hl : b ≤ l
    · rw [decide_eq_true hl]
      refine iteT (turn_of ?_)
      refine ⟨_, rfl, _, rfl, _, _, rfl, rfl, divW (by omega) sb, ?_⟩
      refine ⟨_, rfl, .inl ⟨rfl, _, sqL_of hH⟩, _, rfl, .inl ⟨_, rfl, _, rfl, _, _, rfl, rfl, (show 0 < b by omega), p, _, _, rfl, rfl, hH, ?_, ?_⟩⟩
      · rw [List.length_map]
        exact szl (by omega)
      · have z1 := div_lt hb hl
        have z2 := div_pos hb hl
        refine ⟨(l / b).toNat, by omega, c ++ [l / b % b], l / b, rfl, by omega, by omega, rfl, ?_, ?_, same_mut sm hp⟩
        · rw [← hc, rest_step hb (show 0 < l / b by omega), List.append_assoc]
          rfl
        · rw [upd_same, List.map_append]
          rfl
    · rw [decide_eq_false hl]
      refine iteF ?_
      rw [div_zero h0 (by omega), rest_zero (Int.le_refl _), List.append_nil] at hc
      refine ⟨_, rfl, p, _, rfl, sqL_of hH, fun r hr' => ?_⟩
      refine q r _ (sm.trans (same_new hr')) (sm.free hr') ?_
      rw [upd_same, hc, List.map_reverse]
/-- a number of few unlike figures -/
def sp_number : Sp := fun vs H Q _ => ∃ (d l : Addr) (b : Int), vs = [V.ref d, .int b] ∧ Deal H d l ∧ 2 ≤ b ∧ b ≤ 10 ^ 30 ∧ ∀ n H', 0 ≤ n → n < 10 ^ 60 → Drew d l H H' → Q (.int n) H'
theorem cut_to (zs : List Int) (k : Int) (h : 0 ≤ k) : cutV (zs.map V.int) none (some k) = (zs.take k.toNat).map V.int := by
  unfold cutV
  rw [HT.sIx_none, show HT.sIx (zs.map V.int).length (zs.map V.int).length (some k) = min k.toNat (zs.map V.int).length from by
    obtain ⟨n, rfl⟩ : ∃ n : Nat, k = n := ⟨k.toNat, by omega⟩
    exact HT.sIx_nat _ _ n]
  rw [List.drop_zero, Nat.sub_zero, List.map_take]
  exact (List.take_eq_take_min ..).symm
theorem cut_from (zs : List Int) (k : Int) (h : 0 ≤ k) : cutV (zs.map V.int) (some k) none = (zs.drop k.toNat).map V.int := by
  unfold cutV
  obtain ⟨n, rfl⟩ : ∃ n : Nat, k = n := ⟨k.toNat, by omega⟩
  rw [HT.sIx_none, show HT.sIx (zs.map V.int).length 0 (some (n : Int)) = min n (zs.map V.int).length from HT.sIx_nat _ _ n]
  rw [List.map_drop]
  show ((zs.map V.int).drop (min n (zs.map V.int).length)).take ((zs.map V.int).length - min n (zs.map V.int).length) = (zs.map V.int).drop n
  rw [List.take_of_length_le (by rw [List.length_drop]; omega)]
  by_cases c : n ≤ (zs.map V.int).length
  · rw [Nat.min_eq_left c]
  · rw [Nat.min_eq_right (by omega), List.drop_of_length_le (by omega), List.drop_of_length_le (by omega)]
theorem ok__law_number (T : Txt K mg F D C) : FnOk P w K mg base CX0 3 (F 14) (D 14) ["_law_deal_here", "_law_base_here"] (sp_number) := by
  refine T.f__law_number.ok sc__law_number (fun vs H Q E h => ?_) (fun cdv A outer s H vs Q E hr h => ?_)
  · obtain ⟨d, l, b, rfl, D0, hb, hb2, q⟩ := h
    rfl
  · obtain ⟨d, l, b, rfl, D0, hb, hb2, q⟩ := h
    refine ⟨_, (pss_cons (ps_par (i := 2) (j := 3) (by rfl) sc__law_number.nd rfl rfl (by decide) rfl rfl (pa_cons pe_int (pa_cons (pv 1) pa_nil)) (by rfl)) (pss_cons (ps_while PassesOwn.never (pt_cmpR op_lt (pe_op op_mulW (pv 3) (pv 1)) (pe_op op_pow pe_int pe_int) (nomark _)) (pss_one (ps_par (i := 2) (j := 3) (by rfl) sc__law_number.nd rfl rfl (by decide) rfl rfl (pa_cons (pe_op op_add (pv 2) pe_int) (pa_cons (pe_op op_mulW (pv 3) (pv 1)) pa_nil)) (by rfl)))) (pss_cons (ps_set (i := 4) sc__law_number.nd rfl (.inr rfl) (pe_lst (pa_cons pe_int (pa_cons pe_int (pa_cons (pe_op op_sub (pv 1) pe_int) (pa_cons (pe_call (ok__law_draw T) (hr.mono (by decide)) (by rfl) T.g__law_draw T.f__law_draw.kp T.b__law_draw .nil pass0 (pa_cons (pv 0) (pa_cons (pv 1) pa_nil))) (pa_cons (pe_call (ok__law_draw T) (hr.mono (by decide)) (by rfl) T.g__law_draw T.f__law_draw.kp T.b__law_draw .nil pass0 (pa_cons (pv 0) (pa_cons (pv 1) pa_nil))) pa_nil))))))) (pss_cons (ps_setLc (i := 5) (own := [("_law_k", 6)]) rfl sc__law_number.nd rfl rfl (sw_true rfl rfl rfl (by decide +kernel)) (pi_range1 (by rfl) T.n_range (pa_cons (pe_op op_add pe_int (pe_call (ok__law_draw T) (hr.mono (by decide)) (by rfl) T.g__law_draw T.f__law_draw.kp T.b__law_draw .nil pass0 (pa_cons (pv 0) (pa_cons (pe_call (ok__law_pick T) (hr.mono (by decide)) (by rfl) T.g__law_pick T.f__law_pick.kp T.b__law_pick .nil pass0 (pa_cons (pv 0) (pa_cons (pe_lst (pa_cons (pv 2) (pa_cons (pe_callB (call_min2 rfl) (by rfl) T.n_min Eb.bb_min (pa_cons (pv 2) (pa_cons pe_int pa_nil))) pa_nil))) pa_nil))) pa_nil)))) pa_nil)) (blkOk_by (N := ["_law_deal_here", "_law_base_here", "_law_span", "_law_room", "_law_some", "_law_found", "_law_k"]) (sc := defScope s__law_number) (by decide +kernel)) (fun _ _ _ _ _ => (pg_name (i := 6) sc__law_number.nd rfl (.inl rfl))) (fun _ _ _ _ _ => pts_nil) (fun _ _ _ _ _ => (pe_call (ok__law_pick T) (hr.mono (by decide)) (by rfl) T.g__law_pick T.f__law_pick.kp T.b__law_pick .nil pass0 (pa_cons (pv 0) (pa_cons (pv 4) pa_nil))))) (pss_cons (ps_if (pt_cmpR op_eq (pe_call (ok__law_draw T) (hr.mono (by decide)) (by rfl) T.g__law_draw T.f__law_draw.kp T.b__law_draw .nil pass0 (pa_cons (pv 0) (pa_cons pe_int pa_nil))) pe_int (nomark _)) (pss_cons (ps_set (i := 5) sc__law_number.nd rfl (.inl rfl) (pe_slice sl_list (pv 5) po_none (po_some (pe_callB (call_max2 rfl) (by rfl) T.n_max Eb.bb_max (pa_cons pe_int (pa_cons (pe_op op_fdivW (pe_callB call_len_seq (by rfl) T.n_len Eb.bb_len (pa_cons (pv 5) pa_nil)) pe_int) pa_nil)))))) (pss_one (ps_set (i := 5) sc__law_number.nd rfl (.inl rfl) (pe_op op_cat (pv 5) (pe_slice sl_list (pe_revL (pv 5)) (po_some (pe_call (ok__law_draw T) (hr.mono (by decide)) (by rfl) T.g__law_draw T.f__law_draw.kp T.b__law_draw .nil pass0 (pa_cons (pv 0) (pa_cons pe_int pa_nil)))) po_none))))) pss_nil) (pss_one (ps_ret (pe_call (ok__law_written T) (hr.mono (by decide)) (by rfl) T.g__law_written T.f__law_written.kp T.b__law_written .nil pass0 (pa_cons (pe_slice sl_list (pv 5) po_none (po_some (pv 2))) (pa_cons (pv 1) pa_nil)))))))))), ?_⟩
    have sb : Sm b := sm_of (by omega) (by omega)
    -- span, room = 1, base
    refine ⟨_, rfl, _, _, rfl, ?_⟩
    refine whl (fun m σ H' => ∃ (k : Nat), σ = [some (.ref d), some (.int b), some (.int (k : Int)), some (.int (b ^ k)), none, none, none] ∧ 1 ≤ k ∧ b ^ k < 10 ^ 60 ∧ m = (10 ^ 60 - b ^ k).toNat ∧ H = H') (10 ^ 60 - b).toNat
      ⟨1, by rw [Int.pow_one]; rfl, by omega, by rw [Int.pow_one]; omega, by rw [Int.pow_one], rfl⟩ ?_
    rintro m σ H' ⟨k, rfl, k1, hk, rfl, rfl⟩
    have hk0 : 0 < b ^ k := Int.pow_pos (by omega)
    have e60 : (10 : Int) ^ (60 : Int).toNat = 10 ^ 60 := rfl
    refine ⟨_, rfl, _, rfl, _, _, rfl, rfl, mulW (sm_of (by omega) (by omega)) sb, _, _, rfl, rfl, ⟨by decide, by decide, by decide⟩, _, _, rfl, rfl, _, rfl, ?_⟩
    rw [e60]
    by_cases hl : b ^ k * b < 10 ^ 60
    · rw [decide_eq_true hl]
      refine iteT (turn_of ?_)
      refine ⟨_, rfl, _, _, rfl, rfl, _, rfl, _, rfl, _, _, rfl, rfl, mulW (sm_of (by omega) (by omega)) sb, _, _, rfl, ?_⟩
      have e : b ^ (k + 1) = b ^ k * b := Int.pow_succ _ _
      have gr : b ^ k * 2 ≤ b ^ k * b := Int.mul_le_mul_of_nonneg_left hb (by omega)
      refine ⟨(10 ^ 60 - b ^ (k + 1)).toNat, by rw [e]; omega, k + 1, ?_, by omega, by rw [e]; exact hl, rfl, rfl⟩
      rw [e]
      rfl
    · rw [decide_eq_false hl]
      refine iteF ?_
      have k2 := span_le hb hk
      -- some = [0, 1, base - 1, draw, draw]
      refine ⟨_, rfl, _, _, rfl, rfl, ?_⟩
      refine ⟨_, rfl, _, rfl, d, l, b, rfl, D0, by omega, sb, fun r1 H1 a1 b1 w1 => ?_⟩
      refine ⟨_, rfl, _, rfl, d, l, b, rfl, w1.deal, by omega, sb, fun r2 H2 a2 b2 w2 => ?_⟩
      refine ⟨szr rfl, fun p hp => ?_⟩
      have w3 := (w1.trans w2).new (o := .lst [.int 0, .int 1, .int (b - 1), .int r1, .int r2]) hp
      have np : p ∉ [d, l] := w2.deal.fresh hp
      have hp3 : upd H2 p (.lst [.int 0, .int 1, .int (b - 1), .int r1, .int r2]) p = some (.lst [.int 0, .int 1, .int (b - 1), .int r1, .int r2]) := upd_same
      generalize hH3 : upd H2 p (.lst [.int 0, .int 1, .int (b - 1), .int r1, .int r2]) = H3 at w3 hp3 ⊢
      have some_in : ∀ v ∈ [V.int 0, .int 1, .int (b - 1), .int r1, .int r2], ∃ z : Int, v = .int z ∧ 0 ≤ z ∧ z < b := by
        intro v hv
        simp only [List.mem_cons, List.not_mem_nil, or_false] at hv
        rcases hv with e | e | e | e | e
        · exact ⟨_, e, by omega, by omega⟩
        · exact ⟨_, e, by omega, by omega⟩
        · exact ⟨_, e, by omega, by omega⟩
        · exact ⟨_, e, a1, b1⟩
        · exact ⟨_, e, a2, b2⟩
      -- range(1 + draw(deal, pick(deal, [span, min(span, 5)])))
      refine ⟨_, rfl, _, rfl, _, rfl, _, rfl, _, _, rfl, szr rfl, fun t ht => ?_⟩
      refine ⟨d, l, t, _, rfl, (w3.new ht).deal, sqL_new, w3.deal.fresh ht, Nat.le_of_ble_eq_true rfl, Nat.le_of_ble_eq_true rfl, fun v H4 hv w4 => ?_⟩
      obtain ⟨u, rfl, u0, u1⟩ : ∃ u : Int, v = .int u ∧ 0 < u ∧ u ≤ 200 := by
        simp only [List.mem_cons, List.not_mem_nil, or_false] at hv
        rcases hv with e | e
        · exact ⟨_, e, by omega, by omega⟩
        · refine ⟨_, e, ?_, ?_⟩ <;> split <;> omega
      refine ⟨d, l, u, rfl, w4.deal, u0, sm_of (by omega) (by omega), fun r3 H5 a3 b3 w5 => ⟨_, _, rfl, rfl, ?_⟩⟩
      have wt := (w3.new (o := .lst [.int (k : Int), .int (if (5 : Int) < (k : Int) then 5 else (k : Int))]) ht)
      have w6 := (wt.trans w4).trans w5
      have hp5 : H5 p = some (.lst [.int 0, .int 1, .int (b - 1), .int r1, .int r2]) := w5.get np (w4.get np (same_new ht _ _ hp3))
      refine ⟨1 + r3, rfl, by omega, by omega, fun D hD => ?_⟩
      have nD : D ∉ [d, l] := w5.deal.fresh hD
      have pD : p ≠ D := ne_of_none hp5 hD
      refine lc_range (lo := 0) (n := (1 + r3).toNat) (fun i H' => ∃ zs : List Int, zs.length = i ∧ InB b zs ∧ H' D = some (.lst (zs.map V.int)) ∧ Drew d l H H' ∧ H' p = some (.lst [.int 0, .int 1, .int (b - 1), .int r1, .int r2])) ?_ ?_ ?_
      · exact ⟨[], rfl, fun x hx => absurd hx (by simp), upd_same, w6.new hD, by rw [upd_ne pD]; exact hp5⟩
      · rintro i H' hi ⟨zs, ez, hz, hD', w7, hp7⟩
        refine ⟨rfl, ?_⟩
        refine ⟨_, rfl, _, rfl, d, l, p, _, rfl, w7.deal, sqL_of hp7, np, Nat.le_of_ble_eq_true rfl, Nat.le_of_ble_eq_true rfl, fun v H8 hv w8 => ?_⟩
        obtain ⟨z, rfl, z0, z1⟩ := some_in v hv
        refine ⟨_, w8.get nD hD', by rw [List.length_map]; exact szl (by omega), zs ++ [z], by simp [ez], hz.append fun x hx => by rw [List.mem_singleton.mp hx]; exact ⟨z0, z1⟩, by rw [upd_same, List.map_append]; rfl, ⟨(w7.trans w8).deal.upd nD, fun b' x nb hb' => ?_⟩, ?_⟩
        · have e1 := (w7.trans w8).grow b' x nb hb'
          have nbD : b' ≠ D := fun e => by
            subst e
            have := w6.free hD
            rw [this] at hb'
            cases hb'
          rw [upd_ne nbD]
          exact e1
        · rw [upd_ne pD]
          exact w8.get np hp7
      · rintro H6 ⟨zs, ez, hz, hD6, w7, hp7⟩
        -- if draw(deal, 3) == 0
        dsimp only [gName]
        refine by_st (fun σ H' => ∃ (ys : List Int) (y : Addr), σ = [some (.ref d), some (.int b), some (.int (k : Int)), some (.int (b ^ k)), some (.ref p), some (.ref y), none] ∧ InB b ys ∧ ys.length ≤ 1000 ∧ H' y = some (.lst (ys.map V.int)) ∧ Drew d l H H') (fun D' _ kk => ?_) ?_
        · refine ⟨_, rfl, d, l, _, rfl, w7.deal, (by decide), sm_of (by decide) (by decide), fun r4 H7 a4 b4 w8 => ⟨rfl, _, rfl, ite2 (fun _ => ?_) (fun _ => ?_)⟩⟩
          · have hD7 := w8.get nD hD6
            -- found = found[:max(1, len(found) // 2)]
            refine ⟨_, rfl, _, rfl, D, _, rfl, .inl (sqL_of hD7), _, _, rfl, rfl, divW (by decide) (sm_of (by decide) (by decide)), _, _, rfl, _, rfl, D, _, rfl, sqL_of hD7, fun f hf => ?_⟩
            rw [cut_to zs _ (by split <;> omega)]
            generalize (if (((zs.map V.int).length : Nat) : Int) / 2 > 1 then (((zs.map V.int).length : Nat) : Int) / 2 else 1).toNat = c
            have w9 := (w7.trans w8).new (o := .lst ((zs.take c).map V.int)) hf
            have nf : f ∉ [d, l] := w8.deal.fresh hf
            have hf9 : upd H7 f (.lst ((zs.take c).map V.int)) f = some (.lst ((zs.take c).map V.int)) := upd_same
            generalize upd H7 f (.lst ((zs.take c).map V.int)) = H9 at w9 hf9 ⊢
            -- found = found + found[::-1][draw(deal, 2):]
            refine ⟨_, rfl, _, rfl, f, _, rfl, sqL_of hf9, fun g hg => ?_⟩
            have w10 := w9.new (o := .lst ((zs.take c).map V.int).reverse) hg
            have ng : g ∉ [d, l] := w9.deal.fresh hg
            have hg10 : upd H9 g (.lst ((zs.take c).map V.int).reverse) g = some (.lst (((zs.take c).reverse).map V.int)) := by rw [upd_same, List.map_reverse]
            have hf10 := same_new (o := .lst ((zs.take c).map V.int).reverse) hg _ _ hf9
            generalize upd H9 g (.lst ((zs.take c).map V.int).reverse) = H10 at w10 hg10 hf10 ⊢
            refine ⟨_, rfl, d, l, _, rfl, w10.deal, (by decide), sm_of (by decide) (by decide), fun r5 H11 a5 b5 w11 => ⟨r5, rfl, ?_⟩⟩
            refine ⟨g, _, rfl, sqL_of (w11.get ng hg10), fun e he => ?_⟩
            rw [cut_from _ _ a5]
            have hf12 := same_new (o := .lst (((zs.take c).reverse.drop r5.toNat).map V.int)) he _ _ (w11.get nf hf10)
            have w12 := (w10.trans w11).new (o := .lst (((zs.take c).reverse.drop r5.toNat).map V.int)) he
            have lz : (zs.take c).length ≤ 201 := by
              rw [List.length_take]
              omega
            refine ⟨f, e, _, _, rfl, rfl, hf12, upd_same, ?_, fun y hy => ?_⟩
            · rw [List.length_map, List.length_map, List.length_drop, List.length_reverse]
              exact sz (by omega)
            · refine kk _ _ ⟨zs.take c ++ (zs.take c).reverse.drop r5.toNat, y, rfl, (hz.take c).append ((hz.take c).reverse.drop _), ?_, ?_, w12.new hy⟩
              · rw [List.length_append, List.length_drop, List.length_reverse]
                omega
              · rw [upd_same, List.map_append]
          · exact kk _ _ ⟨zs, D, rfl, hz, by omega, w8.get nD hD6, w7.trans w8⟩
        · rintro σ H' ⟨ys, y, rfl, hy, ly, hH, w8⟩
          refine ⟨_, rfl, _, rfl, _, rfl, y, _, rfl, sqL_of hH, fun f hf => ?_⟩
          rw [cut_to ys _ (by omega)]
          have e : (ys.take (k : Int).toNat).length ≤ k := by
            rw [List.length_take]
            omega
          have m := pow_mono hb e
          have rg := ofs_range hb _ (hy.take (k : Int).toNat)
          refine ⟨_, rfl, f, _, b, rfl, sqL_new, sb, ofs_sm hb (hy.take _) (by omega), ?_⟩
          exact q _ _ rg.1 (by omega) (w8.new hf)

theorem sum_rev (b n : Int) : (digs b n).reverse.sum = dsum b n := by
  rw [List.sum_reverse]
  rfl
def sp_rooted : Sp := fun vs H Q _ => ∃ n b : Int, vs = [V.int n, .int b] ∧ 0 ≤ n ∧ 2 ≤ b ∧ Sm n ∧ Sm b ∧ ∀ H', Same H H' → Q (.int (rooted b n)) H'
theorem ok__law_rooted (T : Txt K mg F D C) : FnOk P w K mg base CX0 2 (F 15) (D 15) ["_law_number_here", "_law_base_here"] (sp_rooted) := by
  refine T.f__law_rooted.ok sc__law_rooted (fun vs H Q E h => ?_) (fun cdv A outer s H vs Q E hr h => ?_)
  · obtain ⟨n, b, rfl, hn, hb, sn, sb, q⟩ := h
    rfl
  · obtain ⟨n, b, rfl, hn, hb, sn, sb, q⟩ := h
    refine ⟨_, (pss_cons (ps_while PassesOwn.never (pt_cmpR op_ge (pv 0) (pv 1) (nomark _)) (pss_one (ps_set (i := 0) sc__law_rooted.nd rfl (.inl rfl) (pe_callB (cr_sum rfl) (by rfl) T.n_sum Eb.bb_sum (pa_cons (pe_call (ok__law_figures T) (hr.mono (by decide)) (by rfl) T.g__law_figures T.f__law_figures.kp T.b__law_figures .nil pass0 (pa_cons (pv 0) (pa_cons (pv 1) pa_nil))) pa_nil))))) (pss_one (ps_ret (pv 0)))), ?_⟩
    refine whl (fun m σ H' => ∃ f : Int, σ = [some (.int f), some (.int b)] ∧ 0 ≤ f ∧ f ≤ n ∧ m = f.toNat ∧ rooted b f = rooted b n ∧ Same H H') n.toNat
      ⟨n, rfl, hn, Int.le_refl _, rfl, rfl, Same.refl _⟩ ?_
    rintro m σ H' ⟨f, rfl, h0, h1, rfl, hc, sm⟩
    refine ⟨_, rfl, _, rfl, _, _, rfl, rfl, _, rfl, ?_⟩
    by_cases hl : b ≤ f
    · rw [decide_eq_true hl]
      refine iteT (turn_of ?_)
      refine ⟨_, rfl, _, rfl, f, b, rfl, h0, hb, sn.le h0 h1, sb, fun p H2 s2 hp e => ?_⟩
      refine ⟨p, _, rfl, sqL_of e, ?_⟩
      have z := dsum_lt hb hl
      have z2 := dsum_nn hb f h0
      refine ⟨(dsum b f).toNat, by omega, dsum b f, ?_, z2, by omega, rfl, (rooted_dsum hb).trans hc, sm.trans s2⟩
      rw [sum_rev]
      rfl
    · rw [decide_eq_false hl]
      refine iteF ?_
      refine ⟨_, rfl, ?_⟩
      rw [rooted_lt (by omega)] at hc
      rw [hc]
      exact q _ sm
theorem ne_same {H : Hp} {x : V} {Q : VK} (hs : scal x x = true) (q : Q (.bl false) H) : rNe x x H Q := ⟨hs, by rw [decide_eq_true rfl]; exact q⟩
theorem neT_same {K : PySem.W.Frag} {H : Hp} {a b : Addr} {xs : List Int} {Q : VK} (ha : SqT K H a (xs.map V.int)) (hb : SqT K H b (xs.map V.int)) (q : Q (.bl false) H) : rEqT K true (.ref a) (.ref b) H Q :=
  ⟨a, b, xs, xs, rfl, rfl, ha, hb, by rw [decide_eq_true rfl]; exact q⟩
def sp_law (K : PySem.W.Frag) : Sp := fun vs H Q _ => ∃ (a : Addr) (ns : List Int), vs = [V.ref a] ∧ SqL K H a (ns.map V.int) ∧ ns.length ≤ 63 ∧ ∀ H', Q (.bl true) H'
theorem ok_law (T : Txt K mg F D C) : FnOk P w K mg base CX0 8 (F 16) (D 16) ["_law_script"] (sp_law K) := by
  refine T.f_law.ok sc_law (fun vs H Q E h => ?_) (fun cdv A outer s H vs Q E hr h => ?_)
  · obtain ⟨a, ns, rfl, hs, hn, q⟩ := h
    rfl
  · obtain ⟨a, ns, rfl, hs, hn, q⟩ := h
    refine ⟨_, (pss_cons (ps_set (i := 1) sc_law.nd rfl (.inl rfl) (pe_call (ok__law_deal T) (hr.mono (by decide)) (by rfl) T.g__law_deal T.f__law_deal.kp T.b__law_deal .nil pass0 (pa_cons (pv 0) (pa_cons pe_int pa_nil)))) (pss_cons (ps_for PassesOwn.never rfl (pi_range1 (by rfl) T.n_range (pa_cons pe_int pa_nil)) (pg_name (i := 2) sc_law.nd rfl (.inl rfl)) (pss_cons (ps_set (i := 3) sc_law.nd rfl (.inl rfl) (pe_call (ok__law_base T) (hr.mono (by decide)) (by rfl) T.g__law_base T.f__law_base.kp T.b__law_base .nil pass0 (pa_cons (pv 1) pa_nil))) (pss_cons (ps_set (i := 4) sc_law.nd rfl (.inl rfl) (pe_call (ok__law_number T) (hr.mono (by decide)) (by rfl) T.g__law_number T.f__law_number.kp T.b__law_number .nil pass0 (pa_cons (pv 1) (pa_cons (pv 3) pa_nil)))) (pss_cons (ps_set (i := 5) sc_law.nd rfl (.inl rfl) (pe_call (ok__law_draw T) (hr.mono (by decide)) (by rfl) T.g__law_draw T.f__law_draw.kp T.b__law_draw .nil pass0 (pa_cons (pv 1) (pa_cons pe_int pa_nil)))) (pss_cons (ps_if (pt_cmpR op_eq (pv 5) pe_int (nomark _)) (pss_one (ps_set (i := 4) sc_law.nd rfl (.inl rfl) (pe_op op_mulW (pe_op op_fdivW (pv 4) (pe_op op_sub (pv 3) pe_int)) (pe_op op_sub (pv 3) pe_int)))) pss_nil) (pss_cons (ps_if (PW.pt (pw_and (pt_cmpR op_eq (pv 5) pe_int (nomark _)) (pw_and1 (pt_cmpR op_lt (pv 3) (pe_op op_pow pe_int pe_int) (nomark _))))) (pss_one (ps_set (i := 4) sc_law.nd rfl (.inl rfl) (pe_call (ok__law_written T) (hr.mono (by decide)) (by rfl) T.g__law_written T.f__law_written.kp T.b__law_written .nil pass0 (pa_cons (pe_op op_rep (pe_lst (pa_cons (pe_op op_sub (pv 3) pe_int) pa_nil)) (pe_op op_add pe_int (pe_call (ok__law_draw T) (hr.mono (by decide)) (by rfl) T.g__law_draw T.f__law_draw.kp T.b__law_draw .nil pass0 (pa_cons (pv 1) (pa_cons pe_int pa_nil))))) (pa_cons (pv 3) pa_nil))))) pss_nil) (pss_cons (ps_if (pt_cmpR op_ne (pe_callB SkE.call_repr_int (by rfl) T.n_repr Eb.bb_repr (pa_cons (pe_call (ok_total T) (hr.mono (by decide)) (by rfl) T.g_total T.f_total.kp T.b_total .nil pass0 (pa_cons (pv 4) (pa_cons (pv 3) pa_nil))) pa_nil)) (pe_callB SkE.call_repr_int (by rfl) T.n_repr Eb.bb_repr (pa_cons (pe_callB (cr_sum rfl) (by rfl) T.n_sum Eb.bb_sum (pa_cons (pe_call (ok__law_figures T) (hr.mono (by decide)) (by rfl) T.g__law_figures T.f__law_figures.kp T.b__law_figures .nil pass0 (pa_cons (pv 4) (pa_cons (pv 3) pa_nil))) pa_nil)) pa_nil)) (nomark _)) (pss_one (ps_ret pe_bl)) pss_nil) (pss_cons (ps_if (pt_cmpR op_ne (pe_callB SkE.call_repr_int (by rfl) T.n_repr Eb.bb_repr (pa_cons (pe_call (ok_root T) (hr.mono (by decide)) (by rfl) T.g_root T.f_root.kp T.b_root .nil pass0 (pa_cons (pv 4) (pa_cons (pv 3) pa_nil))) pa_nil)) (pe_callB SkE.call_repr_int (by rfl) T.n_repr Eb.bb_repr (pa_cons (pe_call (ok__law_rooted T) (hr.mono (by decide)) (by rfl) T.g__law_rooted T.f__law_rooted.kp T.b__law_rooted .nil pass0 (pa_cons (pv 4) (pa_cons (pv 3) pa_nil))) pa_nil)) (nomark _)) (pss_one (ps_ret pe_bl)) pss_nil) (pss_cons (ps_set (i := 6) sc_law.nd rfl (.inl rfl) (pe_call (ok__law_base T) (hr.mono (by decide)) (by rfl) T.g__law_base T.f__law_base.kp T.b__law_base .nil pass0 (pa_cons (pv 1) pa_nil))) (pss_cons (ps_set (i := 7) sc_law.nd rfl (.inl rfl) (pe_tup (pa_cons (pe_call (ok_total T) (hr.mono (by decide)) (by rfl) T.g_total T.f_total.kp T.b_total .nil pass0 (pa_cons (pv 4) (pa_cons (pv 6) pa_nil))) (pa_cons (pe_call (ok_root T) (hr.mono (by decide)) (by rfl) T.g_root T.f_root.kp T.b_root .nil pass0 (pa_cons (pv 4) (pa_cons (pv 6) pa_nil))) pa_nil)))) (pss_cons (ps_if (pt_cmpR (op_neT hr.units) (pv 7) (pe_tup (pa_cons (pe_callB (cr_sum rfl) (by rfl) T.n_sum Eb.bb_sum (pa_cons (pe_call (ok__law_figures T) (hr.mono (by decide)) (by rfl) T.g__law_figures T.f__law_figures.kp T.b__law_figures .nil pass0 (pa_cons (pv 4) (pa_cons (pv 6) pa_nil))) pa_nil)) (pa_cons (pe_call (ok__law_rooted T) (hr.mono (by decide)) (by rfl) T.g__law_rooted T.f__law_rooted.kp T.b__law_rooted .nil pass0 (pa_cons (pv 4) (pa_cons (pv 6) pa_nil))) pa_nil))) (nomark _)) (pss_one (ps_ret pe_bl)) pss_nil) (pss_one (ps_if (pt_cmpR op_ne (pe_call (ok_total T) (hr.mono (by decide)) (by rfl) T.g_total T.f_total.kp T.b_total .nil pass0 (pa_cons (pv 4) (pa_cons (pv 3) pa_nil))) (pe_callB (cr_sum rfl) (by rfl) T.n_sum Eb.bb_sum (pa_cons (pe_call (ok__law_figures T) (hr.mono (by decide)) (by rfl) T.g__law_figures T.f__law_figures.kp T.b__law_figures .nil pass0 (pa_cons (pv 4) (pa_cons (pv 3) pa_nil))) pa_nil)) (nomark _)) (pss_one (ps_ret pe_bl)) pss_nil))))))))))))) (pss_one (ps_ret (pe_and (pe_cmpR op_eq (pe_call (ok_total T) (hr.mono (by decide)) (by rfl) T.g_total T.f_total.kp T.b_total .nil pass0 (pa_cons pe_int (pa_cons pe_int pa_nil))) pe_int (nomark _)) (pe_and (pe_cmpR op_eq (pe_call (ok_root T) (hr.mono (by decide)) (by rfl) T.g_root T.f_root.kp T.b_root .nil pass0 (pa_cons pe_int (pa_cons pe_int pa_nil))) pe_int (nomark _)) (pe_one (pe_cmpR op_eq (pe_call (ok_root T) (hr.mono (by decide)) (by rfl) T.g_root T.f_root.kp T.b_root .nil pass0 (pa_cons pe_int (pa_cons pe_int pa_nil))) pe_int (nomark _))))))))), ?_⟩
    refine ⟨_, rfl, a, ns, 0, rfl, hs, hn, (by decide), (by decide), fun d l H0 s0 nd nl D0 => ?_⟩
    refine ⟨12, rfl, (by decide), (by decide), for_range (lo := 0) (n := (12 : Int).toNat) (fun i σ H' => ∃ v2 v3 v4 v5 v6 v7 : Option V, σ = [some (.ref a), some (.ref d), v2, v3, v4, v5, v6, v7] ∧ Deal H' d l) ⟨none, none, none, none, none, none, rfl, D0⟩ ?_ ?_⟩
    · rintro i σ H1 _ ⟨v2, v3, v4, v5, v6, v7, rfl, D1⟩
      -- base, number, form
      refine ⟨_, rfl, d, l, rfl, D1, fun b H2 hb hb2 w2 => ?_⟩
      have sb : Sm b := sm_of (by omega) (by omega)
      refine ⟨_, rfl, _, rfl, d, l, b, rfl, w2.deal, hb, hb2, fun n H3 n0 n1 w3 => ?_⟩
      refine ⟨_, rfl, d, l, _, rfl, w3.deal, (by decide), sm_of (by decide) (by decide), fun r H4 r0 r1 w4 => ?_⟩
      -- if form == 0
      dsimp only [gName]
      refine by_st (fun σ H' => ∃ m : Int, σ = [some (.ref a), some (.ref d), some (.int (0 + (i : Int))), some (.int b), some (.int m), some (.int r), v6, v7] ∧ 0 ≤ m ∧ m < 10 ^ 60 ∧ Deal H' d l) (fun D' _ kk => ?_) ?_
      · refine ⟨_, rfl, rfl, _, rfl, ite2 (fun _ => ?_) (fun _ => kk _ _ ⟨n, rfl, n0, n1, w4.deal⟩)⟩
        refine ⟨_, rfl, _, rfl, _, _, rfl, rfl, _, _, rfl, rfl, divW (by omega) (sm_of (by omega) (by omega)), _, rfl, _, _, rfl, rfl, ?_⟩
        have z0 : 0 ≤ n / (b - 1) := Int.ediv_nonneg n0 (by omega)
        have z1 : n / (b - 1) ≤ n := Int.ediv_le_self _ n0
        have z2 : n / (b - 1) * (b - 1) ≤ n := Int.ediv_mul_le _ (by omega)
        have z3 : 0 ≤ n / (b - 1) * (b - 1) := Int.mul_nonneg z0 (by omega)
        refine ⟨_, _, rfl, rfl, mulW (sm_of z0 (by omega)) (sm_of (by omega) (by omega)), ?_⟩
        exact kk _ _ ⟨_, rfl, z3, by omega, w4.deal⟩
      rintro σ H5 ⟨m, rfl, m0, m1, D5⟩
      -- if form == 1 and base < 10 ** 15
      refine by_st (fun σ H' => ∃ m : Int, σ = [some (.ref a), some (.ref d), some (.int (0 + (i : Int))), some (.int b), some (.int m), some (.int r), v6, v7] ∧ 0 ≤ m ∧ m < 10 ^ 60 ∧ Deal H' d l) (fun D' _ kk => ?_) ?_
      · refine ⟨_, rfl, rfl, _, rfl, ite2 (fun _ => ?_) (fun _ => ?_)⟩
        · refine ⟨_, rfl, _, _, rfl, rfl, ⟨by decide, by decide, by decide⟩, _, _, rfl, rfl, _, rfl, ite2 (fun c => ?_) (fun _ => kk _ _ ⟨m, rfl, m0, m1, D5⟩)⟩
          have c' : b < 10 ^ 15 := of_decide_eq_true c
          refine ⟨_, rfl, _, _, rfl, rfl, szr rfl, fun t ht => ?_⟩
          have nt : t ∉ [d, l] := D5.fresh ht
          have D6 : Deal (upd H5 t (.lst [V.int (b - 1)])) d l := D5.upd nt
          refine ⟨_, rfl, d, l, _, rfl, D6, (by decide), sm_of (by decide) (by decide), fun r2 H6 a2 b2 w6 => ⟨_, _, rfl, rfl, ?_⟩⟩
          refine ⟨t, _, _, rfl, rfl, w6.get nt upd_same, by omega, by omega, ?_, fun u hu => ?_⟩
          · refine sz ?_
            show 1 * (1 + r2).toNat ≤ 100000
            omega
          have eu : (List.replicate (1 + r2).toNat [V.int (b - 1)]).flatten = (List.replicate (1 + r2).toNat (b - 1)).map V.int := by
            rw [List.map_replicate]
            induction (1 + r2).toNat with
            | zero => rfl
            | succ k ih =>
              rw [List.replicate_succ, List.replicate_succ, List.flatten_cons, ih]
              rfl
          have ib : InB b (List.replicate (1 + r2).toNat (b - 1)) := fun x hx => by
            rw [List.eq_of_mem_replicate hx]
            omega
          have e4 : (List.replicate (1 + r2).toNat (b - 1)).length ≤ 4 := by
            rw [List.length_replicate]
            omega
          have p4 := pow_mono hb e4
          have p5 : b ^ 4 < 10 ^ 60 := by
            have q1 : b * b ≤ 10 ^ 15 * 10 ^ 15 := Int.mul_le_mul (by omega) (by omega) (by omega) (by decide)
            have q2 : (b * b) * (b * b) < (10 ^ 15 * 10 ^ 15) * (10 ^ 15 * 10 ^ 15) := by
              have q3 : (b * b) * (b * b) ≤ (10 ^ 15 * 10 ^ 15) * (b * b) := Int.mul_le_mul_of_nonneg_right q1 (Int.mul_nonneg (by omega) (by omega))
              have q4 : b * b < 10 ^ 15 * 10 ^ 15 := by
                have q5 : b * b ≤ 10 ^ 15 * b := Int.mul_le_mul_of_nonneg_right (by omega) (by omega)
                have q6 : (10 ^ 15 : Int) * b < 10 ^ 15 * 10 ^ 15 := Int.mul_lt_mul_of_pos_left c' (by decide)
                omega
              have q7 : (10 ^ 15 * 10 ^ 15 : Int) * (b * b) < (10 ^ 15 * 10 ^ 15) * (10 ^ 15 * 10 ^ 15) := Int.mul_lt_mul_of_pos_left q4 (by decide)
              omega
            have q8 : b ^ 4 = (b * b) * (b * b) := by
              rw [show (4 : Nat) = 2 + 2 from rfl, Int.pow_add, Int.pow_succ, Int.pow_succ, Int.pow_zero, Int.one_mul]
            rw [q8]
            exact q2
          have rg := ofs_range hb _ ib
          refine ⟨_, rfl, u, _, b, rfl, ?_, sb, ofs_sm hb ib (by omega), ?_⟩
          · rw [← eu]
            exact sqL_new
          · exact kk _ _ ⟨_, rfl, rg.1, by omega, (w6.new hu).deal⟩
        · exact kk _ _ ⟨m, rfl, m0, m1, D5⟩
      clear n0 n1
      rintro σ H6 ⟨x, rfl, x0, x1, D6⟩
      have sx : Sm x := sm_of x0 (by omega)
      have sd : Sm (dsum b x) := sx.le (dsum_nn hb x x0) (dsum_le hb x x0)
      have sr : Sm (rooted b x) := sx.le (rooted_le hb x x0).2 (rooted_le hb x x0).1
      -- repr(total) != repr(sum(figures))
      refine ⟨_, rfl, _, rfl, x, b, rfl, x0, hb, sx, sb, fun H7 s7 => ⟨_, rfl, Nat.lt_trans sd.log (by decide), ?_⟩⟩
      refine ⟨_, rfl, _, rfl, x, b, rfl, x0, hb, sx, sb, fun p H8 s8 hp e => ⟨p, _, rfl, sqL_of e, ?_⟩⟩
      rw [sum_rev]
      refine ⟨_, rfl, Nat.lt_trans sd.log (by decide), ne_same rfl ⟨_, rfl, iteF ?_⟩⟩
      -- repr(root) != repr(rooted)
      refine ⟨_, rfl, _, rfl, x, b, rfl, x0, hb, sx, sb, fun H9 s9 => ⟨_, rfl, Nat.lt_trans sr.log (by decide), ?_⟩⟩
      refine ⟨_, rfl, _, rfl, x, b, rfl, x0, hb, sx, sb, fun H10 s10 => ⟨_, rfl, Nat.lt_trans sr.log (by decide), ne_same rfl ⟨_, rfl, iteF ?_⟩⟩⟩
      have D10 : Deal H10 d l := (((D6.same s7).same s8).same s9).same s10
      -- other = base(deal)
      refine ⟨_, rfl, d, l, rfl, D10, fun o H11 ho ho2 w11 => ?_⟩
      have so : Sm o := sm_of (by omega) (by omega)
      -- pair = (total, root)
      refine ⟨_, rfl, _, rfl, x, o, rfl, x0, ho, sx, so, fun H12 s12 => ?_⟩
      refine ⟨_, rfl, _, rfl, x, o, rfl, x0, ho, sx, so, fun H13 s13 => ?_⟩
      refine ⟨szr rfl, fun t ht => ?_⟩
      have s14 := same_new (o := .tup [.int (dsum o x), .int (rooted o x)]) ht
      have e14 : upd H13 t (.tup [.int (dsum o x), .int (rooted o x)]) t = some (.tup [.int (dsum o x), .int (rooted o x)]) := upd_same
      generalize upd H13 t (.tup [.int (dsum o x), .int (rooted o x)]) = H14 at s14 e14 ⊢
      -- pair != (sum(figures), rooted)
      refine ⟨_, rfl, _, rfl, _, rfl, x, o, rfl, x0, ho, sx, so, fun p2 H15 s15 hp2 e2 => ⟨p2, _, rfl, sqL_of e2, ?_⟩⟩
      rw [sum_rev]
      refine ⟨_, rfl, _, rfl, x, o, rfl, x0, ho, sx, so, fun H16 s16 => ?_⟩
      refine ⟨szr rfl, fun t2 ht2 => ?_⟩
      have s17 := same_new (o := .tup [.int (dsum o x), .int (rooted o x)]) ht2
      refine neT_same (xs := [dsum o x, rooted o x]) (sqT_of (s17 _ _ (s16 _ _ (s15 _ _ e14)))) (sqT_of upd_same) ⟨_, rfl, iteF ?_⟩
      have D17 := ((((((w11.deal.same s12).same s13).same s14).same s15).same s16).same s17)
      generalize upd H16 t2 (.tup [.int (dsum o x), .int (rooted o x)]) = H17 at s17 D17 ⊢
      -- total != sum(figures)
      refine ⟨_, rfl, _, rfl, x, b, rfl, x0, hb, sx, sb, fun H18 s18 => ?_⟩
      refine ⟨_, rfl, _, rfl, x, b, rfl, x0, hb, sx, sb, fun p3 H19 s19 hp3 e3 => ⟨p3, _, rfl, sqL_of e3, ?_⟩⟩
      rw [sum_rev]
      refine ne_same rfl ⟨_, rfl, iteF ?_⟩
      exact ⟨_, _, _, _, _, _, rfl, (D17.same s18).same s19⟩
    · rintro σ H1 ⟨v2, v3, v4, v5, v6, v7, rfl, D1⟩
      have e0 : dsum 2 0 = 0 := dsum_small (by decide)
      have e1 : rooted 2 0 = 0 := rooted_lt (by decide)
      have e2 : rooted 2 7 = 1 := by
        rw [rooted_ge (by decide) (by decide), show dsum 2 7 = 3 by unfold dsum; rw [digs_ge (by decide) (by decide), digs_ge (by decide) (by decide), digs_lt (by decide)]; rfl,
          rooted_ge (by decide) (by decide), show dsum 2 3 = 2 by unfold dsum; rw [digs_ge (by decide) (by decide), digs_lt (by decide)]; rfl,
          rooted_ge (by decide) (by decide), show dsum 2 2 = 1 by unfold dsum; rw [digs_ge (by decide) (by decide), digs_lt (by decide)]; rfl, rooted_lt (by decide)]
      have s2 : Sm 2 := sm_of (by decide) (by decide)
      have s00 : Sm 0 := sm_of (by decide) (by decide)
      refine ⟨0, 2, rfl, by decide, by decide, s00, s2, fun H2 _ => ?_⟩
      rw [e0]
      refine ⟨rfl, true, rfl, ?_⟩
      refine ⟨0, 2, rfl, by decide, by decide, s00, s2, fun H3 _ => ?_⟩
      rw [e1]
      refine ⟨rfl, true, rfl, ?_⟩
      refine ⟨7, 2, rfl, by decide, by decide, sm_of (by decide) (by decide), s2, fun H4 _ => ?_⟩
      rw [e2]
      exact ⟨rfl, q _⟩

end
theorem all_mk {l : PySem.W.OpenLaw} {w : World} {K : PySem.W.Frag} {h : Heap} {mg : Str → Option Value} {fa : Addr} (X : K.In h) (G : h.Ns mainGlobals mg) (hfa : mg "law" = some (.ref fa))
    {f0 : Addr} {od0 an0 : Option Addr} {sl0 : Array (Option Value)} {oc0 kV0 dc0 pm0 cd0 ct0 : Value}
    {f1 : Addr} {od1 an1 : Option Addr} {sl1 : Array (Option Value)} {oc1 kV1 dc1 pm1 cd1 ct1 : Value}
    {f2 : Addr} {od2 an2 : Option Addr} {sl2 : Array (Option Value)} {oc2 kV2 dc2 pm2 cd2 ct2 : Value}
    {f3 : Addr} {od3 an3 : Option Addr} {sl3 : Array (Option Value)} {oc3 kV3 dc3 pm3 cd3 ct3 : Value}
    {f4 : Addr} {od4 an4 : Option Addr} {sl4 : Array (Option Value)} {oc4 kV4 dc4 pm4 cd4 ct4 : Value}
    {f5 : Addr} {od5 an5 : Option Addr} {sl5 : Array (Option Value)} {oc5 kV5 dc5 pm5 cd5 ct5 : Value}
    {f6 : Addr} {od6 an6 : Option Addr} {sl6 : Array (Option Value)} {oc6 kV6 dc6 pm6 cd6 ct6 : Value}
    {f7 : Addr} {od7 an7 : Option Addr} {sl7 : Array (Option Value)} {oc7 kV7 dc7 pm7 cd7 ct7 : Value}
    {f8 : Addr} {od8 an8 : Option Addr} {sl8 : Array (Option Value)} {oc8 kV8 dc8 pm8 cd8 ct8 : Value}
    {f9 : Addr} {od9 an9 : Option Addr} {sl9 : Array (Option Value)} {oc9 kV9 dc9 pm9 cd9 ct9 : Value}
    {f10 : Addr} {od10 an10 : Option Addr} {sl10 : Array (Option Value)} {oc10 kV10 dc10 pm10 cd10 ct10 : Value}
    {f11 : Addr} {od11 an11 : Option Addr} {sl11 : Array (Option Value)} {oc11 kV11 dc11 pm11 cd11 ct11 : Value}
    {f12 : Addr} {od12 an12 : Option Addr} {sl12 : Array (Option Value)} {oc12 kV12 dc12 pm12 cd12 ct12 : Value}
    {f13 : Addr} {od13 an13 : Option Addr} {sl13 : Array (Option Value)} {oc13 kV13 dc13 pm13 cd13 ct13 : Value}
    {f14 : Addr} {od14 an14 : Option Addr} {sl14 : Array (Option Value)} {oc14 kV14 dc14 pm14 cd14 ct14 : Value}
    {f15 : Addr} {od15 an15 : Option Addr} {sl15 : Array (Option Value)} {oc15 kV15 dc15 pm15 cd15 ct15 : Value}
    {f16 : Addr} {od16 an16 : Option Addr} {sl16 : Array (Option Value)} {oc16 kV16 dc16 pm16 cd16 ct16 : Value}
    {tk0 : Tok}
    (a0 : PySem.W.nsIn K mainGlobals "is_integer" = some (some (.ref f0)))
    (l0 : K.lookup f0 = some ⟨oc0, od0, .func (PySem.W.fnOf "is_integer" "is_integer" (defArgs s_is_integer) (defBody s_is_integer) (defScope s_is_integer) .none kV0 dc0 pm0 an0 cd0 ct0), sl0⟩)
    (c0 : PySem.W.codeIn K cd0 "is_integer" = true)
    (k0 : PySem.W.keepIn K (.ref f0) = true)
    (a1 : PySem.W.nsIn K mainGlobals "is_number" = some (some (.ref f1)))
    (l1 : K.lookup f1 = some ⟨oc1, od1, .func (PySem.W.fnOf "is_number" "is_number" (defArgs s_is_number) (defBody s_is_number) (defScope s_is_number) .none kV1 dc1 pm1 an1 cd1 ct1), sl1⟩)
    (c1 : PySem.W.codeIn K cd1 "is_number" = true)
    (k1 : PySem.W.keepIn K (.ref f1) = true)
    (a2 : PySem.W.nsIn K mainGlobals "is_base" = some (some (.ref f2)))
    (l2 : K.lookup f2 = some ⟨oc2, od2, .func (PySem.W.fnOf "is_base" "is_base" (defArgs s_is_base) (defBody s_is_base) (defScope s_is_base) .none kV2 dc2 pm2 an2 cd2 ct2), sl2⟩)
    (c2 : PySem.W.codeIn K cd2 "is_base" = true)
    (k2 : PySem.W.keepIn K (.ref f2) = true)
    (a3 : PySem.W.nsIn K mainGlobals "need_base" = some (some (.ref f3)))
    (l3 : K.lookup f3 = some ⟨oc3, od3, .func (PySem.W.fnOf "need_base" "need_base" (defArgs s_need_base) (defBody s_need_base) (defScope s_need_base) .none kV3 dc3 pm3 an3 cd3 ct3), sl3⟩)
    (c3 : PySem.W.codeIn K cd3 "need_base" = true)
    (k3 : PySem.W.keepIn K (.ref f3) = true)
    (a4 : PySem.W.nsIn K mainGlobals "need_numbers" = some (some (.ref f4)))
    (l4 : K.lookup f4 = some ⟨oc4, od4, .func (PySem.W.fnOf "need_numbers" "need_numbers" (defArgs s_need_numbers) (defBody s_need_numbers) (defScope s_need_numbers) .none kV4 dc4 pm4 an4 cd4 ct4), sl4⟩)
    (c4 : PySem.W.codeIn K cd4 "need_numbers" = true)
    (k4 : PySem.W.keepIn K (.ref f4) = true)
    (a5 : PySem.W.nsIn K mainGlobals "figures_of" = some (some (.ref f5)))
    (l5 : K.lookup f5 = some ⟨oc5, od5, .func (PySem.W.fnOf "figures_of" "figures_of" (defArgs s_figures_of) (defBody s_figures_of) (defScope s_figures_of) .none kV5 dc5 pm5 an5 cd5 ct5), sl5⟩)
    (c5 : PySem.W.codeIn K cd5 "figures_of" = true)
    (k5 : PySem.W.keepIn K (.ref f5) = true)
    (a6 : PySem.W.nsIn K mainGlobals "total" = some (some (.ref f6)))
    (l6 : K.lookup f6 = some ⟨oc6, od6, .func (PySem.W.fnOf "total" "total" (defArgs s_total) (defBody s_total) (defScope s_total) .none kV6 dc6 pm6 an6 cd6 ct6), sl6⟩)
    (c6 : PySem.W.codeIn K cd6 "total" = true)
    (k6 : PySem.W.keepIn K (.ref f6) = true)
    (a7 : PySem.W.nsIn K mainGlobals "root" = some (some (.ref f7)))
    (l7 : K.lookup f7 = some ⟨oc7, od7, .func (PySem.W.fnOf "root" "root" (defArgs s_root) (defBody s_root) (defScope s_root) .none kV7 dc7 pm7 an7 cd7 ct7), sl7⟩)
    (c7 : PySem.W.codeIn K cd7 "root" = true)
    (k7 : PySem.W.keepIn K (.ref f7) = true)
    (a8 : PySem.W.nsIn K mainGlobals "_law_deal" = some (some (.ref f8)))
    (l8 : K.lookup f8 = some ⟨oc8, od8, .func (PySem.W.fnOf "_law_deal" "_law_deal" (defArgs s__law_deal) (defBody s__law_deal) (defScope s__law_deal) .none kV8 dc8 pm8 an8 cd8 ct8), sl8⟩)
    (c8 : PySem.W.codeIn K cd8 "_law_deal" = true)
    (k8 : PySem.W.keepIn K (.ref f8) = true)
    (a9 : PySem.W.nsIn K mainGlobals "_law_draw" = some (some (.ref f9)))
    (l9 : K.lookup f9 = some ⟨oc9, od9, .func (PySem.W.fnOf "_law_draw" "_law_draw" (defArgs s__law_draw) (defBody s__law_draw) (defScope s__law_draw) .none kV9 dc9 pm9 an9 cd9 ct9), sl9⟩)
    (c9 : PySem.W.codeIn K cd9 "_law_draw" = true)
    (k9 : PySem.W.keepIn K (.ref f9) = true)
    (a10 : PySem.W.nsIn K mainGlobals "_law_pick" = some (some (.ref f10)))
    (l10 : K.lookup f10 = some ⟨oc10, od10, .func (PySem.W.fnOf "_law_pick" "_law_pick" (defArgs s__law_pick) (defBody s__law_pick) (defScope s__law_pick) .none kV10 dc10 pm10 an10 cd10 ct10), sl10⟩)
    (c10 : PySem.W.codeIn K cd10 "_law_pick" = true)
    (k10 : PySem.W.keepIn K (.ref f10) = true)
    (a11 : PySem.W.nsIn K mainGlobals "_law_base" = some (some (.ref f11)))
    (l11 : K.lookup f11 = some ⟨oc11, od11, .func (PySem.W.fnOf "_law_base" "_law_base" (defArgs s__law_base) (defBody s__law_base) (defScope s__law_base) .none kV11 dc11 pm11 an11 cd11 ct11), sl11⟩)
    (c11 : PySem.W.codeIn K cd11 "_law_base" = true)
    (k11 : PySem.W.keepIn K (.ref f11) = true)
    (a12 : PySem.W.nsIn K mainGlobals "_law_written" = some (some (.ref f12)))
    (l12 : K.lookup f12 = some ⟨oc12, od12, .func (PySem.W.fnOf "_law_written" "_law_written" (defArgs s__law_written) (defBody s__law_written) (defScope s__law_written) .none kV12 dc12 pm12 an12 cd12 ct12), sl12⟩)
    (c12 : PySem.W.codeIn K cd12 "_law_written" = true)
    (k12 : PySem.W.keepIn K (.ref f12) = true)
    (a13 : PySem.W.nsIn K mainGlobals "_law_figures" = some (some (.ref f13)))
    (l13 : K.lookup f13 = some ⟨oc13, od13, .func (PySem.W.fnOf "_law_figures" "_law_figures" (defArgs s__law_figures) (defBody s__law_figures) (defScope s__law_figures) .none kV13 dc13 pm13 an13 cd13 ct13), sl13⟩)
    (c13 : PySem.W.codeIn K cd13 "_law_figures" = true)
    (k13 : PySem.W.keepIn K (.ref f13) = true)
    (a14 : PySem.W.nsIn K mainGlobals "_law_number" = some (some (.ref f14)))
    (l14 : K.lookup f14 = some ⟨oc14, od14, .func (PySem.W.fnOf "_law_number" "_law_number" (defArgs s__law_number) (defBody s__law_number) (defScope s__law_number) .none kV14 dc14 pm14 an14 cd14 ct14), sl14⟩)
    (c14 : PySem.W.codeIn K cd14 "_law_number" = true)
    (k14 : PySem.W.keepIn K (.ref f14) = true)
    (a15 : PySem.W.nsIn K mainGlobals "_law_rooted" = some (some (.ref f15)))
    (l15 : K.lookup f15 = some ⟨oc15, od15, .func (PySem.W.fnOf "_law_rooted" "_law_rooted" (defArgs s__law_rooted) (defBody s__law_rooted) (defScope s__law_rooted) .none kV15 dc15 pm15 an15 cd15 ct15), sl15⟩)
    (c15 : PySem.W.codeIn K cd15 "_law_rooted" = true)
    (k15 : PySem.W.keepIn K (.ref f15) = true)
    (a16 : PySem.W.nsIn K mainGlobals "law" = some (some (.ref f16)))
    (l16 : K.lookup f16 = some ⟨oc16, od16, .func (PySem.W.fnOf "law" "law" (defArgs s_law) (defBody s_law) (defScope s_law) .none kV16 dc16 pm16 an16 cd16 ct16), sl16⟩)
    (c16 : PySem.W.codeIn K cd16 "law" = true)
    (k16 : PySem.W.keepIn K (.ref f16) = true)
    (z0 : PySem.W.nsIn K mainGlobals "isinstance" = some none)
    (z1 : PySem.W.nsIn K mainGlobals "int" = some none)
    (z2 : PySem.W.nsIn K mainGlobals "bool" = some none)
    (z3 : PySem.W.nsIn K mainGlobals "tuple" = some none)
    (z4 : PySem.W.nsIn K mainGlobals "sum" = some none)
    (z5 : PySem.W.nsIn K mainGlobals "len" = some none)
    (z6 : PySem.W.nsIn K mainGlobals "range" = some none)
    (z7 : PySem.W.nsIn K mainGlobals "min" = some none)
    (z8 : PySem.W.nsIn K mainGlobals "max" = some none)
    (z9 : PySem.W.nsIn K mainGlobals "repr" = some none)
    (y0 : PySem.W.nsIn K mainGlobals "LEAST_BASE" = some (some (.int 2 tk0))) :
    ∃ fd : FuncData, (∀ (s : Shared) (v : Value), BindsTo s fd ⟨[v], []⟩ [("_law_script", v)]) ∧ ∀ base : Heap, K.In base → base.Ns mainGlobals mg → FnOk l.prog w K mg base CX0 8 fa fd ["_law_script"] (sp_law K) := by
  obtain rfl : f16 = fa := by
    have e := hfa.symm.trans (PySem.W.mg_of X G a16)
    cases e
    rfl
  have F0 := fun_mk (st := s_is_integer) l0 c0 k0
  have B0 := F0.binds (ps := ["value"]) fun _ _ _ _ _ _ us hl => match us, hl with | [_], _ => rfl
  have F1 := fun_mk (st := s_is_number) l1 c1 k1
  have B1 := F1.binds (ps := ["value"]) fun _ _ _ _ _ _ us hl => match us, hl with | [_], _ => rfl
  have F2 := fun_mk (st := s_is_base) l2 c2 k2
  have B2 := F2.binds (ps := ["value"]) fun _ _ _ _ _ _ us hl => match us, hl with | [_], _ => rfl
  have F3 := fun_mk (st := s_need_base) l3 c3 k3
  have B3 := F3.binds (ps := ["base"]) fun _ _ _ _ _ _ us hl => match us, hl with | [_], _ => rfl
  have F4 := fun_mk (st := s_need_numbers) l4 c4 k4
  have B4 := F4.binds (ps := ["numbers", "base"]) fun _ _ _ _ _ _ us hl => match us, hl with | [_, _], _ => rfl
  have F5 := fun_mk (st := s_figures_of) l5 c5 k5
  have B5 := F5.binds (ps := ["number", "base"]) fun _ _ _ _ _ _ us hl => match us, hl with | [_, _], _ => rfl
  have F6 := fun_mk (st := s_total) l6 c6 k6
  have B6 := F6.binds (ps := ["number", "base"]) fun _ _ _ _ _ _ us hl => match us, hl with | [_, _], _ => rfl
  have F7 := fun_mk (st := s_root) l7 c7 k7
  have B7 := F7.binds (ps := ["number", "base"]) fun _ _ _ _ _ _ us hl => match us, hl with | [_, _], _ => rfl
  have F8 := fun_mk (st := s__law_deal) l8 c8 k8
  have B8 := F8.binds (ps := ["_law_script", "_law_base_here"]) fun _ _ _ _ _ _ us hl => match us, hl with | [_, _], _ => rfl
  have F9 := fun_mk (st := s__law_draw) l9 c9 k9
  have B9 := F9.binds (ps := ["_law_deal_here", "_law_span"]) fun _ _ _ _ _ _ us hl => match us, hl with | [_, _], _ => rfl
  have F10 := fun_mk (st := s__law_pick) l10 c10 k10
  have B10 := F10.binds (ps := ["_law_deal_here", "_law_some"]) fun _ _ _ _ _ _ us hl => match us, hl with | [_, _], _ => rfl
  have F11 := fun_mk (st := s__law_base) l11 c11 k11
  have B11 := F11.binds (ps := ["_law_deal_here"]) fun _ _ _ _ _ _ us hl => match us, hl with | [_], _ => rfl
  have F12 := fun_mk (st := s__law_written) l12 c12 k12
  have B12 := F12.binds (ps := ["_law_figures_here", "_law_base_here"]) fun _ _ _ _ _ _ us hl => match us, hl with | [_, _], _ => rfl
  have F13 := fun_mk (st := s__law_figures) l13 c13 k13
  have B13 := F13.binds (ps := ["_law_number_here", "_law_base_here"]) fun _ _ _ _ _ _ us hl => match us, hl with | [_, _], _ => rfl
  have F14 := fun_mk (st := s__law_number) l14 c14 k14
  have B14 := F14.binds (ps := ["_law_deal_here", "_law_base_here"]) fun _ _ _ _ _ _ us hl => match us, hl with | [_, _], _ => rfl
  have F15 := fun_mk (st := s__law_rooted) l15 c15 k15
  have B15 := F15.binds (ps := ["_law_number_here", "_law_base_here"]) fun _ _ _ _ _ _ us hl => match us, hl with | [_, _], _ => rfl
  have F16 := fun_mk (st := s_law) l16 c16 k16
  have B16 := F16.binds (ps := ["_law_script"]) fun _ _ _ _ _ _ us hl => match us, hl with | [_], _ => rfl
  have T : Txt K mg (fun i => match i with | 0 => f0 | 1 => f1 | 2 => f2 | 3 => f3 | 4 => f4 | 5 => f5 | 6 => f6 | 7 => f7 | 8 => f8 | 9 => f9 | 10 => f10 | 11 => f11 | 12 => f12 | 13 => f13 | 14 => f14 | 15 => f15 | 16 => f16 | _ => 0) (fun i => match i with | 0 => (PySem.W.fnOf "is_integer" "is_integer" (defArgs s_is_integer) (defBody s_is_integer) (defScope s_is_integer) .none kV0 dc0 pm0 an0 cd0 ct0) | 1 => (PySem.W.fnOf "is_number" "is_number" (defArgs s_is_number) (defBody s_is_number) (defScope s_is_number) .none kV1 dc1 pm1 an1 cd1 ct1) | 2 => (PySem.W.fnOf "is_base" "is_base" (defArgs s_is_base) (defBody s_is_base) (defScope s_is_base) .none kV2 dc2 pm2 an2 cd2 ct2) | 3 => (PySem.W.fnOf "need_base" "need_base" (defArgs s_need_base) (defBody s_need_base) (defScope s_need_base) .none kV3 dc3 pm3 an3 cd3 ct3) | 4 => (PySem.W.fnOf "need_numbers" "need_numbers" (defArgs s_need_numbers) (defBody s_need_numbers) (defScope s_need_numbers) .none kV4 dc4 pm4 an4 cd4 ct4) | 5 => (PySem.W.fnOf "figures_of" "figures_of" (defArgs s_figures_of) (defBody s_figures_of) (defScope s_figures_of) .none kV5 dc5 pm5 an5 cd5 ct5) | 6 => (PySem.W.fnOf "total" "total" (defArgs s_total) (defBody s_total) (defScope s_total) .none kV6 dc6 pm6 an6 cd6 ct6) | 7 => (PySem.W.fnOf "root" "root" (defArgs s_root) (defBody s_root) (defScope s_root) .none kV7 dc7 pm7 an7 cd7 ct7) | 8 => (PySem.W.fnOf "_law_deal" "_law_deal" (defArgs s__law_deal) (defBody s__law_deal) (defScope s__law_deal) .none kV8 dc8 pm8 an8 cd8 ct8) | 9 => (PySem.W.fnOf "_law_draw" "_law_draw" (defArgs s__law_draw) (defBody s__law_draw) (defScope s__law_draw) .none kV9 dc9 pm9 an9 cd9 ct9) | 10 => (PySem.W.fnOf "_law_pick" "_law_pick" (defArgs s__law_pick) (defBody s__law_pick) (defScope s__law_pick) .none kV10 dc10 pm10 an10 cd10 ct10) | 11 => (PySem.W.fnOf "_law_base" "_law_base" (defArgs s__law_base) (defBody s__law_base) (defScope s__law_base) .none kV11 dc11 pm11 an11 cd11 ct11) | 12 => (PySem.W.fnOf "_law_written" "_law_written" (defArgs s__law_written) (defBody s__law_written) (defScope s__law_written) .none kV12 dc12 pm12 an12 cd12 ct12) | 13 => (PySem.W.fnOf "_law_figures" "_law_figures" (defArgs s__law_figures) (defBody s__law_figures) (defScope s__law_figures) .none kV13 dc13 pm13 an13 cd13 ct13) | 14 => (PySem.W.fnOf "_law_number" "_law_number" (defArgs s__law_number) (defBody s__law_number) (defScope s__law_number) .none kV14 dc14 pm14 an14 cd14 ct14) | 15 => (PySem.W.fnOf "_law_rooted" "_law_rooted" (defArgs s__law_rooted) (defBody s__law_rooted) (defScope s__law_rooted) .none kV15 dc15 pm15 an15 cd15 ct15) | 16 => (PySem.W.fnOf "law" "law" (defArgs s_law) (defBody s_law) (defScope s_law) .none kV16 dc16 pm16 an16 cd16 ct16) | _ => (PySem.W.fnOf "" "" (defArgs s_law) (defBody s_law) (defScope s_law) .none kV0 dc0 pm0 an0 cd0 ct0)) (fun _ => 0) := ⟨F0, B0, (PySem.W.mg_of X G a0), F1, B1, (PySem.W.mg_of X G a1), F2, B2, (PySem.W.mg_of X G a2), F3, B3, (PySem.W.mg_of X G a3), F4, B4, (PySem.W.mg_of X G a4), F5, B5, (PySem.W.mg_of X G a5), F6, B6, (PySem.W.mg_of X G a6), F7, B7, (PySem.W.mg_of X G a7), F8, B8, (PySem.W.mg_of X G a8), F9, B9, (PySem.W.mg_of X G a9), F10, B10, (PySem.W.mg_of X G a10), F11, B11, (PySem.W.mg_of X G a11), F12, B12, (PySem.W.mg_of X G a12), F13, B13, (PySem.W.mg_of X G a13), F14, B14, (PySem.W.mg_of X G a14), F15, B15, (PySem.W.mg_of X G a15), F16, B16, (PySem.W.mg_of X G a16), (PySem.W.mg_none_of X G z0), (PySem.W.mg_none_of X G z1), (PySem.W.mg_none_of X G z2), (PySem.W.mg_none_of X G z3), (PySem.W.mg_none_of X G z4), (PySem.W.mg_none_of X G z5), (PySem.W.mg_none_of X G z6), (PySem.W.mg_none_of X G z7), (PySem.W.mg_none_of X G z8), (PySem.W.mg_none_of X G z9), ⟨_, PySem.W.mg_of X G y0, ⟨_, rfl⟩⟩⟩
  exact ⟨_, fun s v => .of_eq rfl, fun base _ _ => ok_law T⟩
end K06
open PySem PySem.W PyProof.Rows
set_option maxRecDepth 100000 in
set_option maxHeartbeats 0 in
theorem PySem.Challenge.cw_everybase_k06_sums_of_figures_holds : PySem.Challenge.rw_everybase_k06_sums_of_figures.Holds := by
  w_on; o_law; k_head; (case hw => w_witness2)
  k_fill
  refine L2.walk_of (l := PySem.Challenge.rw_everybase_k06_sums_of_figures) (n := 63) (k := 8) (x := "_law_script") (CX := fun _ => L2.CX0) (sp := fun w => K06.sp_law _) rfl (by decide) rfl ⟨rfl, by decide, by decide⟩ (fun w h Y => PySem.W.kIn_of Y) ?F (fun _ _ a ns hl _ hS => ⟨a, ns, rfl, hS, hl, fun _ => rfl⟩) (fun _ _ _ _ _ h => h)
  case F =>
    intro w mg fa h KX G hmg
    refine' K06.all_mk KX G hmg ?a0 ?l0 ?c0 ?k0 ?a1 ?l1 ?c1 ?k1 ?a2 ?l2 ?c2 ?k2 ?a3 ?l3 ?c3 ?k3 ?a4 ?l4 ?c4 ?k4 ?a5 ?l5 ?c5 ?k5 ?a6 ?l6 ?c6 ?k6 ?a7 ?l7 ?c7 ?k7 ?a8 ?l8 ?c8 ?k8 ?a9 ?l9 ?c9 ?k9 ?a10 ?l10 ?c10 ?k10 ?a11 ?l11 ?c11 ?k11 ?a12 ?l12 ?c12 ?k12 ?a13 ?l13 ?c13 ?k13 ?a14 ?l14 ?c14 ?k14 ?a15 ?l15 ?c15 ?k15 ?a16 ?l16 ?c16 ?k16 ?z0 ?z1 ?z2 ?z3 ?z4 ?z5 ?z6 ?z7 ?z8 ?z9 ?y0
    (case a0 => k_is)
    (case l0 => k_is)
    (case c0 => k_is)
    (case k0 => k_is)
    (case a1 => k_is)
    (case l1 => k_is)
    (case c1 => k_is)
    (case k1 => k_is)
    (case a2 => k_is)
    (case l2 => k_is)
    (case c2 => k_is)
    (case k2 => k_is)
    (case a3 => k_is)
    (case l3 => k_is)
    (case c3 => k_is)
    (case k3 => k_is)
    (case a4 => k_is)
    (case l4 => k_is)
    (case c4 => k_is)
    (case k4 => k_is)
    (case a5 => k_is)
    (case l5 => k_is)
    (case c5 => k_is)
    (case k5 => k_is)
    (case a6 => k_is)
    (case l6 => k_is)
    (case c6 => k_is)
    (case k6 => k_is)
    (case a7 => k_is)
    (case l7 => k_is)
    (case c7 => k_is)
    (case k7 => k_is)
    (case a8 => k_is)
    (case l8 => k_is)
    (case c8 => k_is)
    (case k8 => k_is)
    (case a9 => k_is)
    (case l9 => k_is)
    (case c9 => k_is)
    (case k9 => k_is)
    (case a10 => k_is)
    (case l10 => k_is)
    (case c10 => k_is)
    (case k10 => k_is)
    (case a11 => k_is)
    (case l11 => k_is)
    (case c11 => k_is)
    (case k11 => k_is)
    (case a12 => k_is)
    (case l12 => k_is)
    (case c12 => k_is)
    (case k12 => k_is)
    (case a13 => k_is)
    (case l13 => k_is)
    (case c13 => k_is)
    (case k13 => k_is)
    (case a14 => k_is)
    (case l14 => k_is)
    (case c14 => k_is)
    (case k14 => k_is)
    (case a15 => k_is)
    (case l15 => k_is)
    (case c15 => k_is)
    (case k15 => k_is)
    (case a16 => k_is)
    (case l16 => k_is)
    (case c16 => k_is)
    (case k16 => k_is)
    (case z0 => k_is)
    (case z1 => k_is)
    (case z2 => k_is)
    (case z3 => k_is)
    (case z4 => k_is)
    (case z5 => k_is)
    (case z6 => k_is)
    (case z7 => k_is)
    (case z8 => k_is)
    (case z9 => k_is)
    (case y0 => k_is)
