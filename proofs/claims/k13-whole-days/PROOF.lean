import PyProof.Rows.All
import Wide.All
import OpenK.AllK
import Wide.FinOn
import HandS.ForMost
import HandS.IsInst
import PySem.Challenge.RW_readround_k13_whole_days_in_years
set_option Elab.async false
set_option maxRecDepth 100000
set_option maxHeartbeats 8000000
-- K13Math
/-! The plain law of calendars that go round: no program here. -/
namespace K13
/-- the lengths of the years that go round -/
structure Good (ns : List Int) : Prop where
  one : 1 ≤ ns.length
  most : ns.length ≤ 20
  each : ∀ x ∈ ns, 1 ≤ x ∧ x ≤ 400
/-- the first day of the year at place p of the first turn -/
def bg (ns : List Int) (p : Nat) : Int := (ns.take p).sum
/-- the place of a year in its turn -/
def pl (ns : List Int) (y : Int) : Nat := (y % (ns.length : Int)).toNat
def lenOf (ns : List Int) (y : Int) : Int := ns.getD (pl ns y) 0
def firstOf (ns : List Int) (y : Int) : Int := y / (ns.length : Int) * ns.sum + bg ns (pl ns y)
/-- how many begins are not above d -/
def cnt (ns : List Int) (d : Int) : Nat := ((List.range ns.length).filter fun i => decide (bg ns i ≤ d)).length

theorem pl_lt {ns : List Int} (g : Good ns) (y : Int) : pl ns y < ns.length := by
  have := g.one
  have h1 : 0 ≤ y % (ns.length : Int) := Int.emod_nonneg _ (by omega)
  have h2 : y % (ns.length : Int) < ns.length := Int.emod_lt_of_pos _ (by omega)
  unfold pl
  omega
theorem pl_eq {ns : List Int} (g : Good ns) (y : Int) : ((pl ns y : Nat) : Int) = y % (ns.length : Int) := by
  have := g.one
  have h1 : 0 ≤ y % (ns.length : Int) := Int.emod_nonneg _ (by omega)
  unfold pl
  omega
theorem bg_succ {ns : List Int} {p : Nat} (h : p < ns.length) : bg ns (p + 1) = bg ns p + ns.getD p 0 := by
  unfold bg
  rw [List.take_add_one, List.sum_append, List.getElem?_eq_getElem h, List.getD_eq_getElem?_getD, List.getElem?_eq_getElem h]
  simp
theorem bg_zero (ns : List Int) : bg ns 0 = 0 := rfl
theorem bg_all {ns : List Int} {p : Nat} (h : ns.length ≤ p) : bg ns p = ns.sum := by
  unfold bg
  rw [List.take_of_length_le h]
theorem getD_mem {ns : List Int} {p : Nat} (h : p < ns.length) : ns.getD p 0 ∈ ns := by
  rw [List.getD_eq_getElem?_getD, List.getElem?_eq_getElem h]
  exact List.getElem_mem h
theorem getD_pos {ns : List Int} (g : Good ns) {p : Nat} (h : p < ns.length) : 1 ≤ ns.getD p 0 ∧ ns.getD p 0 ≤ 400 := g.each _ (getD_mem h)
theorem bg_lt {ns : List Int} (g : Good ns) : ∀ {q p : Nat}, p < q → q ≤ ns.length → bg ns p < bg ns q := by
  intro q
  induction q with
  | zero => intro p h; omega
  | succ q ih =>
    intro p h hq
    have e := bg_succ (ns := ns) (p := q) (by omega)
    have := getD_pos g (p := q) (by omega)
    rcases Nat.lt_or_ge p q with h2 | h2
    · have := ih h2 (by omega)
      omega
    · have : p = q := by omega
      subst this
      omega
theorem bg_le {ns : List Int} (g : Good ns) {p q : Nat} (h : p ≤ q) (hq : q ≤ ns.length) : bg ns p ≤ bg ns q := by
  rcases Nat.lt_or_ge p q with h2 | h2
  · exact Int.le_of_lt (bg_lt g h2 hq)
  · have : p = q := by omega
    subst this
    omega
theorem sum_bounds {ns : List Int} (h : ∀ x ∈ ns, 1 ≤ x ∧ x ≤ 400) : (ns.length : Int) ≤ ns.sum ∧ ns.sum ≤ 400 * ns.length := by
  induction ns with
  | nil => simp
  | cons a r ih =>
    have h1 := h a (by simp)
    have h2 := ih fun x hx => h x (by simp [hx])
    simp only [List.sum_cons, List.length_cons]
    omega
theorem Good.sum {ns : List Int} (g : Good ns) : 1 ≤ ns.sum ∧ ns.sum ≤ 8000 := by
  have := sum_bounds g.each
  have := g.one
  have := g.most
  omega
theorem bg_nonneg {ns : List Int} (g : Good ns) {p : Nat} (h : p ≤ ns.length) : 0 ≤ bg ns p := by
  have := bg_le g (Nat.zero_le p) h
  rw [bg_zero] at this
  exact this
theorem bg_sum {ns : List Int} (g : Good ns) {p : Nat} (h : p ≤ ns.length) : bg ns p ≤ ns.sum := by
  have := bg_le g h (Nat.le_refl _)
  rw [bg_all (Nat.le_refl _)] at this
  exact this
/-- the year's length is its list's -/
theorem len_get {ns : List Int} (g : Good ns) (y : Int) : ns[pl ns y]? = some (lenOf ns y) := by
  have h := pl_lt g y
  unfold lenOf
  rw [List.getD_eq_getElem?_getD, List.getElem?_eq_getElem h]
  rfl
theorem len_pos {ns : List Int} (g : Good ns) (y : Int) : 1 ≤ lenOf ns y ∧ lenOf ns y ≤ 400 := getD_pos g (pl_lt g y)

theorem div_of {a b q r : Int} (h : a = q * b + r) (h0 : 0 ≤ r) (h1 : r < b) : a / b = q ∧ a % b = r := by
  have hb : 0 < b := by omega
  subst h
  constructor
  · rw [Int.add_comm, Int.add_mul_ediv_right _ _ (by omega), Int.ediv_eq_zero_of_lt h0 h1]
    omega
  · rw [Int.add_comm, Int.add_mul_emod_self_right, Int.emod_eq_of_lt h0 h1]
/-- the next year begins behind the last day of this one -/
theorem first_succ {ns : List Int} (g : Good ns) (y : Int) : firstOf ns (y + 1) = firstOf ns y + lenOf ns y := by
  have hn := g.one
  have hp := pl_lt g y
  have hpe := pl_eq g y
  have e : y = y / (ns.length : Int) * ns.length + pl ns y := by
    rw [hpe, Int.mul_comm]
    exact (Int.mul_ediv_add_emod y ns.length).symm
  have eb := bg_succ hp
  by_cases hl : pl ns y + 1 < ns.length
  · have d := div_of (a := y + 1) (b := ns.length) (q := y / (ns.length : Int)) (r := ((pl ns y + 1 : Nat) : Int)) (by push_cast; omega) (by omega) (by omega)
    have e2 : pl ns (y + 1) = pl ns y + 1 := by
      unfold pl
      rw [d.2]
      unfold pl
      omega
    unfold firstOf lenOf
    rw [d.1, e2, eb]
    omega
  · have d := div_of (a := y + 1) (b := ns.length) (q := y / (ns.length : Int) + 1) (r := 0) (by rw [Int.add_mul]; omega) (by omega) (by omega)
    have e2 : pl ns (y + 1) = 0 := by
      unfold pl
      rw [d.2]
      rfl
    have e3 := bg_all (ns := ns) (p := pl ns y + 1) (by omega)
    unfold firstOf lenOf
    rw [d.1, e2, bg_zero, Int.add_mul]
    omega
/-- a day's turn and what is left -/
theorem day_div {ns : List Int} (g : Good ns) {y s : Int} (h0 : 0 ≤ s) (h1 : s < lenOf ns y) :
    (firstOf ns y + s) / ns.sum = y / (ns.length : Int) ∧ (firstOf ns y + s) % ns.sum = bg ns (pl ns y) + s := by
  have hp := pl_lt g y
  have e := bg_succ hp
  have h2 := bg_sum g (p := pl ns y + 1) (by omega)
  have h3 := bg_nonneg g (p := pl ns y) (by omega)
  have h4 : lenOf ns y = ns.getD (pl ns y) 0 := rfl
  refine div_of ?_ (by omega) (by omega)
  unfold firstOf
  omega
theorem filter_lt (n m : Nat) (h : m ≤ n) : ((List.range n).filter fun i => decide (i < m)).length = m := by
  induction n with
  | zero => simp; omega
  | succ n ih =>
    rw [List.range_succ, List.filter_append, List.length_append]
    by_cases e : m ≤ n
    · rw [ih e]
      have : ¬ n < m := by omega
      simp [this]
    · have e2 : m = n + 1 := by omega
      subst e2
      have e3 : ((List.range n).filter fun i => decide (i < n + 1)) = List.range n := by
        apply List.filter_eq_self.mpr
        intro a ha
        have := List.mem_range.mp ha
        exact decide_eq_true (by omega)
      rw [e3]
      simp
theorem cnt_of {ns : List Int} (g : Good ns) {y s : Int} (h0 : 0 ≤ s) (h1 : s < lenOf ns y) : cnt ns (bg ns (pl ns y) + s) = pl ns y + 1 := by
  have hp := pl_lt g y
  have e := bg_succ hp
  have h4 : lenOf ns y = ns.getD (pl ns y) 0 := rfl
  unfold cnt
  rw [← filter_lt ns.length (pl ns y + 1) (by omega)]
  congr 1
  apply List.filter_congr
  intro i hi
  have hi := List.mem_range.mp hi
  by_cases hle : i < pl ns y + 1
  · rw [decide_eq_true hle]
    have := bg_le g (p := i) (q := pl ns y) (by omega) (by omega)
    exact decide_eq_true (by omega)
  · rw [decide_eq_false hle]
    have := bg_le g (p := pl ns y + 1) (q := i) (by omega) (by omega)
    exact decide_eq_false (by omega)
/-- the answer of «at», as the program reckons it -/
def atY (ns : List Int) (d : Int) : Int := d / ns.sum * ns.length + ((cnt ns (d % ns.sum) : Int) - 1)
def atP (ns : List Int) (d : Int) : Int := d % ns.sum - bg ns (cnt ns (d % ns.sum) - 1)
theorem at_is {ns : List Int} (g : Good ns) {y s : Int} (h0 : 0 ≤ s) (h1 : s < lenOf ns y) : atY ns (firstOf ns y + s) = y ∧ atP ns (firstOf ns y + s) = s := by
  obtain ⟨e1, e2⟩ := day_div g h0 h1
  have e3 := cnt_of g h0 h1
  have hpe := pl_eq g y
  have e : y = y / (ns.length : Int) * ns.length + pl ns y := by
    rw [hpe, Int.mul_comm]
    exact (Int.mul_ediv_add_emod y ns.length).symm
  unfold atY atP
  rw [e1, e2, e3]
  constructor
  · have : (((pl ns y + 1 : Nat) : Int) - 1) = pl ns y := by omega
    rw [this]
    exact e.symm
  · rw [Nat.add_sub_cancel]
    omega
/-- for every d the count is from 1 to n -/
theorem cnt_le (ns : List Int) (d : Int) : cnt ns d ≤ ns.length := by
  unfold cnt
  have := List.length_filter_le (fun i => decide (bg ns i ≤ d)) (List.range ns.length)
  rw [List.length_range] at this
  exact this
theorem cnt_pos {ns : List Int} (g : Good ns) {d : Int} (h : 0 ≤ d) : 1 ≤ cnt ns d := by
  have h1 := g.one
  unfold cnt
  apply List.length_pos_of_mem (a := 0)
  rw [List.mem_filter]
  exact ⟨List.mem_range.mpr (by omega), decide_eq_true (by rw [bg_zero]; exact h)⟩
theorem first_nonneg {ns : List Int} (g : Good ns) {y : Int} (h : 0 ≤ y) : 0 ≤ firstOf ns y := by
  have hp := pl_lt g y
  have h3 := bg_nonneg g (p := pl ns y) (by omega)
  have h4 := g.sum
  have h5 := g.one
  have h6 : 0 ≤ y / (ns.length : Int) := Int.ediv_nonneg h (by omega)
  have h7 : 0 ≤ y / (ns.length : Int) * ns.sum := Int.mul_nonneg h6 (by omega)
  unfold firstOf
  omega
end K13
-- K13Text
/-! The text by places, the data, the facts of the top. -/
namespace K13
open PySem L2
def top (i : Nat) : Stmt := PySem.Challenge.pw_readround_k13_whole_days_in_years.main.body.getD i (.Pass ⟨0, 0, 0, 0⟩)
abbrev sIsNum : Stmt := top 6
abbrev sAreNums : Stmt := top 7
abbrev sNeed : Stmt := top 9
abbrev sInit : Stmt := inClass (top 10) 0
abbrev sFirst : Stmt := inClass (top 10) 5
abbrev sAt : Stmt := inClass (top 10) 6
abbrev sDraw : Stmt := top 12
abbrev sFar : Stmt := top 13
abbrev sLengths : Stmt := top 14
abbrev sIs : Stmt := top 15
abbrev sRowIs : Stmt := top 16
abbrev sWalk : Stmt := top 17
abbrev sLaw : Stmt := top 18
/-! ### a calendar's attributes -/
theorem nBL : ¬ (("begins" : Str) = "lengths") := by decide +kernel
theorem nWL : ¬ (("whole" : Str) = "lengths") := by decide +kernel
theorem nWB : ¬ (("whole" : Str) = "begins") := by decide +kernel
theorem nLB : ¬ (("lengths" : Str) = "begins") := fun e => nBL e.symm
theorem nLW : ¬ (("lengths" : Str) = "whole") := fun e => nWL e.symm
theorem nBW : ¬ (("begins" : Str) = "whole") := fun e => nWB e.symm
def cf (l b : Addr) (w : Int) : List (Str × V) := putF "whole" (.int w) (putF "begins" (.ref b) (putF "lengths" (.ref l) []))
theorem cf_eq (l b : Addr) (w : Int) : cf l b w = ([("lengths", V.ref l), ("begins", V.ref b), ("whole", V.int w)] : List (Str × V)) := by
  have e1 : putF "begins" (.ref b) (putF "lengths" (.ref l) []) = ([("lengths", V.ref l), ("begins", V.ref b)] : List (Str × V)) := by
    show (if ("lengths" : Str) = "begins" then [(("lengths" : Str), V.ref b)] else (("lengths" : Str), V.ref l) :: putF "begins" (V.ref b) []) = _
    rw [if_neg nLB]
    all_goals rfl
  unfold cf
  rw [e1]
  show (if ("lengths" : Str) = "whole" then _ else (("lengths" : Str), V.ref l) :: (if ("begins" : Str) = "whole" then _ else (("begins" : Str), V.ref b) :: putF "whole" (V.int w) [])) = _
  rw [if_neg nLW, if_neg nBW]
  all_goals rfl
theorem cf_put (l b : Addr) (w y : Int) : putF "whole" (.int y) (cf l b w) = cf l b y := by
  rw [cf_eq, cf_eq]
  show (if ("lengths" : Str) = "whole" then _ else (("lengths" : Str), V.ref l) :: (if ("begins" : Str) = "whole" then _ else (("begins" : Str), V.ref b) :: (if ("whole" : Str) = "whole" then [(("whole" : Str), V.int y)] else _))) = _
  rw [if_neg nLW, if_neg nBW, if_pos rfl]
theorem cf_l (l b : Addr) (w : Int) : (cf l b w).lookup ("lengths" : Str) = some (.ref l) := by
  unfold cf
  rw [lookup_putF, if_neg nLW, lookup_putF, if_neg nLB, lookup_putF, if_pos rfl]
theorem cf_b (l b : Addr) (w : Int) : (cf l b w).lookup ("begins" : Str) = some (.ref b) := by
  unfold cf
  rw [lookup_putF, if_neg nBW, lookup_putF, if_pos rfl]
theorem cf_w (l b : Addr) (w : Int) : (cf l b w).lookup ("whole" : Str) = some (.int w) := by
  unfold cf
  rw [lookup_putF, if_pos rfl]
theorem cf_no (l b : Addr) (w : Int) {m : Str} (h1 : ¬ m = "whole") (h2 : ¬ m = "begins") (h3 : ¬ m = "lengths") : (cf l b w).lookup m = none := by
  unfold cf
  rw [lookup_putF, if_neg h1, lookup_putF, if_neg h2, lookup_putF, if_neg h3]
  all_goals rfl
theorem cf_len (l b : Addr) (w : Int) : (cf l b w).length < 1000 := by
  rw [cf_eq]
  show 3 < 1000
  decide
/-- a calendar of the years ns stands at x -/
structure CalAt (C : Addr) (H : Hp) (x : Addr) (ns : List Int) : Prop where
  ex : ∃ dx l b, H x = some (.ins C dx (cf l b ns.sum)) ∧ H l = some (.lst (ns.map V.int)) ∧ H b = some (.lst ((List.range ns.length).map fun i => V.int (bg ns i)))
theorem CalAt.same {C : Addr} {H H' : Hp} {x : Addr} {ns : List Int} (c : CalAt C H x ns) (s : Same H H') : CalAt C H' x ns := by
  obtain ⟨dx, l, b, h1, h2, h3⟩ := c.ex
  exact ⟨dx, l, b, s _ _ h1, s _ _ h2, s _ _ h3⟩
theorem Same.new {H : Hp} {p : Addr} {o : HO} (h : H p = none) : Same H (upd H p o) := fun b x e => by
  rw [upd_ne (ne_of_none e h)]
  exact e
/-- the hold: a list of a count and the list of the cells -/
structure Hold (H : Hp) (p q : Addr) (n : Int) : Prop where
  ex : ∃ cs : List Int, H p = some (.lst [.int n, .ref q]) ∧ H q = some (.lst (cs.map V.int)) ∧ 1 ≤ cs.length ∧ cs.length ≤ 63
  nn : 0 ≤ n
theorem Hold.ne {H : Hp} {p q : Addr} {n : Int} (h : Hold H p q n) : p ≠ q := by
  obtain ⟨cs, h1, h2, _⟩ := h.ex
  refine ne_of h1 h2 fun e => ?_
  have e2 := HO.lst.inj e
  match cs, e2 with
  | [], e2 => simp at e2
  | [_], e2 => simp at e2
  | _ :: _ :: _, e2 => simp at e2
theorem Hold.keep {H H' : Hp} {p q : Addr} {n : Int} (h : Hold H p q n) (e1 : H' p = H p) (e2 : H' q = H q) : Hold H' p q n := by
  obtain ⟨cs, h1, h2, h3⟩ := h.ex
  exact ⟨⟨cs, e1.trans h1, e2.trans h2, h3⟩, h.nn⟩
theorem Hold.at1 {H : Hp} {p q : Addr} {n : Int} (h : Hold H p q n) : ∃ o, H p = some o := let ⟨_, h1, _⟩ := h.ex; ⟨_, h1⟩
theorem Hold.at2 {H : Hp} {p q : Addr} {n : Int} (h : Hold H p q n) : ∃ o, H q = some o := let ⟨_, _, h2, _⟩ := h.ex; ⟨_, h2⟩
theorem Hold.same {H H' : Hp} {p q : Addr} {n : Int} (h : Hold H p q n) (s : Same H H') : Hold H' p q n := by
  obtain ⟨cs, h1, h2, h3⟩ := h.ex
  exact ⟨⟨cs, s _ _ h1, s _ _ h2, h3⟩, h.nn⟩
/-- all but what stands at p and at q is as it was -/
def But (H H' : Hp) (p q : Addr) : Prop := ∀ b o, H b = some o → b ≠ p → b ≠ q → H' b = some o
theorem But.refl (H : Hp) (p q : Addr) : But H H p q := fun _ _ h _ _ => h
theorem But.trans {H H1 H2 : Hp} {p q : Addr} (a : But H H1 p q) (b : But H1 H2 p q) : But H H2 p q := fun c o h h1 h2 => b c o (a c o h h1 h2) h1 h2
theorem But.same {H H1 H2 : Hp} {p q : Addr} (a : But H H1 p q) (b : Same H1 H2) : But H H2 p q := fun c o h h1 h2 => b c o (a c o h h1 h2)
theorem But.of {H H1 : Hp} {p q : Addr} (a : Same H H1) : But H H1 p q := fun c o h _ _ => a c o h
/-- what was free behind is free ahead -/
theorem But.free {H H1 : Hp} {p q : Addr} (a : But H H1 p q) {x : Addr} (hx : H1 x = none) (h1 : x ≠ p) (h2 : x ≠ q) : H x = none := by
  cases e : H x with
  | none => rfl
  | some o =>
    rw [a x o e h1 h2] at hx
    cases hx
/-- what the walk asks of the top -/
structure Txt (K : PySem.W.Frag) (mg : Str → Option Value) (C : Addr) : Prop where
  cl : Cls K C
  nL : NoAttr K C "lengths"
  nB : NoAttr K C "begins"
  nW : NoAttr K C "whole"
  mgC : mg "Calendar" = some (.ref C)
  len : mg "len" = none
  range : mg "range" = none
  isi : mg "isinstance" = none
  list : mg "list" = none
  tuple : mg "tuple" = none
  int : mg "int" = none
  bool : mg "bool" = none
  all : mg "all" = none
  divmod : mg "divmod" = none
  sum : mg "sum" = none
  max : mg "max" = none
  min : mg "min" = none
/-! ### places -/
theorem ix_of {n : Nat} {z : Int} {j : Nat} (e : z = (j : Int)) (h : j < n) : ixN n z = some j := by
  subst e
  unfold ixN
  rw [if_pos (by omega), if_pos (by omega)]
  rfl
theorem int_at {ns : List Int} {j : Nat} {c : Int} (h : ns[j]? = some c) : (ns.map V.int)[j]? = some (V.int c) := by
  rw [List.getElem?_map, h]
  rfl
theorem at_int {ns : List Int} {i : Nat} {y : V} (hi : (ns.map V.int)[i]? = some y) : ∃ z, ns[i]? = some z ∧ y = V.int z := by
  rw [List.getElem?_map] at hi
  cases e : ns[i]? with
  | none =>
    rw [e] at hi
    cases hi
  | some z =>
    rw [e] at hi
    exact ⟨z, rfl, (Option.some.inj hi).symm⟩
/-- o[i] of a list at a place that is not below 0, for o[i] += e -/
def rGetL (K : PySem.W.Frag) : V → V → Hp → VK → Prop := fun x y H Q => ∃ p xs i v, x = .ref p ∧ y = .int i ∧ SqL K H p xs ∧ 0 ≤ i ∧ xs[i.toNat]? = some v ∧ Q v H
theorem pget_list {X : Cx} : PGet X (rGetL X.K) := by
  intro pins s σ H x y v u Q I rx ry h
  obtain ⟨p, xs, i, z, rfl, rfl, hq, h0, he, q⟩ := h
  cases rx
  obtain ⟨t, rfl⟩ := ry
  obtain ⟨its, r, pl, hz⟩ := I.list hq
  obtain ⟨w, ew, rw'⟩ := r.get he
  have hl := r.length
  have hn := line63
  have hj : i.toNat < its.length := (List.getElem?_eq_some_iff.mp ew).1
  exact PySem.wpAny_getItem_list pl.isList h0 (by omega) (by simpa using ew) ⟨z, H, I, rw', q⟩
end K13
-- K13Draw
/-! The draws. -/
namespace K13
open PySem L2
/-! ### sizes -/
theorem mod_small {x m : Int} (h : 0 < m) (h2 : m ≤ 4294967296) : -(2 ^ 64) < x % m ∧ x % m < 2 ^ 64 := by
  have h3 := Int.emod_nonneg x (show m ≠ 0 by omega)
  have h4 := Int.emod_lt_of_pos x h
  omega
theorem pow_ok {x m k : Int} (h : 0 < m) (h2 : m ≤ 4294967296) (h0 : 0 ≤ k) (hk : k ≤ 1000000) : CPow (x % m) k := by
  have h3 := Int.emod_nonneg x (show m ≠ 0 by omega)
  have h4 := Int.emod_lt_of_pos x h
  refine ⟨h0, hk, ?_⟩
  omega
theorem pow3_ok {x c n : Int} (h0 : 0 ≤ n) (h1 : n ≤ 2000) : CPow (x % 2147483629 + c % 1000003 * n) 3 := by
  have h3 := Int.emod_nonneg x (show (2147483629 : Int) ≠ 0 by decide)
  have h4 := Int.emod_lt_of_pos x (show (0 : Int) < 2147483629 by decide)
  have h5 := Int.emod_nonneg c (show (1000003 : Int) ≠ 0 by decide)
  have h6 := Int.emod_lt_of_pos c (show (0 : Int) < 1000003 by decide)
  have h7 : 0 ≤ c % 1000003 * n := Int.mul_nonneg h5 h0
  have h8 : c % 1000003 * n ≤ 1000003 * 2000 := Int.mul_le_mul (by omega) h1 h0 (by decide)
  refine ⟨by decide, by decide, ?_⟩
  omega
/-! ### the promise -/
def spDraw : Sp := fun vs H Q _ => ∃ (p q : Addr) (n m : Int), vs = [.ref p, .int m] ∧ Hold H p q n ∧ n ≤ 1000 ∧ 1 ≤ m ∧ m ≤ 100000000 ∧
  ∀ (v : Int) (H' : Hp), 0 ≤ v → v < m → Hold H' p q (n + 1) → But H H' p q → Q (.int v) H'
section
variable {P : Program} {w : World} {K : PySem.W.Frag} {mg : Str → Option Value} {base : Heap}
theorem scDraw : FnScope ["_law_hold", "_law_many", "_law_spot", "_law_cell", "_law_mark"] ["_law_hold", "_law_many"] (defScope sDraw) := ⟨rfl, rfl, rfl, by decide +kernel, rfl, by decide +kernel, by decide +kernel⟩
theorem ok_draw {f C : Addr} {fd : FuncData} (F : Fun K "_law_draw" "_law_draw" sDraw f fd) (T : Txt K mg C) : FnOk P w K mg base CX0 1 f fd ["_law_hold", "_law_many"] spDraw := by
  refine F.ok scDraw (fun vs H Q E h => ?_) (fun cdv A outer s H vs Q E hr h => ?_)
  · obtain ⟨p, q, n, m, rfl, _⟩ := h
    rfl
  · obtain ⟨p, q, n, m, rfl, hh, hn, hm1, hm2, k⟩ := h
    have npq : p ≠ q := hh.ne
    obtain ⟨⟨cs, hp, hq, hc1, hc2⟩, hn0⟩ := hh
    refine ⟨_,
      -- spot = hold[0] % len(hold[1])
      pss_cons (ps_set (i := 2) scDraw.nd rfl (.inl rfl) (pe_op op_mod (pe_ix ix_list (pv 0) pe_int (fun _ _ => rfl))
        (pe_callB call_len_seq (by rfl) T.len PySem.boot_len (pa_cons (pe_ix ix_list (pv 0) pe_int (fun _ _ => rfl)) pa_nil))))
      -- cell = hold[1][spot]
      (pss_cons (ps_set (i := 3) scDraw.nd rfl (.inl rfl) (pe_ix ix_list (pe_ix ix_list (pv 0) pe_int (fun _ _ => rfl)) (pv 2) (fun _ _ => rfl)))
      -- hold[0] += 1
      (pss_cons (ps_augS (pv 0) pe_int pget_list pe_int ip_add set_list)
      -- if cell >= 10 ** 18
      (pss_cons (ps_if (pt_cmpR op_ge (pv 3) pe_int (nomark _))
        (pss_cons (ps_asg (pe_op op_fdiv (pv 3) (pv 1)) (pg_sub (pe_ix ix_list (pv 0) pe_int (fun _ _ => rfl)) (pv 2) set_list))
          (pss_one (ps_ret (pe_op op_mod (pv 3) (pv 1))))) pss_nil)
      -- mark = (cell % 2147483629 + 104729 * hold[0]) % 2147483647
      (pss_cons (ps_set (i := 4) scDraw.nd rfl (.inl rfl) (pe_op op_mod (pe_op op_add (pe_op op_mod (pv 3) pe_int) (pe_op op_mul pe_int (pe_ix ix_list (pv 0) pe_int (fun _ _ => rfl)))) pe_int))
      (pss_cons (ps_set (i := 4) scDraw.nd rfl (.inl rfl) (pe_op op_mod (pe_op op_mul (pe_op op_mod (pe_op op_pow (pv 4) pe_int) pe_int) pe_int) pe_int))
      (pss_one (ps_ret (pe_op op_mod (pe_op op_fdiv (pe_op op_mod (pe_op op_pow (pe_op op_add (pv 4) (pe_op op_mul (pe_op op_mod (pv 3) pe_int) (pe_ix ix_list (pv 0) pe_int (fun _ _ => rfl)))) pe_int) pe_int) pe_int) (pv 1))))))))), ?_⟩
    have hlen : (0 : Int) < (((cs.map V.int).length : Nat) : Int) := by rw [List.length_map]; omega
    refine ⟨_, rfl, p, _, _, _, rfl, rfl, SqL.of hp, atI_nat (j := 0) rfl, _, rfl, p, _, _, _, rfl, rfl, SqL.of hp, atI_nat (j := 1) rfl, q, _, rfl, .inl (SqL.of hq), _, _, rfl, rfl, hlen, ?_⟩
    obtain ⟨j, ej, hj⟩ : ∃ j : Nat, n % (((cs.map V.int).length : Nat) : Int) = (j : Int) ∧ j < (cs.map V.int).length := by
      have h1 := Int.emod_nonneg n (show (((cs.map V.int).length : Nat) : Int) ≠ 0 by omega)
      have h2 := Int.emod_lt_of_pos n hlen
      exact ⟨(n % (((cs.map V.int).length : Nat) : Int)).toNat, by omega, by omega⟩
    have hj' : j < cs.length := by rw [List.length_map] at hj; exact hj
    have hc : cs[j]? = some cs[j] := List.getElem?_eq_getElem hj'
    generalize cs[j] = c at hc
    refine ⟨_, rfl, p, _, _, _, rfl, rfl, SqL.of hp, atI_nat (j := 1) rfl, _, rfl, q, _, _, _, rfl, rfl, SqL.of hq, at_of ej (int_at hc), ?_⟩
    refine ⟨_, rfl, p, _, _, _, rfl, rfl, SqL.of hp, by decide, rfl, _, _, rfl, rfl, p, _, _, 0, rfl, rfl, hp, rfl, ?_⟩
    have hp1 : (upd H p (.lst [.int (n + 1), .ref q])) p = some (.lst [.int (n + 1), .ref q]) := upd_same
    have hq1 : (upd H p (.lst [.int (n + 1), .ref q])) q = some (.lst (cs.map V.int)) := by
      rw [upd_ne npq.symm]
      exact hq
    have bt : But H (upd H p (.lst [.int (n + 1), .ref q])) p q := fun b o e h1 _ => by
      rw [upd_ne h1]
      exact e
    refine ⟨_, rfl, _, _, rfl, rfl, _, rfl, ite2 (fun _ => ?_) (fun _ => ?_)⟩
    · refine ⟨_, rfl, _, rfl, _, _, rfl, rfl, ⟨by omega, by omega⟩, _, rfl, p, _, _, _, rfl, rfl, SqL.of hp1, atI_nat (j := 1) rfl, _, rfl, q, _, _, j, rfl, rfl, hq1, ix_of ej hj, ?_⟩
      refine ⟨_, rfl, _, rfl, _, _, rfl, rfl, (by show 0 < m; omega), ?_⟩
      refine k _ _ (Int.emod_nonneg _ (by omega)) (Int.emod_lt_of_pos _ (by omega)) ⟨⟨cs.set j (c / m), ?_, ?_, ?_⟩, by omega⟩ ?_
      · rw [upd_ne npq]
        exact upd_same
      · rw [upd_same, List.map_set]
      · rw [List.length_set]
        exact ⟨hc1, hc2⟩
      · intro b o e h1 h2
        rw [upd_ne h2]
        exact bt b o e h1 h2
    · refine ⟨_, rfl, _, _, rfl, rfl, (by show (0 : Int) < 2147483629; decide), _, rfl, p, _, _, _, rfl, rfl, SqL.of hp1, atI_nat (j := 0) rfl, _, _, rfl, rfl, .inl ⟨by decide, by decide⟩, _, _, rfl, rfl, _, _, rfl, rfl, (by show (0 : Int) < 2147483647; decide), ?_⟩
      refine ⟨_, rfl, _, _, rfl, rfl, pow_ok (by decide) (by decide) (by decide) (by decide), _, _, rfl, rfl, (by show (0 : Int) < 2147483647; decide), _, _, rfl, rfl, .inr ⟨by decide, by decide⟩, _, _, rfl, rfl, (by show (0 : Int) < 2147483629; decide), ?_⟩
      refine ⟨_, rfl, _, rfl, _, _, rfl, rfl, (by show (0 : Int) < 1000003; decide), _, rfl, p, _, _, _, rfl, rfl, SqL.of hp1, atI_nat (j := 0) rfl, _, _, rfl, rfl, .inl (mod_small (by decide) (by decide)), _, _, rfl, rfl,
        _, _, rfl, rfl, pow3_ok (by omega) (by omega), _, _, rfl, rfl, (by show (0 : Int) < 2147483587; decide), _, _, rfl, rfl, ⟨by decide, by decide⟩, _, rfl, _, _, rfl, rfl, (by show 0 < m; omega), ?_⟩
      exact k _ _ (Int.emod_nonneg _ (by omega)) (Int.emod_lt_of_pos _ (by omega)) ⟨⟨cs, hp1, hq1, hc1, hc2⟩, by omega⟩ bt
end
end K13
-- K13Far
/-! A far number; the lengths of the years. -/
namespace K13
open PySem L2
def spFar : Sp := fun vs H Q _ => ∃ (p q : Addr) (n : Int), vs = [.ref p] ∧ Hold H p q n ∧ n ≤ 900 ∧
  ∀ (v n' : Int) (H' : Hp), 0 ≤ v → n ≤ n' → n' ≤ n + 8 → Hold H' p q n' → But H H' p q → Q (.int v) H'
def spLengths : Sp := fun vs H Q _ => ∃ (p q : Addr) (n : Int), vs = [.ref p, .int 400, .int 20] ∧ Hold H p q n ∧ n ≤ 900 ∧
  ∀ (l : Addr) (ns : List Int) (n' : Int) (H' : Hp), Good ns → H' l = some (.lst (ns.map V.int)) → H l = none → n ≤ n' → n' ≤ n + 22 → Hold H' p q n' → But H H' p q → Q (.ref l) H'
section
variable {P : Program} {w : World} {K : PySem.W.Frag} {mg : Str → Option Value} {base : Heap}
theorem scFar : FnScope ["_law_hold", "_law_way", "_law_number", "_law_k"] ["_law_hold"] (defScope sFar) := ⟨rfl, rfl, rfl, by decide +kernel, rfl, by decide +kernel, by decide +kernel⟩
theorem ok_far {f fD C : Addr} {fd fdD : FuncData} (F : Fun K "_law_far" "_law_far" sFar f fd) (T : Txt K mg C) (FD : Fun K "_law_draw" "_law_draw" sDraw fD fdD) (bD : Binds K fdD ["_law_hold", "_law_many"] []) (gD : mg "_law_draw" = some (.ref fD)) :
    FnOk P w K mg base CX0 2 f fd ["_law_hold"] spFar := by
  have GD : FnOk P w K mg base CX0 1 fD fdD ["_law_hold", "_law_many"] spDraw := ok_draw FD T
  refine F.ok scFar (fun vs H Q E h => ?_) (fun cdv A outer s H vs Q E hr h => ?_)
  · obtain ⟨p, q, n, rfl, _⟩ := h
    rfl
  · obtain ⟨p, q, n, rfl, hh, hn, k⟩ := h
    refine ⟨_,
      pss_cons (ps_set (i := 1) scFar.nd rfl (.inl rfl) (pe_call GD hr (by rfl) gD FD.kp bD .nil pass0 (pa_cons (pv 0) (pa_cons pe_int pa_nil))))
      (pss_cons (ps_if (pt_cmpR op_lt (pv 1) pe_int (nomark _))
        (pss_one (ps_ret (pe_call GD hr (by rfl) gD FD.kp bD .nil pass0 (pa_cons (pv 0) (pa_cons (pe_ix ix_list (pe_lst (pa_cons pe_int (pa_cons pe_int pa_nil))) (pv 1) (fun _ _ => rfl)) pa_nil))))) pss_nil)
      (pss_cons (ps_set (i := 2) scFar.nd rfl (.inl rfl) pe_int)
      (pss_cons (ps_for PassesOwn.never rfl (pi_range1 rfl T.range (pa_cons pe_int pa_nil)) (pg_name (i := 3) scFar.nd rfl (.inl rfl))
        (pss_one (ps_set (i := 2) scFar.nd rfl (.inl rfl) (pe_op op_add (pe_op op_mul (pv 2) pe_int) (pe_call GD hr (by rfl) gD FD.kp bD .nil pass0 (pa_cons (pv 0) (pa_cons pe_int pa_nil)))))))
      (pss_one (ps_ret (pv 2)))))), ?_⟩
    have nn := hh.nn
    -- way = draw(hold, 4)
    refine ⟨_, rfl, p, q, n, 4, rfl, hh, by omega, by decide, by decide, fun v H1 v0 v1 h1 b1 => ?_⟩
    -- if way < 2
    refine ⟨_, rfl, _, _, rfl, rfl, _, rfl, ite2 (fun e => ?_) (fun e => ?_)⟩
    · have e := of_decide_eq_true e
      refine ⟨_, rfl, (by show 2 ≤ sizeLine; decide), fun l hl => ?_⟩
      have h2 : Hold (upd H1 l (.lst [.int 1000, .int 10000000])) p q (n + 1) := h1.same (Same.new hl)
      have b2 : But H (upd H1 l (.lst [.int 1000, .int 10000000])) p q := b1.same (Same.new hl)
      obtain ⟨z, hz1, hz2, hz⟩ : ∃ z : Int, 1 ≤ z ∧ z ≤ 100000000 ∧ ([.int 1000, .int 10000000] : List V)[v.toNat]? = some (.int z) := by
        have hv : v = 0 ∨ v = 1 := by omega
        rcases hv with rfl | rfl
        · exact ⟨1000, by decide, by decide, rfl⟩
        · exact ⟨10000000, by decide, by decide, rfl⟩
      refine ⟨_, rfl, l, _, _, _, rfl, rfl, SqL.of upd_same, at_of (j := v.toNat) (by omega) hz, p, q, n + 1, z, rfl, h2, by omega, hz1, hz2, fun u H3 u0 _ h3 b3 => ?_⟩
      exact k u _ H3 u0 (by omega) (by omega) h3 (b2.trans b3)
    · -- number = 0; for k in range(7)
      refine ⟨7, rfl, by decide, by decide, for_range (n := 7) (fun i σ H' => ∃ (x n' : Int) (y : Option V), σ = [some (.ref p), some (.int v), some (.int x), y] ∧ 0 ≤ x ∧ n + 1 ≤ n' ∧ n' ≤ n + 1 + i ∧ Hold H' p q n' ∧ But H H' p q)
        ⟨0, n + 1, none, rfl, by decide, by omega, by omega, h1, b1⟩ ?_ ?_⟩
      · rintro i σ H' hi ⟨x, n', y, rfl, x0, n1, n2, h2, b2⟩
        refine ⟨_, rfl, _, _, rfl, rfl, .inr ⟨by decide, by decide⟩, _, rfl, p, q, n', 100000000, rfl, h2, by omega, by decide, by decide, fun u H3 u0 _ h3 b3 => ?_⟩
        refine ⟨_, _, rfl, rfl, ?_⟩
        exact ⟨_, n' + 1, _, rfl, by omega, by omega, by omega, h3, b2.trans b3⟩
      · rintro σ H' ⟨x, n', y, rfl, x0, n1, n2, h2, b2⟩
        exact ⟨_, rfl, k x n' H' x0 (by omega) (by omega) h2 b2⟩
theorem scLengths : FnScope ["_law_hold", "_law_most", "_law_many", "_law_way", "_law_some", "_law_k"] ["_law_hold", "_law_most", "_law_many"] (defScope sLengths) := ⟨rfl, rfl, rfl, by decide +kernel, rfl, by decide +kernel, by decide +kernel⟩
theorem rep20 : (List.replicate (20 : Int).toNat [V.int 400]).flatten = (List.replicate 20 (400 : Int)).map V.int := rfl
theorem good20 : Good (List.replicate 20 (400 : Int)) := ⟨by decide, by decide, fun x hx => by
  have e := List.eq_of_mem_replicate hx
  subst e
  decide⟩
theorem ok_lengths {f fD C : Addr} {fd fdD : FuncData} (F : Fun K "_law_lengths" "_law_lengths" sLengths f fd) (T : Txt K mg C) (FD : Fun K "_law_draw" "_law_draw" sDraw fD fdD) (bD : Binds K fdD ["_law_hold", "_law_many"] []) (gD : mg "_law_draw" = some (.ref fD)) :
    FnOk P w K mg base CX0 2 f fd ["_law_hold", "_law_most", "_law_many"] spLengths := by
  have GD : FnOk P w K mg base CX0 1 fD fdD ["_law_hold", "_law_many"] spDraw := ok_draw FD T
  refine F.ok scLengths (fun vs H Q E h => ?_) (fun cdv A outer s H vs Q E hr h => ?_)
  · obtain ⟨p, q, n, rfl, _⟩ := h
    rfl
  · obtain ⟨p, q, n, rfl, hh, hn, k⟩ := h
    refine ⟨_,
      pss_cons (ps_set (i := 3) scLengths.nd rfl (.inl rfl) (pe_call GD hr (by rfl) gD FD.kp bD .nil pass0 (pa_cons (pv 0) (pa_cons pe_int pa_nil))))
      (pss_cons (ps_if (pt_cmpR op_eq (pv 3) pe_int (nomark _))
        (pss_one (ps_ret (pe_op op_rep (pe_lst (pa_cons (pv 1) pa_nil)) (pv 2)))) pss_nil)
      (pss_cons (ps_set (i := 4) scLengths.nd rfl (.inr rfl) (pe_ix ix_list (pe_lst (pa_cons pe_int (pa_cons pe_int (pa_cons pe_int (pa_cons (pv 1) (pa_cons (pv 1) (pa_cons (pv 1) (pa_cons (pv 1) pa_nil)))))))) (pe_op op_sub (pv 3) pe_int) (fun _ _ => rfl)))
      (pss_one (ps_ret (pe_lc (own := [("_law_k", 5)]) (g := gName 5) (tt := tYes) rfl scLengths.nd
        (pi_range1 rfl T.range (pa_cons (pe_op op_add pe_int (pe_call GD hr (by rfl) gD FD.kp bD .nil pass0 (pa_cons (pv 0) (pa_cons (pv 2) pa_nil)))) pa_nil))
        (blkOk_by (own := [("_law_k", 5)]) (N := ["_law_hold", "_law_most", "_law_many", "_law_way", "_law_some", "_law_k"]) (sc := defScope sLengths) (by decide +kernel))
        (fun _ _ _ _ _ => pg_name (i := 5) scLengths.nd rfl (Or.inl rfl)) (fun _ _ _ _ _ => pts_nil)
        (fun _ _ _ _ _ => pe_op op_add pe_int (pe_call GD hr (by rfl) gD FD.kp bD .nil pass0 (pa_cons (pv 0) (pa_cons (pv 4) pa_nil))))))))), ?_⟩
    have nn := hh.nn
    obtain ⟨op, ep⟩ := hh.at1
    obtain ⟨oq, eq⟩ := hh.at2
    -- way = draw(hold, 8)
    refine ⟨_, rfl, p, q, n, 8, rfl, hh, by omega, by decide, by decide, fun v H1 v0 v1 h1 b1 => ?_⟩
    -- if way == 0
    refine ⟨_, rfl, rfl, _, rfl, ite2 (fun e => ?_) (fun e => ?_)⟩
    · refine ⟨_, rfl, (by show 1 ≤ sizeLine; decide), fun l hl => ?_⟩
      refine ⟨_, rfl, l, 20, _, rfl, rfl, upd_same, by decide, by decide, (by show 20 ≤ sizeLine; decide), fun l2 hl2 => ?_⟩
      have s2 : Same H1 (upd (upd H1 l (.lst [.int 400])) l2 (.lst (List.replicate (20 : Int).toNat [V.int 400]).flatten)) := (Same.new hl).trans (Same.new hl2)
      have hl20 : H1 l2 = none := (Same.new hl).free hl2
      refine k l2 (List.replicate 20 400) (n + 1) _ good20 (by rw [upd_same, rep20]) (b1.free hl20 ?_ ?_) (by omega) (by omega) (h1.same s2) (b1.same s2)
      · obtain ⟨o, eo⟩ := h1.at1
        exact (ne_of_none eo hl20).symm
      · obtain ⟨o, eo⟩ := h1.at2
        exact (ne_of_none eo hl20).symm
    · have e1 : v ≠ 0 := fun z => e (decide_eq_true (by rw [z]))
      refine ⟨_, rfl, _, rfl, _, rfl, _, rfl, (by show 7 ≤ sizeLine; decide), fun l hl => ?_⟩
      obtain ⟨z, hz1, hz2, hz⟩ : ∃ z : Int, 1 ≤ z ∧ z ≤ 400 ∧ ([.int 1, .int 2, .int 5, .int 400, .int 400, .int 400, .int 400] : List V)[(v - 1).toNat]? = some (.int z) := by
        have hv : v = 1 ∨ v = 2 ∨ v = 3 ∨ v = 4 ∨ v = 5 ∨ v = 6 ∨ v = 7 := by omega
        rcases hv with rfl | rfl | rfl | rfl | rfl | rfl | rfl
        · exact ⟨1, by decide, by decide, rfl⟩
        · exact ⟨2, by decide, by decide, rfl⟩
        · exact ⟨5, by decide, by decide, rfl⟩
        · exact ⟨400, by decide, by decide, rfl⟩
        · exact ⟨400, by decide, by decide, rfl⟩
        · exact ⟨400, by decide, by decide, rfl⟩
        · exact ⟨400, by decide, by decide, rfl⟩
      refine ⟨_, rfl, _, _, rfl, rfl, l, _, _, _, rfl, rfl, SqL.of upd_same, at_of (j := (v - 1).toNat) (by omega) hz, ?_⟩
      have h2 := h1.same (Same.new (o := .lst [.int 1, .int 2, .int 5, .int 400, .int 400, .int 400, .int 400]) hl)
      have b2 := b1.same (Same.new (o := .lst [.int 1, .int 2, .int 5, .int 400, .int 400, .int 400, .int 400]) hl)
      -- range(1 + draw(hold, many))
      refine ⟨_, rfl, _, rfl, p, q, n + 1, 20, rfl, h2, by omega, by decide, by decide, fun u H3 u0 u1 h3 b3 => ?_⟩
      refine ⟨_, _, rfl, rfl, 1 + u, rfl, by omega, by omega, fun D hD => ?_⟩
      have b4 := b2.trans b3
      have Dp : D ≠ p := by
        obtain ⟨o, eo⟩ := h3.at1
        exact (ne_of_none eo hD).symm
      have Dq : D ≠ q := by
        obtain ⟨o, eo⟩ := h3.at2
        exact (ne_of_none eo hD).symm
      have D0 : H D = none := b4.free hD Dp Dq
      refine lc_range (lo := 0) (n := (1 + u).toNat) (fun i H' => ∃ (xs : List Int) (n' : Int), xs.length = i ∧ (∀ x ∈ xs, 1 ≤ x ∧ x ≤ 400) ∧ H' D = some (.lst (xs.map V.int)) ∧ n ≤ n' ∧ n' ≤ n + 2 + i ∧ Hold H' p q n' ∧ But H H' p q)
        ⟨[], n + 1 + 1, rfl, (fun x hx => by simp at hx), upd_same, by omega, by omega, h3.same (Same.new hD), b4.same (Same.new hD)⟩ ?_ ?_
      · rintro i H' hi ⟨xs, n', hl1, hx, hD', n1, n2, h5, b5⟩
        refine ⟨rfl, _, rfl, _, rfl, p, q, n', z, rfl, h5, by omega, hz1, by omega, fun r H6 r0 r1 h6 b6 => ?_⟩
        have hD6 := b6 D _ hD' Dp Dq
        refine ⟨_, _, rfl, rfl, xs.map V.int, hD6, (by rw [List.length_map]; exact small1000 (by omega)), xs ++ [1 + r], n' + 1, by rw [List.length_append, hl1]; rfl, ?_, ?_, by omega, by omega, ?_, ?_⟩
        · intro x hx'
          rcases List.mem_append.mp hx' with hx' | hx'
          · exact hx x hx'
          · have e := List.mem_singleton.mp hx'
            subst e
            omega
        · rw [upd_same, List.map_append]
          rfl
        · exact h6.keep (upd_ne Dp.symm) (upd_ne Dq.symm)
        · intro b o e h1' h2'
          have hb : b ≠ D := ne_of_none e D0
          rw [upd_ne hb]
          exact b6 b o (b5 b o e h1' h2') h1' h2'
      · rintro H' ⟨xs, n', hl1, hx, hD', n1, n2, h5, b5⟩
        exact k D xs n' H' ⟨by omega, by omega, hx⟩ hD' D0 (by omega) (by omega) h5 b5
end
end K13
-- K13Small
/-! What is a number; the comparisons. -/
namespace K13
open PySem L2
def spIsNum : Sp := fun vs H Q _ => ∃ (x lo hi : Int), vs = [.int x, .int lo, .int hi] ∧ lo ≤ x ∧ x ≤ hi ∧ Q (.bl true) H
def spAreNums : Sp := fun vs H Q _ => ∃ (a : Addr) (ns : List Int), vs = [.ref a, .int 20, .int 1, .int 400] ∧ H a = some (.lst (ns.map V.int)) ∧ Good ns ∧ ∀ H', Same H H' → Q (.bl true) H'
def spNeed : Sp := fun vs H Q _ => ∃ n : Int, vs = [.int n] ∧ 0 ≤ n ∧ Q .non H
def spIs : Sp := fun vs H Q _ => ∃ n : Int, vs = [.int n, .int n] ∧ Q (.bl true) H
def spRowIs : Sp := fun vs H Q _ => ∃ (a b : Addr) (y s : Int), vs = [.ref a, .ref b] ∧ H a = some (.tup [.int y, .int s]) ∧ H b = some (.tup [.int y, .int s]) ∧ ∀ H', Same H H' → Q (.bl true) H'
section
variable {P : Program} {w : World} {K : PySem.W.Frag} {mg : Str → Option Value} {base : Heap}
theorem scIsNum : FnScope ["thing", "least", "most"] ["thing", "least", "most"] (defScope sIsNum) := ⟨rfl, rfl, rfl, by decide +kernel, rfl, by decide +kernel, by decide +kernel⟩
theorem ok_isnum {f C : Addr} {fd : FuncData} (F : Fun K "is_number" "is_number" sIsNum f fd) (T : Txt K mg C) : FnOk P w K mg base CX0 1 f fd ["thing", "least", "most"] spIsNum := by
  refine F.ok scIsNum (fun vs H Q E h => ?_) (fun cdv A outer s H vs Q E hr h => ?_)
  · obtain ⟨x, lo, hi, rfl, _⟩ := h
    rfl
  · obtain ⟨x, lo, hi, rfl, h1, h2, k⟩ := h
    refine ⟨_, pss_one (ps_ret (pe_and (pe_callB call_isi (by rfl) T.isi PyProof.Rows.boot_isinstance (pa_cons (pv 0) (pa_cons (pe_bltn (v := .ty "int") (by rfl) T.int PyProof.Rows.boot_int rfl) pa_nil)))
      (pe_and (pe_not (pe_callB call_isi (by rfl) T.isi PyProof.Rows.boot_isinstance (pa_cons (pv 0) (pa_cons (pe_bltn (v := .ty "bool") (by rfl) T.bool PyProof.Rows.boot_bool rfl) pa_nil))))
      (pe_one (pe_chain op_le op_le (pv 1) (pv 0) (pv 2)))))), ?_⟩
    refine ⟨_, rfl, _, _, _, _, true, rfl, .ty "int", .base (.int x), kit_ty (by decide +kernel), true, rfl, iteT ?_⟩
    refine ⟨_, rfl, _, _, _, _, false, rfl, .ty "bool", .base (.int x), kit_ty (by decide +kernel), false, rfl, true, rfl, iteT ?_⟩
    refine ⟨_, rfl, _, rfl, _, _, rfl, rfl, true, congrArg V.bl (decide_eq_true h1), iteT ?_⟩
    refine ⟨_, rfl, _, _, rfl, rfl, ?_⟩
    show Q (V.bl (decide (x ≤ hi))) H
    rw [decide_eq_true h2]
    exact k
theorem scAreNums : FnScope ["thing", "long", "least", "most", "one"] ["thing", "long", "least", "most"] (defScope sAreNums) := ⟨rfl, rfl, rfl, by decide +kernel, rfl, by decide +kernel, by decide +kernel⟩
theorem all_true : ∀ n : Nat, (List.replicate n true).all id = true
  | 0 => rfl
  | n + 1 => all_true n
theorem ok_arenums {f fN C : Addr} {fd fdN : FuncData} (F : Fun K "are_numbers" "are_numbers" sAreNums f fd) (T : Txt K mg C) (FN : Fun K "is_number" "is_number" sIsNum fN fdN) (bN : Binds K fdN ["thing", "least", "most"] []) (gN : mg "is_number" = some (.ref fN)) :
    FnOk P w K mg base CX0 2 f fd ["thing", "long", "least", "most"] spAreNums := by
  have GN : FnOk P w K mg base CX0 1 fN fdN ["thing", "least", "most"] spIsNum := ok_isnum FN T
  refine F.ok scAreNums (fun vs H Q E h => ?_) (fun cdv A outer s H vs Q E hr h => ?_)
  · obtain ⟨a, ns, rfl, _⟩ := h
    rfl
  · obtain ⟨a, ns, rfl, ha, g, k⟩ := h
    refine ⟨_,
      pss_cons (ps_if (PW.pt (pw_or (pt_not (pt_val (pe_callB call_isi (by rfl) T.isi PyProof.Rows.boot_isinstance (pa_cons (pv 0) (pa_cons (pe_bltn (v := .ty "list") (by rfl) T.list PyProof.Rows.boot_list rfl) pa_nil)))))
          (pw_or1 (pt_not (pt_chain op_le op_le pe_int (pe_callB call_len_seq (by rfl) T.len PySem.boot_len (pa_cons (pv 0) pa_nil)) (pv 1))))))
        (pss_one (ps_ret pe_bl)) pss_nil)
      (pss_one (ps_ret (pe_callB (cr_all rfl) (by rfl) T.all (by decide +kernel) (pa_cons
        (pe_lc (own := [("one", 4)]) (g := gName 4) (tt := tYes) rfl scAreNums.nd (pi_list (pv 0))
          (blkOk_by (own := [("one", 4)]) (N := ["thing", "long", "least", "most", "one"]) (sc := defScope sAreNums) (by decide +kernel))
          (fun _ _ _ _ _ => pg_name (i := 4) scAreNums.nd rfl (Or.inl rfl)) (fun _ _ _ _ _ => pts_nil)
          (fun _ _ _ _ _ => pe_call GN hr (by rfl) gN FN.kp bN .nil pass0 (pa_cons (pv 4) (pa_cons (pv 2) (pa_cons (pv 3) pa_nil))))) pa_nil)))), ?_⟩
    have l1 := g.one
    have l2 := g.most
    refine ⟨_, rfl, _, _, _, _, true, rfl, .ty "list", .base (.lst ha), kit_ty (by decide +kernel), true, rfl, iteF ?_⟩
    refine ⟨_, rfl, a, _, rfl, .inl (SqL.of ha), _, _, rfl, rfl, true, congrArg V.bl (decide_eq_true (by rw [List.length_map]; omega)), iteT ?_⟩
    refine ⟨_, rfl, _, _, rfl, rfl, true, congrArg V.bl (decide_eq_true (by rw [List.length_map]; omega)), iteF ?_⟩
    refine ⟨_, rfl, a, rfl, ⟨_, SqL.of ha⟩, fun D hD => ?_⟩
    refine lc_list (K := K) (a := a) (xs := ns.map V.int) (fun i H' => Same H H' ∧ H' D = some (.lst ((List.replicate i true).map V.bl))) ⟨Same.new hD, upd_same⟩ (fun i H' _ z => SqL.of (z.1 _ _ ha)) ?_ ?_
    · rintro i x H' hi ⟨sm, eD⟩
      obtain ⟨z, hz, rfl⟩ := at_int hi
      have hz2 := g.each z (List.mem_of_getElem? hz)
      have hi' : i < ns.length := (List.getElem?_eq_some_iff.mp hz).1
      refine ⟨rfl, _, rfl, _, rfl, _, rfl, z, 1, 400, rfl, hz2.1, hz2.2, ?_⟩
      refine ⟨_, eD, (by rw [List.length_map, List.length_replicate]; exact small1000 (by omega)), fun b o e => ?_, ?_⟩
      · rw [upd_ne (ne_of_none e hD)]
        exact sm b o e
      · rw [upd_same, List.replicate_succ', List.map_append]
        rfl
    · rintro H' ⟨sm, eD⟩
      refine ⟨D, _, rfl, SqL.of eD, ?_⟩
      rw [all_true]
      exact k H' sm
theorem scNeed : FnScope ["number"] ["number"] (defScope sNeed) := ⟨rfl, rfl, rfl, by decide +kernel, rfl, by decide +kernel, by decide +kernel⟩
theorem ok_need {f : Addr} {fd : FuncData} (F : Fun K "need_day" "need_day" sNeed f fd) : FnOk P w K mg base CX0 1 f fd ["number"] spNeed := by
  refine F.ok scNeed (fun vs H Q E h => ?_) (fun cdv A outer s H vs Q E hr h => ?_)
  · obtain ⟨n, rfl, _⟩ := h
    rfl
  · obtain ⟨n, rfl, h0, k⟩ := h
    refine ⟨_, pss_one (ps_if (pt_cmpR op_lt (pv 0) pe_int (nomark _)) (pss_one ps_never) pss_nil), ?_⟩
    refine ⟨_, rfl, _, _, rfl, rfl, _, rfl, ite2 (fun e => ?_) (fun _ => k)⟩
    have e := of_decide_eq_true e
    omega
theorem scIs : FnScope ["_law_found", "_law_due"] ["_law_found", "_law_due"] (defScope sIs) := ⟨rfl, rfl, rfl, by decide +kernel, rfl, by decide +kernel, by decide +kernel⟩
theorem ok_is {f C : Addr} {fd : FuncData} (F : Fun K "_law_is" "_law_is" sIs f fd) (T : Txt K mg C) : FnOk P w K mg base CX0 1 f fd ["_law_found", "_law_due"] spIs := by
  refine F.ok scIs (fun vs H Q E h => ?_) (fun cdv A outer s H vs Q E hr h => ?_)
  · obtain ⟨n, rfl, _⟩ := h
    rfl
  · obtain ⟨n, rfl, k⟩ := h
    refine ⟨_, pss_one (ps_ret (pe_and (pe_callB call_isi (by rfl) T.isi PyProof.Rows.boot_isinstance (pa_cons (pv 0) (pa_cons (pe_bltn (v := .ty "int") (by rfl) T.int PyProof.Rows.boot_int rfl) pa_nil)))
      (pe_and (pe_not (pe_callB call_isi (by rfl) T.isi PyProof.Rows.boot_isinstance (pa_cons (pv 0) (pa_cons (pe_bltn (v := .ty "bool") (by rfl) T.bool PyProof.Rows.boot_bool rfl) pa_nil))))
      (pe_one (pe_cmpR op_eq (pv 0) (pv 1) (nomark _)))))), ?_⟩
    refine ⟨_, rfl, _, _, _, _, true, rfl, .ty "int", .base (.int n), kit_ty (by decide +kernel), true, rfl, iteT ?_⟩
    refine ⟨_, rfl, _, _, _, _, false, rfl, .ty "bool", .base (.int n), kit_ty (by decide +kernel), false, rfl, true, rfl, iteT ?_⟩
    refine ⟨_, rfl, _, rfl, rfl, ?_⟩
    show Q (V.bl (decide (V.int n = V.int n))) H
    rw [decide_eq_true rfl]
    exact k
theorem scRowIs : FnScope ["_law_found", "_law_due", "_law_k"] ["_law_found", "_law_due"] (defScope sRowIs) := ⟨rfl, rfl, rfl, by decide +kernel, rfl, by decide +kernel, by decide +kernel⟩
theorem ok_rowis {f fI C : Addr} {fd fdI : FuncData} (F : Fun K "_law_row_is" "_law_row_is" sRowIs f fd) (T : Txt K mg C) (FI : Fun K "_law_is" "_law_is" sIs fI fdI) (bI : Binds K fdI ["_law_found", "_law_due"] []) (gI : mg "_law_is" = some (.ref fI)) :
    FnOk P w K mg base CX0 2 f fd ["_law_found", "_law_due"] spRowIs := by
  have GI : FnOk P w K mg base CX0 1 fI fdI ["_law_found", "_law_due"] spIs := ok_is FI T
  refine F.ok scRowIs (fun vs H Q E h => ?_) (fun cdv A outer s H vs Q E hr h => ?_)
  · obtain ⟨a, b, y, z, rfl, _⟩ := h
    rfl
  · obtain ⟨a, b, y, z, rfl, ha, hb, k⟩ := h
    refine ⟨_,
      pss_cons (ps_if (PW.pt (pw_or
          (pt_cmpR op_ne (pe_callB call_isi (by rfl) T.isi PyProof.Rows.boot_isinstance (pa_cons (pv 0) (pa_cons (pe_bltn (v := .ty "list") (by rfl) T.list PyProof.Rows.boot_list rfl) pa_nil)))
            (pe_callB call_isi (by rfl) T.isi PyProof.Rows.boot_isinstance (pa_cons (pv 1) (pa_cons (pe_bltn (v := .ty "list") (by rfl) T.list PyProof.Rows.boot_list rfl) pa_nil))) (nomark _))
          (pw_or1 (pt_cmpR op_ne (pe_callB call_isi (by rfl) T.isi PyProof.Rows.boot_isinstance (pa_cons (pv 0) (pa_cons (pe_bltn (v := .ty "tuple") (by rfl) T.tuple PyProof.Rows.boot_tuple rfl) pa_nil)))
            (pe_callB call_isi (by rfl) T.isi PyProof.Rows.boot_isinstance (pa_cons (pv 1) (pa_cons (pe_bltn (v := .ty "tuple") (by rfl) T.tuple PyProof.Rows.boot_tuple rfl) pa_nil))) (nomark _)))))
        (pss_one (ps_ret pe_bl)) pss_nil)
      (pss_cons (ps_if (pt_cmpR op_ne (pe_callB call_len_seq (by rfl) T.len PySem.boot_len (pa_cons (pv 0) pa_nil)) (pe_callB call_len_seq (by rfl) T.len PySem.boot_len (pa_cons (pv 1) pa_nil)) (nomark _))
        (pss_one (ps_ret pe_bl)) pss_nil)
      (pss_one (ps_ret (pe_cmpR (op_eqD hr.units)
        (pe_lc (own := [("_law_k", 2)]) (g := gName 2) rfl scRowIs.nd (pi_range1 rfl T.range (pa_cons (pe_callB call_len_seq (by rfl) T.len PySem.boot_len (pa_cons (pv 1) pa_nil)) pa_nil))
          (blkOk_by (own := [("_law_k", 2)]) (N := ["_law_found", "_law_due", "_law_k"]) (sc := defScope sRowIs) (by decide +kernel))
          (fun _ _ _ _ _ => pg_name (i := 2) scRowIs.nd rfl (Or.inl rfl))
          (fun _ _ _ _ _ => pts_one (pt_not (pt_val (pe_call GI hr (by rfl) gI FI.kp bI .nil pass0 (pa_cons (pe_ix (r := rIxT K) ix_tup (pv 0) (pv 2) (fun _ _ => rfl)) (pa_cons (pe_ix (r := rIxT K) ix_tup (pv 1) (pv 2) (fun _ _ => rfl)) pa_nil))))))
          (fun _ _ _ _ _ => pv 2))
        (pe_lst pa_nil) (nomark _))))), ?_⟩
    -- the kinds are alike
    refine ⟨_, rfl, _, _, _, _, false, rfl, .ty "list", .base (.tup ha), kit_ty (by decide +kernel), _, rfl, _, _, _, _, false, rfl, .ty "list", .base (.tup hb), kit_ty (by decide +kernel), rfl, _, rfl, iteF ?_⟩
    refine ⟨_, rfl, _, _, _, _, true, rfl, .ty "tuple", .base (.tup ha), kit_ty (by decide +kernel), _, rfl, _, _, _, _, true, rfl, .ty "tuple", .base (.tup hb), kit_ty (by decide +kernel), rfl, _, rfl, iteF ?_⟩
    -- the lengths
    refine ⟨_, rfl, a, _, rfl, .inr (SqT.of ha), _, rfl, b, _, rfl, .inr (SqT.of hb), rfl, _, rfl, iteF ?_⟩
    -- the rows
    refine ⟨_, rfl, b, _, rfl, .inr (SqT.of hb), 2, rfl, by decide, by decide, fun D hD => ?_⟩
    refine lc_range (lo := 0) (n := 2) (fun i H' => Same H H' ∧ H' D = some (.lst [])) ⟨Same.new hD, upd_same⟩ ?_ ?_
    · rintro i H' hi ⟨sm, eD⟩
      obtain ⟨u, hu⟩ : ∃ u : Int, ([.int y, .int z] : List V)[i]? = some (.int u) := by
        match i, hi with
        | 0, _ => exact ⟨y, rfl⟩
        | 1, _ => exact ⟨z, rfl⟩
      refine ⟨rfl, ?_⟩
      refine ⟨_, rfl, _, rfl, a, _, _, _, rfl, rfl, SqT.of (sm _ _ ha), at_of (j := i) (by omega) hu, _, rfl, _, rfl, b, _, _, _, rfl, rfl, SqT.of (sm _ _ hb), at_of (j := i) (by omega) hu, u, rfl, ?_⟩
      exact ⟨true, rfl, iteF ⟨sm, eD⟩⟩
    · rintro H' ⟨sm, eD⟩
      refine ⟨Nat.zero_le _, fun l hl => ?_⟩
      refine ⟨.list [], .list [], .lst (SqL.of (Same.new hl _ _ eD)) .nil, .lst (SqL.of upd_same) .nil, rfl, rfl, ?_⟩
      exact k _ (sm.trans (Same.new hl))
end
end K13
-- K13Cal
/-! The calendar. -/
namespace K13
open PySem L2
def spInit (C : Addr) : Sp := fun vs H Q _ => ∃ (x dx a : Addr) (ns : List Int), vs = [.ref x, .ref a] ∧ H x = some (.ins C dx []) ∧ H a = some (.lst (ns.map V.int)) ∧ Good ns ∧
  ∀ (dx' l b : Addr) (H' : Hp), H' x = some (.ins C dx' (cf l b ns.sum)) → H' l = some (.lst (ns.map V.int)) → H' b = some (.lst ((List.range ns.length).map fun i => V.int (bg ns i))) → H l = none → H b = none →
    (∀ c o, H c = some o → c ≠ x → H' c = some o) → Q .non H'
def spFirst (C : Addr) : Sp := fun vs H Q _ => ∃ (x : Addr) (ns : List Int) (y : Int), vs = [.ref x, .int y] ∧ CalAt C H x ns ∧ Good ns ∧ 0 ≤ y ∧ ∀ H', Same H H' → Q (.int (firstOf ns y)) H'
def spAt (C : Addr) : Sp := fun vs H Q _ => ∃ (x : Addr) (ns : List Int) (d : Int), vs = [.ref x, .int d] ∧ CalAt C H x ns ∧ Good ns ∧ 0 ≤ d ∧
  ∀ (t : Addr) (H' : Hp), Same H H' → H' t = some (.tup [.int (atY ns d), .int (atP ns d)]) → Q (.ref t) H'
section
variable {P : Program} {w : World} {K : PySem.W.Frag} {mg : Str → Option Value} {base : Heap}
theorem scInit : FnScope ["self", "years", "days"] ["self", "years"] (defScope sInit) := ⟨rfl, rfl, rfl, by decide +kernel, rfl, by decide +kernel, by decide +kernel⟩
theorem putL (l : Addr) : putF "lengths" (.ref l) [] = ([("lengths", V.ref l)] : List (Str × V)) := rfl
theorem putB_len (l b : Addr) : (putF "begins" (.ref b) (putF "lengths" (.ref l) [])).length < 1000 := by
  have h1 := length_putF "begins" (.ref b) (putF "lengths" (.ref l) [])
  have h2 := length_putF "lengths" (.ref l) []
  have h3 : ([] : List (Str × V)).length = 0 := rfl
  omega
theorem putL_len (l : Addr) : (putF "lengths" (.ref l) []).length < 1000 := by
  show 1 < 1000
  decide
theorem ok_init {f fA fN C : Addr} {fd fdA fdN : FuncData} (F : Fun K "__init__" "Calendar.__init__" sInit f fd) (T : Txt K mg C) (FA : Fun K "are_numbers" "are_numbers" sAreNums fA fdA) (bA : Binds K fdA ["thing", "long", "least", "most"] []) (gA : mg "are_numbers" = some (.ref fA))
    (FN : Fun K "is_number" "is_number" sIsNum fN fdN) (bN : Binds K fdN ["thing", "least", "most"] []) (gN : mg "is_number" = some (.ref fN)) : FnOk P w K mg base CX0 3 f fd ["self", "years"] (spInit C) := by
  have GA : FnOk P w K mg base CX0 2 fA fdA ["thing", "long", "least", "most"] spAreNums := ok_arenums FA T FN bN gN
  refine F.ok scInit (fun vs H Q E h => ?_) (fun cdv A outer s H vs Q E hr h => ?_)
  · obtain ⟨x, dx, a, ns, rfl, _⟩ := h
    rfl
  · obtain ⟨x, dx, a, ns, rfl, hx, ha, g, k⟩ := h
    refine ⟨_,
      pss_cons (ps_if (pt_not (pt_val (pe_call GA hr (by rfl) gA FA.kp bA .nil pass0 (pa_cons (pv 1) (pa_cons pe_int (pa_cons pe_int (pa_cons pe_int pa_nil))))))) (pss_one ps_never) pss_nil)
      (pss_cons (ps_fld (pv 0) (pe_callTy call_list_of (by rfl) T.list PyProof.Rows.boot_list (pa_cons (pv 1) pa_nil)) rfl)
      (pss_cons (ps_fld (pv 0) (pe_lst pa_nil) rfl)
      (pss_cons (ps_fld (pv 0) pe_int rfl)
      (pss_one (ps_for PassesOwn.never rfl (pi_list (pe_fld (pv 0) rfl)) (pg_name (i := 2) scInit.nd rfl (.inl rfl))
        (pss_cons (ps_expr (pe_bm PySem.F.plainAttrs_list PySem.F.slot_list_append PySem.F.type_list_append mt_append (pe_fld (pv 0) rfl) (pa_cons (pe_fld (pv 0) rfl) pa_nil)))
          (pss_one (ps_fldaug (pv 0) (pv 2) in_add)))))))), ?_⟩
    refine ⟨_, rfl, a, ns, rfl, ha, g, fun H1 s1 => ⟨true, rfl, iteF ?_⟩⟩
    have hx1 := s1 _ _ hx
    have ha1 := s1 _ _ ha
    -- self.lengths = list(years)
    refine ⟨_, rfl, a, _, rfl, .inl (SqL.of ha1), fun l hl => ?_⟩
    have xl : x ≠ l := ne_of_none hx1 hl
    refine ⟨_, rfl, x, C, dx, _, rfl, (by rw [upd_ne xl]; exact hx1), T.cl, T.nL, (by show 0 < 1000; decide), ?_⟩
    -- self.begins = []
    refine ⟨Nat.zero_le _, fun b hb => ?_⟩
    have xb : x ≠ b := fun e => by
      rw [← e, upd_same] at hb
      cases hb
    have hb2 : (upd H1 l (.lst (ns.map V.int))) b = none := by
      rw [upd_ne xb.symm] at hb
      exact hb
    have lb : l ≠ b := ne_of_none upd_same hb2
    have hb1 : H1 b = none := (Same.new hl).free hb2
    refine ⟨_, rfl, x, C, dx, _, rfl, Eq.trans (upd_ne xb) upd_same, T.cl, T.nB, putL_len l, ?_⟩
    -- self.whole = 0
    refine ⟨_, rfl, x, C, dx, _, rfl, upd_same, T.cl, T.nW, putB_len l b, ?_⟩
    -- the loop
    refine ⟨_, rfl, x, C, dx, _, _, rfl, upd_same, T.cl, T.nL, cf_l l b 0, l, rfl, ⟨ns.map V.int, SqL.of ?_⟩, for_list (K := K) (a := l) (xs := ns.map V.int)
      (fun i σ H' => ∃ y, σ = [some (.ref x), some (.ref a), y] ∧ H' x = some (.ins C dx (cf l b (bg ns i))) ∧ H' l = some (.lst (ns.map V.int)) ∧ H' b = some (.lst ((List.range i).map fun j => V.int (bg ns j))) ∧ (∀ c o, H1 c = some o → c ≠ x → H' c = some o))
      ⟨none, rfl, ?_, ?_, ?_, ?_⟩ (fun i σ H' _ z => ?_) ?_ ?_⟩
    · rw [upd_ne xl.symm, upd_ne xl.symm, upd_ne lb, upd_ne xl.symm, upd_same]
    · exact upd_same
    · rw [upd_ne xl.symm, upd_ne xl.symm, upd_ne lb, upd_ne xl.symm, upd_same]
    · rw [upd_ne xb.symm, upd_ne xb.symm, upd_same]
      rfl
    · intro c o e hc
      rw [upd_ne hc, upd_ne hc, upd_ne (ne_of_none e hb1), upd_ne hc, upd_ne (ne_of_none e hl)]
      exact e
    · obtain ⟨y, _, _, eL, _⟩ := z
      exact SqL.of eL
    · rintro i v σ H' hi ⟨y, rfl, eX, eL, eB, sm⟩
      obtain ⟨z, hz, rfl⟩ := at_int hi
      have hi' : i < ns.length := (List.getElem?_eq_some_iff.mp hz).1
      have l2 := g.most
      have bx : b ≠ x := xb.symm
      -- self.begins.append(self.whole)
      refine ⟨_, rfl, x, C, dx, _, _, rfl, eX, T.cl, T.nB, cf_b l b _, .inl ⟨rfl, _, SqL.of eB⟩, _, rfl, x, C, dx, _, _, rfl, eX, T.cl, T.nW, cf_w l b _, b, _, _, rfl, rfl, eB, (by rw [List.length_map, List.length_range]; exact small1000 (by omega)), ?_⟩
      have eX2 : (upd H' b (.lst (((List.range i).map fun j => V.int (bg ns j)) ++ [V.int (bg ns i)]))) x = some (.ins C dx (cf l b (bg ns i))) := by
        rw [upd_ne xb]
        exact eX
      -- self.whole += days
      refine ⟨_, rfl, x, C, dx, _, _, rfl, eX2, T.cl, T.nW, cf_w l b _, _, rfl, _, _, rfl, rfl, dx, _, eX2, cf_len l b _, ?_⟩
      refine ⟨_, rfl, ?_, ?_, ?_, ?_⟩
      · rw [upd_same, cf_put, bg_succ hi', List.getD_eq_getElem?_getD, hz]
        rfl
      · rw [upd_ne xl.symm, upd_ne lb]
        exact eL
      · rw [upd_ne bx, upd_same, List.range_succ, List.map_append]
        rfl
      · intro c o e hc
        rw [upd_ne hc, upd_ne (ne_of_none e hb1)]
        exact sm c o e hc
    · rintro σ H' ⟨y, rfl, eX, eL, eB, sm⟩
      rw [List.length_map] at eX eB
      rw [bg_all (Nat.le_refl _)] at eX
      exact k dx l b H' eX eL eB (s1.free hl) (s1.free hb1) fun c o e hc => sm c o (s1 c o e) hc
theorem scFirst : FnScope ["self", "year", "turns", "place"] ["self", "year"] (defScope sFirst) := ⟨rfl, rfl, rfl, by decide +kernel, rfl, by decide +kernel, by decide +kernel⟩
theorem ok_first {f fD C : Addr} {fd fdD : FuncData} (F : Fun K "first" "Calendar.first" sFirst f fd) (T : Txt K mg C) (FD : Fun K "need_day" "need_day" sNeed fD fdD) (bD : Binds K fdD ["number"] []) (gD : mg "need_day" = some (.ref fD)) :
    FnOk P w K mg base CX0 2 f fd ["self", "year"] (spFirst C) := by
  have GD : FnOk P w K mg base CX0 1 fD fdD ["number"] spNeed := ok_need FD
  refine F.ok scFirst (fun vs H Q E h => ?_) (fun cdv A outer s H vs Q E hr h => ?_)
  · obtain ⟨x, ns, y, rfl, _⟩ := h
    rfl
  · obtain ⟨x, ns, y, rfl, c, g, h0, k⟩ := h
    obtain ⟨dx, l, b, hx, hl, hb⟩ := c.ex
    refine ⟨_,
      pss_cons (ps_expr (pe_call GD hr (by rfl) gD FD.kp bD .nil pass0 (pa_cons (pv 1) pa_nil)))
      (pss_cons (ps_asg (pe_callB call_divmod (by rfl) T.divmod PyProof.Rows.boot_divmod (pa_cons (pv 1) (pa_cons (pe_callB call_len_seq (by rfl) T.len PySem.boot_len (pa_cons (pe_fld (pv 0) rfl) pa_nil)) pa_nil)))
        (pg_tup rfl (pgs_cons (pg_name (i := 2) scFirst.nd rfl (.inl rfl)) (pgs_cons (pg_name (i := 3) scFirst.nd rfl (.inl rfl)) pgs_nil))))
      (pss_one (ps_ret (pe_op op_add (pe_op op_mul (pv 2) (pe_fld (pv 0) rfl)) (pe_ix ix_list (pe_fld (pv 0) rfl) (pv 3) (fun _ _ => rfl)))))), ?_⟩
    have l1 := g.one
    have l2 := g.most
    have l3 := g.sum
    refine ⟨_, rfl, y, rfl, h0, ?_⟩
    refine ⟨_, rfl, _, rfl, x, C, dx, _, _, rfl, hx, T.cl, T.nL, cf_l l b _, l, _, rfl, .inl (SqL.of hl), _, _, rfl, ⟨by rw [List.length_map]; omega, by rw [List.length_map]; omega⟩, fun t ht => ?_⟩
    rw [List.length_map]
    have sm : Same H (upd H t (.tup [.int (y / (ns.length : Int)), .int (y % (ns.length : Int))])) := Same.new ht
    refine ⟨t, _, rfl, SqT.of upd_same, rfl, _, _, rfl, _, _, rfl, rfl, ?_⟩
    refine ⟨_, rfl, _, rfl, x, C, dx, _, _, rfl, sm _ _ hx, T.cl, T.nW, cf_w l b _, _, _, rfl, rfl, .inr ⟨by omega, by omega⟩, _, rfl, x, C, dx, _, _, rfl, sm _ _ hx, T.cl, T.nB, cf_b l b _, _, rfl, b, _, _, _, rfl, rfl, SqL.of (sm _ _ hb),
      at_of (j := pl ns y) (pl_eq g y).symm (by rw [List.getElem?_map, List.getElem?_range (pl_lt g y)]; rfl), _, _, rfl, rfl, ?_⟩
    exact k _ sm
theorem scAt : FnScope ["self", "day", "turns", "left", "place", "begin"] ["self", "day"] (defScope sAt) := ⟨rfl, rfl, rfl, by decide +kernel, rfl, by decide +kernel, by decide +kernel⟩
/-- the begins that are not above d, as far as the walk has come -/
def upto (ns : List Int) (d : Int) (i : Nat) : List Int := ((List.range i).filter fun j => decide (bg ns j ≤ d)).map (bg ns)
theorem upto_succ (ns : List Int) (d : Int) (i : Nat) : upto ns d (i + 1) = if bg ns i ≤ d then upto ns d i ++ [bg ns i] else upto ns d i := by
  unfold upto
  rw [List.range_succ, List.filter_append, List.map_append]
  by_cases h : bg ns i ≤ d
  · rw [if_pos h, List.filter_cons_of_pos (by simpa using h)]
    rfl
  · rw [if_neg h, List.filter_cons_of_neg (by simpa using h)]
    simp
theorem upto_len (ns : List Int) (d : Int) : (upto ns d ns.length).length = cnt ns d := by
  unfold upto cnt
  rw [List.length_map]
theorem upto_le (ns : List Int) (d : Int) (i : Nat) : (upto ns d i).length ≤ i := by
  unfold upto
  rw [List.length_map]
  have := List.length_filter_le (fun j => decide (bg ns j ≤ d)) (List.range i)
  rw [List.length_range] at this
  exact this
theorem ok_at {f fD C : Addr} {fd fdD : FuncData} (F : Fun K "at" "Calendar.at" sAt f fd) (T : Txt K mg C) (FD : Fun K "need_day" "need_day" sNeed fD fdD) (bD : Binds K fdD ["number"] []) (gD : mg "need_day" = some (.ref fD)) :
    FnOk P w K mg base CX0 2 f fd ["self", "day"] (spAt C) := by
  have GD : FnOk P w K mg base CX0 1 fD fdD ["number"] spNeed := ok_need FD
  refine F.ok scAt (fun vs H Q E h => ?_) (fun cdv A outer s H vs Q E hr h => ?_)
  · obtain ⟨x, ns, y, rfl, _⟩ := h
    rfl
  · obtain ⟨x, ns, d, rfl, c, g, h0, k⟩ := h
    obtain ⟨dx, l, b, hx, hl, hb⟩ := c.ex
    refine ⟨_,
      pss_cons (ps_expr (pe_call GD hr (by rfl) gD FD.kp bD .nil pass0 (pa_cons (pv 1) pa_nil)))
      (pss_cons (ps_asg (pe_callB call_divmod (by rfl) T.divmod PyProof.Rows.boot_divmod (pa_cons (pv 1) (pa_cons (pe_fld (pv 0) rfl) pa_nil)))
        (pg_tup rfl (pgs_cons (pg_name (i := 2) scAt.nd rfl (.inl rfl)) (pgs_cons (pg_name (i := 3) scAt.nd rfl (.inr rfl)) pgs_nil))))
      (pss_cons (ps_set (i := 4) scAt.nd rfl (.inl rfl) (pe_op op_sub (pe_callB call_len_seq (by rfl) T.len PySem.boot_len (pa_cons
          (pe_lc (own := [("begin", 5)]) (g := gName 5) rfl scAt.nd (pi_list (pe_fld (pv 0) rfl))
            (blkOk_by (own := [("begin", 5)]) (N := ["self", "day", "turns", "left", "place", "begin"]) (sc := defScope sAt) (by decide +kernel))
            (fun _ _ _ _ _ => pg_name (i := 5) scAt.nd rfl (Or.inl rfl))
            (fun _ _ _ _ _ => pts_one (pt_cmpR op_le (pv 5) (pv 3) (nomark _)))
            (fun _ _ _ _ _ => pv 5)) pa_nil)) pe_int))
      (pss_one (ps_ret (pe_tup (pa_cons (pe_op op_add (pe_op op_mul (pv 2) (pe_callB call_len_seq (by rfl) T.len PySem.boot_len (pa_cons (pe_fld (pv 0) rfl) pa_nil))) (pv 4))
        (pa_cons (pe_op op_sub (pv 3) (pe_ix ix_list (pe_fld (pv 0) rfl) (pv 4) (fun _ _ => rfl))) pa_nil))))))), ?_⟩
    have l1 := g.one
    have l2 := g.most
    have l3 := g.sum
    refine ⟨_, rfl, d, rfl, h0, ?_⟩
    refine ⟨_, rfl, _, rfl, x, C, dx, _, _, rfl, hx, T.cl, T.nW, cf_w l b _, _, _, rfl, ⟨by omega, by omega⟩, fun t ht => ?_⟩
    have sm : Same H (upd H t (.tup [.int (d / ns.sum), .int (d % ns.sum)])) := Same.new ht
    have eT : (upd H t (.tup [.int (d / ns.sum), .int (d % ns.sum)])) t = some (.tup [.int (d / ns.sum), .int (d % ns.sum)]) := upd_same
    generalize upd H t (.tup [.int (d / ns.sum), .int (d % ns.sum)]) = H1 at sm eT
    have r0 : 0 ≤ d % ns.sum := Int.emod_nonneg _ (by omega)
    -- turns, left = ..
    refine ⟨t, _, rfl, SqT.of eT, rfl, _, _, rfl, _, _, rfl, rfl, ?_⟩
    -- place = len([..]) - 1
    refine ⟨_, rfl, x, C, dx, _, _, rfl, sm _ _ hx, T.cl, T.nB, cf_b l b _, b, rfl, ⟨_, SqL.of (sm _ _ hb)⟩, fun D hD => ?_⟩
    refine lc_list (K := K) (a := b) (xs := (List.range ns.length).map fun i => V.int (bg ns i)) (fun i H' => Same H1 H' ∧ H' D = some (.lst ((upto ns (d % ns.sum) i).map V.int))) ⟨Same.new hD, upd_same⟩ (fun i H' _ z => SqL.of (z.1 _ _ (sm _ _ hb))) ?_ ?_
    · rintro i v H' hi ⟨s2, eD⟩
      have hi' : i < ns.length := by
        have q := (List.getElem?_eq_some_iff.mp hi).1
        rw [List.length_map, List.length_range] at q
        exact q
      have ev : v = V.int (bg ns i) := by
        rw [List.getElem?_map, List.getElem?_range hi'] at hi
        exact (Option.some.inj hi).symm
      subst ev
      refine ⟨rfl, ?_⟩
      refine ⟨_, rfl, _, rfl, _, _, rfl, rfl, _, rfl, ite2 (fun e => ?_) (fun e => ?_)⟩
      · have e := of_decide_eq_true e
        refine ⟨_, rfl, _, eD, (by rw [List.length_map]; exact small1000 (by have := upto_le ns (d % ns.sum) i; omega)), fun c o e2 => ?_, ?_⟩
        · rw [upd_ne (ne_of_none e2 hD)]
          exact s2 c o e2
        · rw [upd_same, upto_succ, if_pos e, List.map_append]
          rfl
      · have e : ¬ bg ns i ≤ d % ns.sum := fun z => e (decide_eq_true z)
        refine ⟨s2, ?_⟩
        rw [upto_succ, if_neg e]
        exact eD
    · rintro H2 ⟨s2, eD⟩
      rw [List.length_map, List.length_range] at eD
      have hx2 := s2 _ _ (sm _ _ hx)
      have hl2 := s2 _ _ (sm _ _ hl)
      have hb2 := s2 _ _ (sm _ _ hb)
      refine ⟨D, _, rfl, .inl (SqL.of eD), _, _, rfl, rfl, ?_⟩
      rw [List.length_map, upto_len]
      have c1 := cnt_pos g r0
      have c2 := cnt_le ns (d % ns.sum)
      refine ⟨_, rfl, _, rfl, x, C, dx, _, _, rfl, hx2, T.cl, T.nL, cf_l l b _, l, _, rfl, .inl (SqL.of hl2), _, _, rfl, rfl, .inr ⟨by rw [List.length_map]; omega, by rw [List.length_map]; omega⟩, _, rfl, _, _, rfl, rfl,
        _, rfl, _, rfl, x, C, dx, _, _, rfl, hx2, T.cl, T.nB, cf_b l b _, _, rfl, b, _, _, _, rfl, rfl, SqL.of hb2,
        at_of (j := cnt ns (d % ns.sum) - 1) (by omega) (by rw [List.getElem?_map, List.getElem?_range (by omega)]; rfl), _, _, rfl, rfl, (by show 2 ≤ sizeLine; decide), fun t2 ht2 => ?_⟩
      refine k t2 _ ((sm.trans s2).trans (Same.new ht2)) ?_
      rw [upd_same, List.length_map]
      rfl
end
end K13
-- K13Walk
/-! The walk from day to day. -/
namespace K13
open PySem L2
/-- the k-th row of a walk from y, s on stands at a -/
def RowAt (H : Hp) (ns : List Int) (y s : Int) (k : Nat) (a : Addr) : Prop :=
  ∃ u v : Int, H a = some (.tup [.int u, .int v]) ∧ 0 ≤ u ∧ 0 ≤ v ∧ v < lenOf ns u ∧ firstOf ns u + v = firstOf ns y + s + k
theorem RowAt.same {H H' : Hp} {ns : List Int} {y s : Int} {k : Nat} {a : Addr} (r : RowAt H ns y s k a) (e : Same H H') : RowAt H' ns y s k a := by
  obtain ⟨u, v, h1, h2⟩ := r
  exact ⟨u, v, e _ _ h1, h2⟩
def spWalk (_K : PySem.W.Frag) : Sp := fun vs H Q _ => ∃ (l : Addr) (ns : List Int) (y s m : Int), vs = [.ref l, .int y, .int s, .int m] ∧ H l = some (.lst (ns.map V.int)) ∧ Good ns ∧ 0 ≤ y ∧ 0 ≤ s ∧ s < lenOf ns y ∧ 0 ≤ m ∧ m ≤ 100 ∧
  ∀ (t : Addr) (as : List Addr) (H' : Hp), Same H H' → H' t = some (.lst (as.map V.ref)) → as.length = m.toNat → (∀ (k : Nat) (a : Addr), as[k]? = some a → RowAt H' ns y s k a) → Q (.ref t) H'
section
variable {P : Program} {w : World} {K : PySem.W.Frag} {mg : Str → Option Value} {base : Heap}
theorem scWalk : FnScope ["_law_lengths_here", "_law_year", "_law_spot", "_law_many", "_law_found", "_law_k"] ["_law_lengths_here", "_law_year", "_law_spot", "_law_many"] (defScope sWalk) := ⟨rfl, rfl, rfl, by decide +kernel, rfl, by decide +kernel, by decide +kernel⟩
theorem ok_walk {f C : Addr} {fd : FuncData} (F : Fun K "_law_walk" "_law_walk" sWalk f fd) (T : Txt K mg C) : FnOk P w K mg base CX0 1 f fd ["_law_lengths_here", "_law_year", "_law_spot", "_law_many"] (spWalk K) := by
  refine F.ok scWalk (fun vs H Q E h => ?_) (fun cdv A outer s H vs Q E hr h => ?_)
  · obtain ⟨l, ns, y, z, m, rfl, _⟩ := h
    rfl
  · obtain ⟨l, ns, y, z, m, rfl, hl, g, y0, z0, z1, m0, m1, k⟩ := h
    refine ⟨_,
      pss_cons (ps_set (i := 4) scWalk.nd rfl (.inl rfl) (pe_lst pa_nil))
      (pss_cons (ps_for PassesOwn.never rfl (pi_range1 rfl T.range (pa_cons (pv 3) pa_nil)) (pg_name (i := 5) scWalk.nd rfl (.inl rfl))
        (pss_cons (ps_expr (pe_bm PySem.F.plainAttrs_list PySem.F.slot_list_append PySem.F.type_list_append mt_append (pv 4) (pa_cons (pe_tup (pa_cons (pv 1) (pa_cons (pv 2) pa_nil))) pa_nil)))
        (pss_cons (ps_aug (i := 2) scWalk.nd rfl (.inl rfl) pe_int ip_add)
        (pss_one (ps_if (pt_cmpR op_eq (pv 2) (pe_ix ix_list (pv 0) (pe_op op_mod (pv 1) (pe_callB call_len_seq (by rfl) T.len PySem.boot_len (pa_cons (pv 0) pa_nil))) (fun _ _ => rfl)) (nomark _))
          (pss_one (ps_par rfl scWalk.nd (i := 1) (j := 2) rfl rfl (by decide) rfl rfl (pa_cons (pe_op op_add (pv 1) pe_int) (pa_cons pe_int pa_nil)) (by rfl))) pss_nil)))))
      (pss_one (ps_ret (pv 4)))), ?_⟩
    have l1 := g.one
    -- found = []
    refine ⟨Nat.zero_le _, fun t ht => ?_⟩
    refine ⟨_, rfl, m, rfl, by omega, by omega, for_range (n := m.toNat) (fun i σ H' => ∃ (u v : Int) (x : Option V) (as : List Addr), σ = [some (.ref l), some (.int u), some (.int v), some (.int m), some (.ref t), x] ∧ Same H H' ∧
        H' t = some (.lst (as.map V.ref)) ∧ as.length = i ∧ 0 ≤ u ∧ 0 ≤ v ∧ v < lenOf ns u ∧ firstOf ns u + v = firstOf ns y + z + i ∧ ∀ (k : Nat) (a : Addr), as[k]? = some a → RowAt H' ns y z k a)
      ⟨y, z, none, [], rfl, Same.new ht, upd_same, rfl, y0, z0, z1, by omega, fun k a e => by simp at e⟩ ?_ ?_⟩
    · rintro i σ H' hi ⟨u, v, x, as, rfl, sm, et, el, u0, v0, v1, ed, hr'⟩
      -- found.append((year, spot))
      refine ⟨_, rfl, .inl ⟨rfl, _, SqL.of et⟩, _, rfl, _, rfl, (by show 2 ≤ sizeLine; decide), fun r hrn => ?_⟩
      have tr : t ≠ r := ne_of_none et hrn
      refine ⟨t, _, _, rfl, rfl, Eq.trans (upd_ne tr) et, (by rw [List.length_map]; exact small1000 (by omega)), ?_⟩
      have s2 : Same H (upd (upd H' r (.tup [.int u, .int v])) t (.lst (as.map V.ref ++ [.ref r]))) := fun c o e => by
        rw [upd_ne (ne_of_none e ht), upd_ne (ne_of_none (sm _ _ e) hrn)]
        exact sm _ _ e
      have et2 : (upd (upd H' r (.tup [.int u, .int v])) t (.lst (as.map V.ref ++ [.ref r]))) t = some (.lst ((as ++ [r]).map V.ref)) := by
        rw [upd_same, List.map_append]
        rfl
      have el2 : (as ++ [r]).length = i + 1 := by
        rw [List.length_append, el]
        rfl
      have hr2 : ∀ (k : Nat) (a : Addr), (as ++ [r])[k]? = some a → RowAt (upd (upd H' r (.tup [.int u, .int v])) t (.lst (as.map V.ref ++ [.ref r]))) ns y z k a := by
        intro k a e
        by_cases hk : k < as.length
        · rw [List.getElem?_append_left hk] at e
          obtain ⟨u', v', h1, h2⟩ := hr' k a e
          have ar : a ≠ r := ne_of_none h1 hrn
          have at' : a ≠ t := ne_of h1 et (by intro q; cases q)
          exact ⟨u', v', by rw [upd_ne at', upd_ne ar]; exact h1, h2⟩
        · have hk2 : k < (as ++ [r]).length := (List.getElem?_eq_some_iff.mp e).1
          have ek : k = as.length := by omega
          subst ek
          rw [List.getElem?_concat_length] at e
          have ea : r = a := Option.some.inj e
          subst ea
          exact ⟨u, v, by rw [upd_ne tr.symm]; exact upd_same, u0, v0, v1, by rw [ed, el]⟩
      generalize upd (upd H' r (.tup [.int u, .int v])) t (.lst (as.map V.ref ++ [.ref r])) = H3 at s2 et2 hr2
      -- spot += 1
      refine ⟨_, rfl, _, _, rfl, rfl, ?_⟩
      -- if spot == lengths[year % len(lengths)]
      have hl3 := s2 _ _ hl
      refine ⟨_, rfl, _, rfl, _, rfl, _, rfl, l, _, rfl, .inl (SqL.of hl3), _, _, rfl, rfl, (by show (0 : Int) < _; rw [List.length_map]; omega), l, _, _, _, rfl, rfl, SqL.of hl3,
        at_of (j := pl ns u) (by rw [List.length_map]; exact (pl_eq g u).symm) (int_at (len_get g u)), rfl, _, rfl, ite2 (fun e => ?_) (fun e => ?_)⟩
      · have e : v + 1 = lenOf ns u := V.int.inj (of_decide_eq_true e)
        refine ⟨_, rfl, _, _, rfl, rfl, _, _, rfl, ?_⟩
        have hf := first_succ g u
        have hp := len_pos g (u + 1)
        exact ⟨u + 1, 0, _, as ++ [r], rfl, s2, et2, el2, by omega, by omega, by omega, by omega, hr2⟩
      · have e : v + 1 ≠ lenOf ns u := fun q => e (decide_eq_true (congrArg V.int q))
        exact ⟨u, v + 1, _, as ++ [r], rfl, s2, et2, el2, by omega, by omega, by omega, by omega, hr2⟩
    · rintro σ H' ⟨u, v, x, as, rfl, sm, et, el, u0, v0, v1, ed, hr'⟩
      exact ⟨_, rfl, k t as H' sm et el hr'⟩
end
end K13
-- K13Law
/-! The law. -/
namespace K13
open PySem L2
/-! ### what stands through the whole run -/
structure Stage (C : Addr) (H : Hp) (p q l x : Addr) (ns : List Int) : Prop where
  l_ : H l = some (.lst (ns.map V.int)) ∧ l ≠ p ∧ l ≠ q
  c_ : ∃ dx lc b, (H x = some (.ins C dx (cf lc b ns.sum)) ∧ x ≠ p ∧ x ≠ q) ∧ (H lc = some (.lst (ns.map V.int)) ∧ lc ≠ p ∧ lc ≠ q) ∧ (H b = some (.lst ((List.range ns.length).map fun i => V.int (bg ns i))) ∧ b ≠ p ∧ b ≠ q)
theorem Stage.but {C : Addr} {H H' : Hp} {p q l x : Addr} {ns : List Int} (w : Stage C H p q l x ns) (e : But H H' p q) : Stage C H' p q l x ns := by
  obtain ⟨⟨h1, h2, h3⟩, dx, lc, b, ⟨c1, c2, c3⟩, ⟨d1, d2, d3⟩, b1, b2, b3⟩ := w
  exact ⟨⟨e _ _ h1 h2 h3, h2, h3⟩, dx, lc, b, ⟨e _ _ c1 c2 c3, c2, c3⟩, ⟨e _ _ d1 d2 d3, d2, d3⟩, e _ _ b1 b2 b3, b2, b3⟩
theorem Stage.same {C : Addr} {H H' : Hp} {p q l x : Addr} {ns : List Int} (w : Stage C H p q l x ns) (e : Same H H') : Stage C H' p q l x ns := w.but (But.of e)
theorem Stage.cal {C : Addr} {H : Hp} {p q l x : Addr} {ns : List Int} (w : Stage C H p q l x ns) : CalAt C H x ns := by
  obtain ⟨dx, lc, b, ⟨c1, _⟩, ⟨d1, _⟩, b1, _⟩ := w.c_
  exact ⟨dx, lc, b, c1, d1, b1⟩
theorem Stage.ins {C : Addr} {H : Hp} {p q l x : Addr} {ns : List Int} (w : Stage C H p q l x ns) : ∃ dx lc b, H x = some (.ins C dx (cf lc b ns.sum)) := by
  obtain ⟨dx, lc, b, ⟨c1, _⟩, _⟩ := w.c_
  exact ⟨dx, lc, b, c1⟩
theorem seq_but {K : PySem.W.Frag} {H H' : Hp} {p q a : Addr} {xs : List V} (h : SqL K H a xs) (hp : H p = none) (hq : H q = none) (e : But H H' p q) : SqL K H' a xs := by
  rcases h with (h | ⟨o, h⟩) | h
  · exact .inl (.inl (e _ _ h (ne_of_none h hp) (ne_of_none h hq)))
  · exact .inl (.inr ⟨o, e _ _ h (ne_of_none h hp) (ne_of_none h hq)⟩)
  · exact .inr h
theorem dp_ints {K : PySem.W.Frag} {H : Hp} : ∀ ns : List Int, DpAll K H (ns.map V.int) (ns.map PyData.int)
  | [] => .nil
  | z :: r => .cons (.int z) (dp_ints r)
theorem eqv_nil (ns : List Int) : PyData.eqv (.list (ns.map PyData.int)) (.list []) = ns.isEmpty := by
  cases ns with
  | nil => simp only [List.map_nil, PyData.eqv, PyData.eqvAll, List.isEmpty_nil]
  | cons z r => simp only [List.map_cons, PyData.eqv, PyData.eqvAll, List.isEmpty_cons]
/-- list(script) if script != [] else [0] -/
theorem cells_if {K : PySem.W.Frag} {H : Hp} {Q : VK} {σ : St} {a : Addr} {ns : List Int} {r : List V → Hp → VK → Prop} (h0 : σ[0]? = some (some (.ref a))) (hS : SqL K H a (ns.map V.int)) (hl : ns.length ≤ 63)
    (hr : ∀ H' : Hp, SqL K H' a (ns.map V.int) → (∀ q : Addr, H' q = none → Q (.ref q) (upd H' q (.lst (ns.map V.int)))) → r [.ref a] H' Q)
    (h : ∀ (cs : List Int) (q : Addr) (H' : Hp), 1 ≤ cs.length → cs.length ≤ 63 → Same H H' → H' q = none → Q (.ref q) (upd H' q (.lst (cs.map V.int)))) :
    tIf (tTest (tOp (rNeD K) (tVar 0) (tLst tNil))) (tCB r (tCons (tVar 0) tNil)) (tLst (tCons (tC (.int 0)) tNil)) σ H Q := by
  refine ⟨_, h0, Nat.zero_le _, fun e he => ?_⟩
  have s1 : Same H (upd H e (.lst [])) := Same.new he
  refine ⟨.list (ns.map PyData.int), .list [], .lst (s1.seq hS) (dp_ints ns), .lst (SqL.of upd_same) .nil, PySem.W.shaped_ints ns, rfl, _, rfl, ?_⟩
  rw [eqv_nil]
  cases ns with
  | nil =>
    refine iteF ?_
    refine ⟨(by show 1 ≤ sizeLine; decide), fun q hq => ?_⟩
    exact h [0] q _ (by decide) (by decide) s1 hq
  | cons z t =>
    refine iteT ?_
    refine ⟨_, h0, hr _ (s1.seq hS) fun q hq => ?_⟩
    exact h (z :: t) q _ (by simp) hl s1 hq
theorem mm_lo (n : Int) : -(2 ^ 62) ≤ (if (if n < 20 then n else 20) > (1 : Int) then (if n < 20 then n else 20) else 1) := by
  split <;> (try split) <;> omega
theorem mm_hi (n : Int) : (if (if n < 20 then n else 20) > (1 : Int) then (if n < 20 then n else 20) else 1) < 2 ^ 62 := by
  split <;> (try split) <;> omega
theorem mm_n (n : Int) : (if (if n < 20 then n else 20) > (1 : Int) then (if n < 20 then n else 20) else 1).toNat ≤ 20 := by
  split <;> (try split) <;> omega
/-- xs[:place] -/
theorem cut_take {ns : List Int} (g : Good ns) (y : Int) : cutV (ns.map V.int) none (some (y % (((ns.map V.int).length : Nat) : Int))) = (ns.take (pl ns y)).map V.int := by
  have hp := pl_lt g y
  have e : y % (((ns.map V.int).length : Nat) : Int) = ((pl ns y : Nat) : Int) := by
    rw [List.length_map]
    exact (pl_eq g y).symm
  rw [e]
  unfold cutV
  rw [HT.sIx_none, HT.sIx_nat, List.length_map, Nat.min_eq_left (by omega), List.map_take]
  rfl
/-! ### the defs as they stand -/
structure Fn (K : PySem.W.Frag) (mg : Str → Option Value) (x : Str) (st : Stmt) (f : Addr) (fd : FuncData) (ps : List Str) : Prop where
  F : Fun K x x st f fd
  b : Binds K fd ps []
  g : mg x = some (.ref f)
structure Mt (K : PySem.W.Frag) (C : Addr) (m qual : Str) (st : Stmt) (f : Addr) (fd : FuncData) (ps : List Str) : Prop where
  F : Fun K m qual st f fd
  b : Binds K fd ps []
  me : Meth K C m f
def spLaw (K : PySem.W.Frag) : Sp := fun vs H Q _ => ∃ (a : Addr) (ns : List Int), vs = [.ref a] ∧ SqL K H a (ns.map V.int) ∧ ns.length ≤ 63 ∧ ∀ H', Q (.bl true) H'
section
variable {P : Program} {w : PySem.World} {K : PySem.W.Frag} {mg : Str → Option Value} {base : Heap}
theorem scLaw : FnScope ["_law_script", "_law_hold", "_law_lengths_here", "_law_calendar", "_law_k", "_law_year", "_law_days", "_law_spot", "_law_walk_here", "_law_turns", "_law_place", "_law_day", "_law_at"] ["_law_script"] (defScope sLaw) := ⟨rfl, rfl, rfl, by decide +kernel, rfl, by decide +kernel, by decide +kernel⟩
end
end K13
-- K13Main
/-! The law's body. -/
namespace K13
open PySem L2
section
variable {P : Program} {w : World} {K : PySem.W.Frag} {mg : Str → Option Value} {base : Heap}
theorem ok_law {f C fD fF fL fI fA fN fX fW fS fR fB fT : Addr} {fd dD dF dL dI dA dN dX dW dS dR dB dT : FuncData} (F : Fun K "law" "law" sLaw f fd) (T : Txt K mg C)
    (D : Fn K mg "_law_draw" sDraw fD dD ["_law_hold", "_law_many"]) (FA : Fn K mg "_law_far" sFar fF dF ["_law_hold"]) (LE : Fn K mg "_law_lengths" sLengths fL dL ["_law_hold", "_law_most", "_law_many"])
    (IS : Fn K mg "_law_is" sIs fS dS ["_law_found", "_law_due"]) (RI : Fn K mg "_law_row_is" sRowIs fR dR ["_law_found", "_law_due"]) (WA : Fn K mg "_law_walk" sWalk fW dW ["_law_lengths_here", "_law_year", "_law_spot", "_law_many"])
    (AN : Fn K mg "are_numbers" sAreNums fA dA ["thing", "long", "least", "most"]) (IN : Fn K mg "is_number" sIsNum fN dN ["thing", "least", "most"]) (ND : Fn K mg "need_day" sNeed fX dX ["number"])
    (MC : Mk K C fI) (FI : Fun K "__init__" "Calendar.__init__" sInit fI dI) (bI : Binds K dI ["self", "years"] [])
    (FB : Mt K C "first" "Calendar.first" sFirst fB dB ["self", "year"]) (TA : Mt K C "at" "Calendar.at" sAt fT dT ["self", "day"]) : FnOk P w K mg base CX0 5 f fd ["_law_script"] (spLaw K) := by
  have GD : FnOk P w K mg base CX0 1 fD dD ["_law_hold", "_law_many"] spDraw := ok_draw D.F T
  have GF : FnOk P w K mg base CX0 2 fF dF ["_law_hold"] spFar := ok_far FA.F T D.F D.b D.g
  have GL : FnOk P w K mg base CX0 2 fL dL ["_law_hold", "_law_most", "_law_many"] spLengths := ok_lengths LE.F T D.F D.b D.g
  have GS : FnOk P w K mg base CX0 1 fS dS ["_law_found", "_law_due"] spIs := ok_is IS.F T
  have GR : FnOk P w K mg base CX0 2 fR dR ["_law_found", "_law_due"] spRowIs := ok_rowis RI.F T IS.F IS.b IS.g
  have GW : FnOk P w K mg base CX0 1 fW dW ["_law_lengths_here", "_law_year", "_law_spot", "_law_many"] (spWalk K) := ok_walk WA.F T
  have GI : FnOk P w K mg base CX0 3 fI dI ["self", "years"] (spInit C) := ok_init FI T AN.F AN.b AN.g IN.F IN.b IN.g
  have GB : FnOk P w K mg base CX0 2 fB dB ["self", "year"] (spFirst C) := ok_first FB.F T ND.F ND.b ND.g
  have GT : FnOk P w K mg base CX0 2 fT dT ["self", "day"] (spAt C) := ok_at TA.F T ND.F ND.b ND.g
  refine F.ok scLaw (fun vs H Q E h => ?_) (fun cdv A outer s H vs Q E hr h => ?_)
  · obtain ⟨a, ns, rfl, _⟩ := h
    rfl
  · obtain ⟨a, sc, rfl, hS, hlen, k⟩ := h
    have hr1 : Room 1 _ := hr.mono (by decide)
    have hr2 : Room 2 _ := hr.mono (by decide)
    refine ⟨_,
      -- hold = [0, list(script) if script != [] else [0]]
      pss_cons (ps_set (i := 1) scLaw.nd rfl (.inl rfl) (pe_lst (pa_cons pe_int (pa_cons (pe_ifExp (pt_cmpR (op_neD hr.units) (pv 0) (pe_lst pa_nil) (nomark _))
        (pe_callTy call_list_of (by rfl) T.list PyProof.Rows.boot_list (pa_cons (pv 0) pa_nil)) (pe_lst (pa_cons pe_int pa_nil))) pa_nil))))
      -- lengths = _law_lengths(hold, 400, 20)
      (pss_cons (ps_set (i := 2) scLaw.nd rfl (.inl rfl) (pe_call GL hr2 (by rfl) LE.g LE.F.kp LE.b .nil pass0 (pa_cons (pv 1) (pa_cons pe_int (pa_cons pe_int pa_nil)))))
      -- calendar = Calendar(list(lengths))
      (pss_cons (ps_set (i := 3) scLaw.nd rfl (.inl rfl) (pe_make MC GI hr (by rfl) T.mgC bI .nil pass0 (pa_cons (pe_callTy call_list_of (by rfl) T.list PyProof.Rows.boot_list (pa_cons (pv 2) pa_nil)) pa_nil)))
      -- for k in range(max(1, min(20, len(script))))
      (pss_cons (ps_for PassesOwn.never rfl (pi_range1 rfl T.range (pa_cons (pe_callB (call_max2 rfl) (by rfl) T.max PyProof.Rows.boot_max (pa_cons pe_int (pa_cons (pe_callB (call_min2 rfl) (by rfl) T.min PyProof.Rows.boot_min (pa_cons pe_int
            (pa_cons (pe_callB call_len_seq (by rfl) T.len PySem.boot_len (pa_cons (pv 0) pa_nil)) pa_nil))) pa_nil))) pa_nil)) (pg_name (i := 4) scLaw.nd rfl (.inl rfl))
        -- year = _law_far(hold)
        (pss_cons (ps_set (i := 5) scLaw.nd rfl (.inl rfl) (pe_call GF hr2 (by rfl) FA.g FA.F.kp FA.b .nil pass0 (pa_cons (pv 1) pa_nil)))
        -- days = lengths[year % len(lengths)]
        (pss_cons (ps_set (i := 6) scLaw.nd rfl (.inl rfl) (pe_ix ix_list (pv 2) (pe_op op_mod (pv 5) (pe_callB call_len_seq (by rfl) T.len PySem.boot_len (pa_cons (pv 2) pa_nil))) (fun _ _ => rfl)))
        -- spot = [days - 1, max(days - 2, 0), draw(hold, days)][draw(hold, 3)]
        (pss_cons (ps_set (i := 7) scLaw.nd rfl (.inl rfl) (pe_ix ix_list (pe_lst (pa_cons (pe_op op_sub (pv 6) pe_int) (pa_cons (pe_callB (call_max2 rfl) (by rfl) T.max PyProof.Rows.boot_max (pa_cons (pe_op op_sub (pv 6) pe_int) (pa_cons pe_int pa_nil)))
            (pa_cons (pe_call GD hr1 (by rfl) D.g D.F.kp D.b .nil pass0 (pa_cons (pv 1) (pa_cons (pv 6) pa_nil))) pa_nil))))
            (pe_call GD hr1 (by rfl) D.g D.F.kp D.b .nil pass0 (pa_cons (pv 1) (pa_cons pe_int pa_nil))) (fun _ _ => rfl)))
        -- walk = _law_walk(lengths, year, spot, 2 + draw(hold, 7))
        (pss_cons (ps_set (i := 8) scLaw.nd rfl (.inl rfl) (pe_call GW hr1 (by rfl) WA.g WA.F.kp WA.b .nil pass0 (pa_cons (pv 2) (pa_cons (pv 5) (pa_cons (pv 7)
            (pa_cons (pe_op op_add pe_int (pe_call GD hr1 (by rfl) D.g D.F.kp D.b .nil pass0 (pa_cons (pv 1) (pa_cons pe_int pa_nil)))) pa_nil))))))
        -- turns, place = divmod(year, len(lengths))
        (pss_cons (ps_asg (pe_callB call_divmod (by rfl) T.divmod PyProof.Rows.boot_divmod (pa_cons (pv 5) (pa_cons (pe_callB call_len_seq (by rfl) T.len PySem.boot_len (pa_cons (pv 2) pa_nil)) pa_nil)))
            (pg_tup rfl (pgs_cons (pg_name (i := 9) scLaw.nd rfl (.inl rfl)) (pgs_cons (pg_name (i := 10) scLaw.nd rfl (.inl rfl)) pgs_nil))))
        -- day = turns * sum(lengths) + sum(lengths[:place]) + spot
        (pss_cons (ps_set (i := 11) scLaw.nd rfl (.inl rfl) (pe_op op_add (pe_op op_add (pe_op op_mul (pv 9) (pe_callB (cr_sum rfl) (by rfl) T.sum PyProof.Rows.boot_sum (pa_cons (pv 2) pa_nil)))
            (pe_callB (cr_sum rfl) (by rfl) T.sum PyProof.Rows.boot_sum (pa_cons (pe_slice sl_list (pv 2) po_none (po_some (pv 10))) pa_nil))) (pv 7)))
        -- forward
        (pss_cons (ps_for PassesOwn.never rfl (pi_range1 rfl T.range (pa_cons (pe_callB call_len_seq (by rfl) T.len PySem.boot_len (pa_cons (pv 8) pa_nil)) pa_nil)) (pg_name (i := 12) scLaw.nd rfl (.inl rfl))
          (pss_one (ps_if (pt_not (pt_val (pe_call GR hr2 (by rfl) RI.g RI.F.kp RI.b .nil pass0 (pa_cons (pe_meth (pv 3) T.cl TA.me GT hr2 TA.b .nil pass0 (pa_cons (pe_op op_add (pv 11) (pv 12)) pa_nil))
              (pa_cons (pe_ix ix_list (pv 8) (pv 12) (fun _ _ => rfl)) pa_nil))))) (pss_one (ps_ret pe_bl)) pss_nil)))
        -- back
        (pss_one (ps_for PassesOwn.never rfl (pi_range1 rfl T.range (pa_cons (pe_callB call_len_seq (by rfl) T.len PySem.boot_len (pa_cons (pv 8) pa_nil)) pa_nil)) (pg_name (i := 12) scLaw.nd rfl (.inl rfl))
          (pss_cons (ps_if (pt_not (pt_val (pe_call GR hr2 (by rfl) RI.g RI.F.kp RI.b .nil pass0 (pa_cons (pe_meth (pv 3) T.cl TA.me GT hr2 TA.b .nil pass0
                (pa_cons (pe_op op_sub (pe_op op_sub (pe_op op_add (pv 11) (pe_callB call_len_seq (by rfl) T.len PySem.boot_len (pa_cons (pv 8) pa_nil))) pe_int) (pv 12)) pa_nil))
              (pa_cons (pe_ix ix_list (pv 8) (pe_op op_sub (pe_op op_sub (pe_callB call_len_seq (by rfl) T.len PySem.boot_len (pa_cons (pv 8) pa_nil)) pe_int) (pv 12)) (fun _ _ => rfl)) pa_nil))))) (pss_one (ps_ret pe_bl)) pss_nil)
          (pss_one (ps_if (pt_not (pt_val (pe_call GS hr1 (by rfl) IS.g IS.F.kp IS.b .nil pass0 (pa_cons (pe_op op_add
                (pe_meth (pv 3) T.cl FB.me GB hr2 FB.b .nil pass0 (pa_cons (pe_ix ix_tup (pe_ix ix_list (pv 8) (pv 12) (fun _ _ => rfl)) pe_int (fun _ _ => rfl)) pa_nil))
                (pe_ix ix_tup (pe_ix ix_list (pv 8) (pv 12) (fun _ _ => rfl)) pe_int (fun _ _ => rfl)))
              (pa_cons (pe_op op_add (pv 11) (pv 12)) pa_nil))))) (pss_one (ps_ret pe_bl)) pss_nil)))))))))))))
      (pss_one (ps_ret pe_bl))))), ?_⟩
    -- hold
    show tIf _ _ _ _ _ _
    refine cells_if rfl hS hlen (fun H' e1 e2 => ⟨a, _, rfl, .inl e1, e2⟩) fun cs q Hq c1 c2 sq hq => ?_
    refine ⟨(by show 2 ≤ sizeLine; decide), fun p hp => ?_⟩
    have pq : q ≠ p := ne_of_none upd_same hp
    have hpq : Hq p = none := (Same.new hq).free hp
    have hp0 : H p = none := sq.free hpq
    have hq0 : H q = none := sq.free hq
    have s1 : Same H (upd (upd Hq q (.lst (cs.map V.int))) p (.lst [.int 0, .ref q])) := (sq.trans (Same.new hq)).trans (Same.new hp)
    have h1 : Hold (upd (upd Hq q (.lst (cs.map V.int))) p (.lst [.int 0, .ref q])) p q 0 := ⟨⟨cs, upd_same, by rw [upd_ne pq]; exact upd_same, c1, c2⟩, by decide⟩
    generalize upd (upd Hq q (.lst (cs.map V.int))) p (.lst [.int 0, .ref q]) = H1 at s1 h1
    -- lengths
    refine ⟨_, rfl, p, q, 0, rfl, h1, by decide, fun l ns n1 H2 g hl hl0 n1a n1b h2 b2 => ?_⟩
    have lp : l ≠ p := let ⟨_, e⟩ := h1.at1; (ne_of_none e hl0).symm
    have lq : l ≠ q := let ⟨_, e⟩ := h1.at2; (ne_of_none e hl0).symm
    -- calendar
    refine ⟨_, rfl, l, _, rfl, .inl (SqL.of hl), fun a2 ha2 => fun x dx nx ndx nex => ?_⟩
    have s3 : Same H2 (upd H2 a2 (.lst (ns.map V.int))) := Same.new ha2
    have e2 : (upd H2 a2 (.lst (ns.map V.int))) a2 = some (.lst (ns.map V.int)) := upd_same
    generalize upd H2 a2 (.lst (ns.map V.int)) = H3 at s3 e2 nx ndx
    have s4 : Same H3 (upd (upd H3 dx (.own x)) x (.ins C dx [])) := fun b o e => by
      rw [upd_ne (ne_of_none e nx), upd_ne (ne_of_none e ndx)]
      exact e
    refine ⟨x, dx, a2, ns, rfl, upd_same, s4 _ _ e2, g, fun dx' lc b H4 eX eL eB lc0 b0 kp => ⟨rfl, ?_⟩⟩
    have s5 : Same H3 H4 := Same.made nx ndx kp
    have b4 : But H H4 p q := ((But.of s1).trans b2).trans (But.of (s3.trans s5))
    have h4 : Hold H4 p q n1 := h2.same (s3.trans s5)
    have W4 : Stage C H4 p q l x ns := by
      have q1 : ∃ o, H3 p = some o := let ⟨_, e⟩ := h2.at1; ⟨_, s3 _ _ e⟩
      have q2 : ∃ o, H3 q = some o := let ⟨_, e⟩ := h2.at2; ⟨_, s3 _ _ e⟩
      obtain ⟨o1, q1⟩ := q1
      obtain ⟨o2, q2⟩ := q2
      exact ⟨⟨s5 _ _ (s3 _ _ hl), lp, lq⟩, dx', lc, b, ⟨eX, (ne_of_none q1 nx).symm, (ne_of_none q2 nx).symm⟩, ⟨eL, (ne_of_none (s4 _ _ q1) lc0).symm, (ne_of_none (s4 _ _ q2) lc0).symm⟩, eB, (ne_of_none (s4 _ _ q1) b0).symm, (ne_of_none (s4 _ _ q2) b0).symm⟩
    have hS4 : SqL K H4 a (sc.map V.int) := seq_but hS hp0 hq0 b4
    have gl1 := g.one
    have gl2 := g.most
    have gl3 := g.sum
    -- the loop
    refine ⟨_, rfl, a, _, rfl, .inl hS4, _, _, rfl, _, _, rfl, _, rfl, mm_lo _, mm_hi _, for_range (fun i σ H' => ∃ (n' : Int) (v4 v5 v6 v7 v8 v9 v10 v11 v12 : Option V),
        σ = [some (.ref a), some (.ref p), some (.ref l), some (.ref x), v4, v5, v6, v7, v8, v9, v10, v11, v12] ∧ Stage C H' p q l x ns ∧ Hold H' p q n' ∧ n' ≤ 22 + 12 * i)
      ⟨n1, none, none, none, none, none, none, none, none, none, rfl, W4, h4, by omega⟩ ?_ ?_⟩
    · rintro i σ H' hi ⟨n', v4, v5, v6, v7, v8, v9, v10, v11, v12, rfl, W, hh, hn⟩
      have hi20 := Nat.lt_of_lt_of_le hi (mm_n _)
      have nn := hh.nn
      -- year
      refine ⟨_, rfl, p, q, n', rfl, hh, by omega, fun y n2 H2 y0 n2a n2b h2 b2 => ?_⟩
      have W2 := W.but b2
      obtain ⟨hl2, _, _⟩ := W2.l_
      have lp1 := len_pos g y
      -- days
      refine ⟨_, rfl, _, rfl, _, rfl, l, _, rfl, .inl (SqL.of hl2), _, _, rfl, rfl, (by show (0 : Int) < _; rw [List.length_map]; omega), l, _, _, _, rfl, rfl, SqL.of hl2,
        at_of (j := pl ns y) (by rw [List.length_map]; exact (pl_eq g y).symm) (int_at (len_get g y)), ?_⟩
      -- spot
      refine ⟨_, rfl, _, _, rfl, rfl, _, rfl, _, _, rfl, rfl, _, _, rfl, _, rfl, _, rfl, p, q, n2, lenOf ns y, rfl, h2, by omega, lp1.1, by omega, fun v H3 v0 v1 h3 b3 => ?_⟩
      refine ⟨(by show 3 ≤ sizeLine; decide), fun l3 hl3 => ?_⟩
      have l3p : l3 ≠ p := let ⟨_, e⟩ := h3.at1; (ne_of_none e hl3).symm
      have l3q : l3 ≠ q := let ⟨_, e⟩ := h3.at2; (ne_of_none e hl3).symm
      have W3 := (W2.but b3).same (Same.new (o := .lst [.int (lenOf ns y - 1), .int (if 0 > lenOf ns y - 2 then 0 else lenOf ns y - 2), .int v]) hl3)
      have h3' := h3.same (Same.new (o := .lst [.int (lenOf ns y - 1), .int (if 0 > lenOf ns y - 2 then 0 else lenOf ns y - 2), .int v]) hl3)
      have e3 : (upd H3 l3 (.lst [.int (lenOf ns y - 1), .int (if 0 > lenOf ns y - 2 then 0 else lenOf ns y - 2), .int v])) l3 = some (.lst [.int (lenOf ns y - 1), .int (if 0 > lenOf ns y - 2 then 0 else lenOf ns y - 2), .int v]) := upd_same
      refine ⟨_, rfl, p, q, n2 + 1, 3, rfl, h3', by omega, by decide, by decide, fun u H4 u0 u1 h4 b4 => ?_⟩
      have W4 := W3.but b4
      have e4 := b4 _ _ e3 l3p l3q
      obtain ⟨z, z0, z1, hz⟩ : ∃ z : Int, 0 ≤ z ∧ z < lenOf ns y ∧ ([.int (lenOf ns y - 1), .int (if 0 > lenOf ns y - 2 then 0 else lenOf ns y - 2), .int v] : List V)[u.toNat]? = some (.int z) := by
        have hu : u = 0 ∨ u = 1 ∨ u = 2 := by omega
        rcases hu with rfl | rfl | rfl
        · exact ⟨lenOf ns y - 1, by omega, by omega, rfl⟩
        · refine ⟨if 0 > lenOf ns y - 2 then 0 else lenOf ns y - 2, ?_, ?_, rfl⟩
          · split <;> omega
          · split <;> omega
        · exact ⟨v, v0, v1, rfl⟩
      refine ⟨l3, _, _, _, rfl, rfl, SqL.of e4, at_of (j := u.toNat) (by omega) hz, ?_⟩
      -- walk
      refine ⟨_, rfl, _, rfl, _, rfl, _, rfl, p, q, n2 + 1 + 1, 7, rfl, h4, by omega, by decide, by decide, fun m H5 m0 m1 h5 b5 => ?_⟩
      have W5 := W4.but b5
      refine ⟨_, _, rfl, rfl, l, ns, y, z, 2 + m, rfl, W5.l_.1, g, y0, z0, z1, by omega, by omega, fun t as H6 s6 et el hrow => ?_⟩
      have W6 := W5.same s6
      have h6 := h5.same s6
      have hl6 := W6.l_.1
      -- turns, place
      refine ⟨_, rfl, _, rfl, l, _, rfl, .inl (SqL.of hl6), _, _, rfl, ⟨by rw [List.length_map]; omega, by rw [List.length_map]; omega⟩, fun t2 ht2 => ?_⟩
      refine ⟨t2, _, rfl, SqT.of upd_same, rfl, _, _, rfl, _, _, rfl, rfl, ?_⟩
      have s7 := Same.new (o := .tup [.int (y / (((ns.map V.int).length : Nat) : Int)), .int (y % (((ns.map V.int).length : Nat) : Int))]) ht2
      -- day
      refine ⟨_, rfl, _, rfl, l, ns, rfl, SqL.of (s7 _ _ hl6), _, _, rfl, rfl, .inr ⟨by omega, by omega⟩, _, rfl, _, rfl, _, rfl, l, _, rfl, SqL.of (s7 _ _ hl6), fun c hc => ?_⟩
      refine ⟨c, ns.take (pl ns y), rfl, SqL.of (by rw [upd_same, cut_take g y]), _, _, rfl, rfl, _, rfl, _, _, rfl, rfl, ?_⟩
      have s8 : Same H6 (upd (upd H6 t2 (.tup [.int (y / (((ns.map V.int).length : Nat) : Int)), .int (y % (((ns.map V.int).length : Nat) : Int))])) c (.lst (cutV (ns.map V.int) none (some (y % (((ns.map V.int).length : Nat) : Int)))))) := s7.trans (Same.new hc)
      generalize upd (upd H6 t2 (.tup [.int (y / (((ns.map V.int).length : Nat) : Int)), .int (y % (((ns.map V.int).length : Nat) : Int))])) c (.lst (cutV (ns.map V.int) none (some (y % (((ns.map V.int).length : Nat) : Int))))) = H8 at s8
      have hday : y / (((ns.map V.int).length : Nat) : Int) * ns.sum + (ns.take (pl ns y)).sum + z = firstOf ns y + z := by
        rw [List.length_map]
        rfl
      have W8 := W6.same s8
      have h8 := h6.same s8
      have et8 := s8 _ _ et
      have hrow8 : ∀ (k : Nat) (a : Addr), as[k]? = some a → RowAt H8 ns y z k a := fun k a e => (hrow k a e).same s8
      have f0 := first_nonneg g y0
      have has : as.length ≤ 8 := by omega
      obtain ⟨dx, lc, b, eX⟩ := W8.ins
      -- forward
      refine ⟨_, rfl, t, _, rfl, .inl (SqL.of et8), _, rfl, by omega, by rw [List.length_map]; omega, for_range (fun j σ H' => ∃ (dv : Int) (v4 v5 v6 v7 v9 v10 v12 : Option V), dv = firstOf ns y + z ∧
          σ = [some (.ref a), some (.ref p), some (.ref l), some (.ref x), v4, v5, v6, v7, some (.ref t), v9, v10, some (.int dv), v12] ∧ Same H8 H')
        ⟨_, _, _, _, _, _, _, _, hday, rfl, Same.refl _⟩ ?_ ?_⟩
      · rintro j σ H' hj ⟨dv, v4, v5, v6, v7, v9, v10, v12, edv, rfl, sm⟩
        rw [List.length_map] at hj
        have hj' : j < as.length := by omega
        have ha : as[j]? = some as[j] := List.getElem?_eq_getElem hj'
        generalize as[j] = r at ha
        obtain ⟨uu, vv, er, ru0, rv0, rv1, red⟩ := hrow8 j r ha
        have har : (as.map V.ref)[j]? = some (V.ref r) := by rw [List.getElem?_map, ha]; rfl
        have ed : dv + (0 + (j : Int)) = firstOf ns uu + vv := by omega
        obtain ⟨at1, at2⟩ := at_is g rv0 rv1
        refine ⟨_, rfl, x, dx, _, rfl, sm _ _ eX, cf_no _ _ _ (by decide +kernel) (by decide +kernel) (by decide +kernel), _, rfl, _, rfl, _, _, rfl, rfl, x, ns, dv + (0 + (j : Int)), rfl, W8.cal.same sm, g, by omega, fun t3 H9 s9 e9 => ?_⟩
        rw [ed, at1, at2] at e9
        refine ⟨_, rfl, _, rfl, t, _, _, _, rfl, rfl, SqL.of (s9 _ _ (sm _ _ et8)), at_of (j := j) (by omega) har, t3, r, uu, vv, rfl, e9, s9 _ _ (sm _ _ er), fun H10 s10 => ⟨true, rfl, iteF ?_⟩⟩
        exact ⟨dv, _, _, _, _, _, _, _, edv, rfl, (sm.trans s9).trans s10⟩
      · rintro σ H7 ⟨dv, v4, v5, v6, v7, v9, v10, v12, edv, rfl, sm7⟩
        -- back
        refine ⟨_, rfl, t, _, rfl, .inl (SqL.of (sm7 _ _ et8)), _, rfl, by omega, by rw [List.length_map]; omega, for_range (fun j σ H' => ∃ (dv : Int) (v4 v5 v6 v7 v9 v10 v12 : Option V), dv = firstOf ns y + z ∧
            σ = [some (.ref a), some (.ref p), some (.ref l), some (.ref x), v4, v5, v6, v7, some (.ref t), v9, v10, some (.int dv), v12] ∧ Same H8 H')
          ⟨dv, _, _, _, _, _, _, _, edv, rfl, sm7⟩ ?_ ?_⟩
        · rintro j σ H' hj ⟨dv, v4, v5, v6, v7, v9, v10, v12, edv, rfl, sm⟩
          rw [List.length_map] at hj
          have hj' : j < as.length := by omega
          -- the row that is as far from the end
          have hk' : as.length - 1 - j < as.length := by omega
          obtain ⟨r, hr⟩ : ∃ r, as[as.length - 1 - j]? = some r := ⟨_, List.getElem?_eq_getElem hk'⟩
          obtain ⟨uu, vv, er, ru0, rv0, rv1, red⟩ := hrow8 _ r hr
          have har : (as.map V.ref)[as.length - 1 - j]? = some (V.ref r) := by rw [List.getElem?_map, hr]; rfl
          have ed : dv + (((as.map V.ref).length : Nat) : Int) - 1 - (0 + (j : Int)) = firstOf ns uu + vv := by rw [List.length_map]; omega
          obtain ⟨at1, at2⟩ := at_is g rv0 rv1
          have fu := first_nonneg g ru0
          refine ⟨_, rfl, x, dx, _, rfl, sm _ _ eX, cf_no _ _ _ (by decide +kernel) (by decide +kernel) (by decide +kernel), _, rfl, _, rfl, t, _, rfl, .inl (SqL.of (sm _ _ et8)), _, _, rfl, rfl, _, _, rfl, rfl, _, rfl, _, _, rfl, rfl,
            x, ns, dv + (((as.map V.ref).length : Nat) : Int) - 1 - (0 + (j : Int)), rfl, W8.cal.same sm, g, by omega, fun t3 H9 s9 e9 => ?_⟩
          rw [ed, at1, at2] at e9
          have et9 := s9 _ _ (sm _ _ et8)
          refine ⟨_, rfl, _, rfl, t, _, rfl, .inl (SqL.of et9), _, _, rfl, rfl, _, rfl, _, _, rfl, rfl, t, _, _, _, rfl, rfl, SqL.of et9, at_of (j := as.length - 1 - j) (by rw [List.length_map]; omega) har,
            t3, r, uu, vv, rfl, e9, s9 _ _ (sm _ _ er), fun H10 s10 => ⟨true, rfl, iteF ?_⟩⟩
          -- first(walk[at][0]) + walk[at][1]
          have sm10 : Same H8 H10 := (sm.trans s9).trans s10
          obtain ⟨r2, hr2⟩ : ∃ r, as[j]? = some r := ⟨_, List.getElem?_eq_getElem hj'⟩
          obtain ⟨u2, v2, er2, qu0, qv0, qv1, qed⟩ := hrow8 _ r2 hr2
          have har2 : (as.map V.ref)[j]? = some (V.ref r2) := by rw [List.getElem?_map, hr2]; rfl
          have ed2 : dv + (0 + (j : Int)) = firstOf ns u2 + v2 := by omega
          have et10 := sm10 _ _ et8
          refine ⟨_, rfl, x, dx, _, rfl, sm10 _ _ eX, cf_no _ _ _ (by decide +kernel) (by decide +kernel) (by decide +kernel), _, rfl, _, rfl, t, _, _, _, rfl, rfl, SqL.of et10, at_of (j := j) (by omega) har2, r2, _, _, _, rfl, rfl, SqT.of (sm10 _ _ er2), atI_nat (j := 0) rfl,
            x, ns, u2, rfl, W8.cal.same sm10, g, qu0, fun H11 s11 => ?_⟩
          refine ⟨_, rfl, _, rfl, t, _, _, _, rfl, rfl, SqL.of (s11 _ _ et10), at_of (j := j) (by omega) har2, r2, _, _, _, rfl, rfl, SqT.of (s11 _ _ (sm10 _ _ er2)), atI_nat (j := 1) rfl, _, _, rfl, rfl,
            _, rfl, _, rfl, _, _, rfl, rfl, firstOf ns u2 + v2, congrArg (fun e => [V.int (firstOf ns u2 + v2), V.int e]) ed2, true, rfl, iteF ?_⟩
          exact ⟨dv, _, _, _, _, _, _, _, edv, rfl, sm10.trans s11⟩
        · rintro σ H9 ⟨dv, v4, v5, v6, v7, v9, v10, v12, edv, rfl, sm⟩
          exact ⟨n2 + 1 + 1 + 1, _, _, _, _, _, _, _, _, _, rfl, W8.same sm, h8.same sm, by omega⟩
    · rintro σ H' ⟨n', v4, v5, v6, v7, v8, v9, v10, v11, v12, rfl, W, hh, hn⟩
      exact k H'
end
end K13
-- K13End
/-! What the top has written, and the law's own head. -/
namespace K13
open PySem L2
theorem all_mk {l : PySem.W.OpenLaw} {w : World} {K : PySem.W.Frag} {h : Heap} {mg : Str → Option Value} {fa C f1 f2 f3 f4 f5 f6 f7 f8 f9 f10 f11 f12 f13 : Addr} (X : K.In h) (G : h.Ns mainGlobals mg) (hfa : mg "law" = some (.ref fa))
    {od1 an1 od2 an2 od3 an3 od4 an4 od5 an5 od6 an6 od7 an7 od8 an8 od9 an9 od10 an10 od11 an11 od12 an12 od13 an13 : Option Addr} {sl1 sl2 sl3 sl4 sl5 sl6 sl7 sl8 sl9 sl10 sl11 sl12 sl13 : Array (Option Value)} {oc1 kV1 dc1 pm1 cd1 ct1 oc2 kV2 dc2 pm2 cd2 ct2 oc3 kV3 dc3 pm3 cd3 ct3 oc4 kV4 dc4 pm4 cd4 ct4 oc5 kV5 dc5 pm5 cd5 ct5 oc6 kV6 dc6 pm6 cd6 ct6 oc7 kV7 dc7 pm7 cd7 ct7 oc8 kV8 dc8 pm8 cd8 ct8 oc9 kV9 dc9 pm9 cd9 ct9 oc10 kV10 dc10 pm10 cd10 ct10 oc11 kV11 dc11 pm11 cd11 ct11 oc12 kV12 dc12 pm12 cd12 ct12 oc13 kV13 dc13 pm13 cd13 ct13 : Value}
    (a1 : PySem.W.nsIn K mainGlobals "is_number" = some (some (.ref f1))) (l1 : K.lookup f1 = some ⟨oc1, od1, .func (PySem.W.fnOf "is_number" "is_number" (defArgs sIsNum) (defBody sIsNum) (defScope sIsNum) .none kV1 dc1 pm1 an1 cd1 ct1), sl1⟩) (c1 : PySem.W.codeIn K cd1 "is_number" = true) (k1 : PySem.W.keepIn K (.ref f1) = true)
    (a2 : PySem.W.nsIn K mainGlobals "are_numbers" = some (some (.ref f2))) (l2 : K.lookup f2 = some ⟨oc2, od2, .func (PySem.W.fnOf "are_numbers" "are_numbers" (defArgs sAreNums) (defBody sAreNums) (defScope sAreNums) .none kV2 dc2 pm2 an2 cd2 ct2), sl2⟩) (c2 : PySem.W.codeIn K cd2 "are_numbers" = true) (k2 : PySem.W.keepIn K (.ref f2) = true)
    (a3 : PySem.W.nsIn K mainGlobals "need_day" = some (some (.ref f3))) (l3 : K.lookup f3 = some ⟨oc3, od3, .func (PySem.W.fnOf "need_day" "need_day" (defArgs sNeed) (defBody sNeed) (defScope sNeed) .none kV3 dc3 pm3 an3 cd3 ct3), sl3⟩) (c3 : PySem.W.codeIn K cd3 "need_day" = true) (k3 : PySem.W.keepIn K (.ref f3) = true)
    (a4 : PySem.W.nsIn K mainGlobals "_law_draw" = some (some (.ref f4))) (l4 : K.lookup f4 = some ⟨oc4, od4, .func (PySem.W.fnOf "_law_draw" "_law_draw" (defArgs sDraw) (defBody sDraw) (defScope sDraw) .none kV4 dc4 pm4 an4 cd4 ct4), sl4⟩) (c4 : PySem.W.codeIn K cd4 "_law_draw" = true) (k4 : PySem.W.keepIn K (.ref f4) = true)
    (a5 : PySem.W.nsIn K mainGlobals "_law_far" = some (some (.ref f5))) (l5 : K.lookup f5 = some ⟨oc5, od5, .func (PySem.W.fnOf "_law_far" "_law_far" (defArgs sFar) (defBody sFar) (defScope sFar) .none kV5 dc5 pm5 an5 cd5 ct5), sl5⟩) (c5 : PySem.W.codeIn K cd5 "_law_far" = true) (k5 : PySem.W.keepIn K (.ref f5) = true)
    (a6 : PySem.W.nsIn K mainGlobals "_law_lengths" = some (some (.ref f6))) (l6 : K.lookup f6 = some ⟨oc6, od6, .func (PySem.W.fnOf "_law_lengths" "_law_lengths" (defArgs sLengths) (defBody sLengths) (defScope sLengths) .none kV6 dc6 pm6 an6 cd6 ct6), sl6⟩) (c6 : PySem.W.codeIn K cd6 "_law_lengths" = true) (k6 : PySem.W.keepIn K (.ref f6) = true)
    (a7 : PySem.W.nsIn K mainGlobals "_law_is" = some (some (.ref f7))) (l7 : K.lookup f7 = some ⟨oc7, od7, .func (PySem.W.fnOf "_law_is" "_law_is" (defArgs sIs) (defBody sIs) (defScope sIs) .none kV7 dc7 pm7 an7 cd7 ct7), sl7⟩) (c7 : PySem.W.codeIn K cd7 "_law_is" = true) (k7 : PySem.W.keepIn K (.ref f7) = true)
    (a8 : PySem.W.nsIn K mainGlobals "_law_row_is" = some (some (.ref f8))) (l8 : K.lookup f8 = some ⟨oc8, od8, .func (PySem.W.fnOf "_law_row_is" "_law_row_is" (defArgs sRowIs) (defBody sRowIs) (defScope sRowIs) .none kV8 dc8 pm8 an8 cd8 ct8), sl8⟩) (c8 : PySem.W.codeIn K cd8 "_law_row_is" = true) (k8 : PySem.W.keepIn K (.ref f8) = true)
    (a9 : PySem.W.nsIn K mainGlobals "_law_walk" = some (some (.ref f9))) (l9 : K.lookup f9 = some ⟨oc9, od9, .func (PySem.W.fnOf "_law_walk" "_law_walk" (defArgs sWalk) (defBody sWalk) (defScope sWalk) .none kV9 dc9 pm9 an9 cd9 ct9), sl9⟩) (c9 : PySem.W.codeIn K cd9 "_law_walk" = true) (k9 : PySem.W.keepIn K (.ref f9) = true)
    (a10 : PySem.W.nsIn K mainGlobals "law" = some (some (.ref f10))) (l10 : K.lookup f10 = some ⟨oc10, od10, .func (PySem.W.fnOf "law" "law" (defArgs sLaw) (defBody sLaw) (defScope sLaw) .none kV10 dc10 pm10 an10 cd10 ct10), sl10⟩) (c10 : PySem.W.codeIn K cd10 "law" = true) (k10 : PySem.W.keepIn K (.ref f10) = true)
    (a11 : PySem.W.findIn K (.ref C) "__init__" = some (some (.ref f11))) (i11 : PySem.W.isFn K (.ref f11) = true) (l11 : K.lookup f11 = some ⟨oc11, od11, .func (PySem.W.fnOf "__init__" "Calendar.__init__" (defArgs sInit) (defBody sInit) (defScope sInit) .none kV11 dc11 pm11 an11 cd11 ct11), sl11⟩) (c11 : PySem.W.codeIn K cd11 "Calendar.__init__" = true) (k11 : PySem.W.keepIn K (.ref f11) = true)
    (a12 : PySem.W.findIn K (.ref C) "first" = some (some (.ref f12))) (i12 : PySem.W.isFn K (.ref f12) = true) (l12 : K.lookup f12 = some ⟨oc12, od12, .func (PySem.W.fnOf "first" "Calendar.first" (defArgs sFirst) (defBody sFirst) (defScope sFirst) .none kV12 dc12 pm12 an12 cd12 ct12), sl12⟩) (c12 : PySem.W.codeIn K cd12 "Calendar.first" = true) (k12 : PySem.W.keepIn K (.ref f12) = true)
    (a13 : PySem.W.findIn K (.ref C) "at" = some (some (.ref f13))) (i13 : PySem.W.isFn K (.ref f13) = true) (l13 : K.lookup f13 = some ⟨oc13, od13, .func (PySem.W.fnOf "at" "Calendar.at" (defArgs sAt) (defBody sAt) (defScope sAt) .none kV13 dc13 pm13 an13 cd13 ct13), sl13⟩) (c13 : PySem.W.codeIn K cd13 "Calendar.at" = true) (k13 : PySem.W.keepIn K (.ref f13) = true)
    (aC : PySem.W.nsIn K mainGlobals "Calendar" = some (some (.ref C))) (pg : PySem.W.plainGet K C Str.empty = true) (hd : PySem.W.hasDictIn K C = true) (po : PySem.W.plainOver K C = true) (sa : PySem.W.findIn K (.ref C) "__setattr__" = some (some (.builtin "object.__setattr__"))) (mk : PySem.W.makesIn K C = true) (kc : PySem.W.keepIn K (.ref C) = true)
    (nL : PySem.W.findIn K (.ref C) "lengths" = some none) (nB : PySem.W.findIn K (.ref C) "begins" = some none) (nW : PySem.W.findIn K (.ref C) "whole" = some none)
    (z_len : PySem.W.nsIn K mainGlobals "len" = some none) (z_range : PySem.W.nsIn K mainGlobals "range" = some none) (z_isinstance : PySem.W.nsIn K mainGlobals "isinstance" = some none) (z_list : PySem.W.nsIn K mainGlobals "list" = some none) (z_tuple : PySem.W.nsIn K mainGlobals "tuple" = some none) (z_int : PySem.W.nsIn K mainGlobals "int" = some none) (z_bool : PySem.W.nsIn K mainGlobals "bool" = some none) (z_all : PySem.W.nsIn K mainGlobals "all" = some none) (z_divmod : PySem.W.nsIn K mainGlobals "divmod" = some none) (z_sum : PySem.W.nsIn K mainGlobals "sum" = some none) (z_max : PySem.W.nsIn K mainGlobals "max" = some none) (z_min : PySem.W.nsIn K mainGlobals "min" = some none) :
    ∃ fd : FuncData, (∀ (s : Shared) (v : Value), BindsTo s fd ⟨[v], []⟩ [("_law_script", v)]) ∧ ∀ base : Heap, K.In base → base.Ns mainGlobals mg → FnOk l.prog w K mg base CX0 5 fa fd ["_law_script"] (spLaw K) := by
  have e := hfa.symm.trans (PySem.W.mg_of X G a10)
  cases e
  have T : Txt K mg C := ⟨⟨pg, hd, po, sa⟩, nL, nB, nW, PySem.W.mg_of X G aC, PySem.W.mg_none_of X G z_len, PySem.W.mg_none_of X G z_range, PySem.W.mg_none_of X G z_isinstance, PySem.W.mg_none_of X G z_list, PySem.W.mg_none_of X G z_tuple, PySem.W.mg_none_of X G z_int, PySem.W.mg_none_of X G z_bool, PySem.W.mg_none_of X G z_all, PySem.W.mg_none_of X G z_divmod, PySem.W.mg_none_of X G z_sum, PySem.W.mg_none_of X G z_max, PySem.W.mg_none_of X G z_min⟩
  have F1 := fun_mk (st := sIsNum) l1 c1 k1
  have b1 := F1.binds (ps := ["thing", "least", "most"]) fun _ _ _ _ _ _ us hl => match us, hl with | [_, _, _], _ => rfl
  have F2 := fun_mk (st := sAreNums) l2 c2 k2
  have b2 := F2.binds (ps := ["thing", "long", "least", "most"]) fun _ _ _ _ _ _ us hl => match us, hl with | [_, _, _, _], _ => rfl
  have F3 := fun_mk (st := sNeed) l3 c3 k3
  have b3 := F3.binds (ps := ["number"]) fun _ _ _ _ _ _ us hl => match us, hl with | [_], _ => rfl
  have F4 := fun_mk (st := sDraw) l4 c4 k4
  have b4 := F4.binds (ps := ["_law_hold", "_law_many"]) fun _ _ _ _ _ _ us hl => match us, hl with | [_, _], _ => rfl
  have F5 := fun_mk (st := sFar) l5 c5 k5
  have b5 := F5.binds (ps := ["_law_hold"]) fun _ _ _ _ _ _ us hl => match us, hl with | [_], _ => rfl
  have F6 := fun_mk (st := sLengths) l6 c6 k6
  have b6 := F6.binds (ps := ["_law_hold", "_law_most", "_law_many"]) fun _ _ _ _ _ _ us hl => match us, hl with | [_, _, _], _ => rfl
  have F7 := fun_mk (st := sIs) l7 c7 k7
  have b7 := F7.binds (ps := ["_law_found", "_law_due"]) fun _ _ _ _ _ _ us hl => match us, hl with | [_, _], _ => rfl
  have F8 := fun_mk (st := sRowIs) l8 c8 k8
  have b8 := F8.binds (ps := ["_law_found", "_law_due"]) fun _ _ _ _ _ _ us hl => match us, hl with | [_, _], _ => rfl
  have F9 := fun_mk (st := sWalk) l9 c9 k9
  have b9 := F9.binds (ps := ["_law_lengths_here", "_law_year", "_law_spot", "_law_many"]) fun _ _ _ _ _ _ us hl => match us, hl with | [_, _, _, _], _ => rfl
  have F10 := fun_mk (st := sLaw) l10 c10 k10
  have b10 := F10.binds (ps := ["_law_script"]) fun _ _ _ _ _ _ us hl => match us, hl with | [_], _ => rfl
  have F11 := fun_mk (st := sInit) l11 c11 k11
  have b11 := F11.binds (ps := ["self", "years"]) fun _ _ _ _ _ _ us hl => match us, hl with | [_, _], _ => rfl
  have F12 := fun_mk (st := sFirst) l12 c12 k12
  have b12 := F12.binds (ps := ["self", "year"]) fun _ _ _ _ _ _ us hl => match us, hl with | [_, _], _ => rfl
  have F13 := fun_mk (st := sAt) l13 c13 k13
  have b13 := F13.binds (ps := ["self", "day"]) fun _ _ _ _ _ _ us hl => match us, hl with | [_, _], _ => rfl
  exact ⟨PySem.W.fnOf "law" "law" (defArgs sLaw) (defBody sLaw) (defScope sLaw) .none kV10 dc10 pm10 an10 cd10 ct10, fun s v => .of_eq rfl, fun base _ _ =>
    ok_law F10 T ⟨F4, b4, PySem.W.mg_of X G a4⟩ ⟨F5, b5, PySem.W.mg_of X G a5⟩ ⟨F6, b6, PySem.W.mg_of X G a6⟩ ⟨F7, b7, PySem.W.mg_of X G a7⟩ ⟨F8, b8, PySem.W.mg_of X G a8⟩ ⟨F9, b9, PySem.W.mg_of X G a9⟩ ⟨F2, b2, PySem.W.mg_of X G a2⟩ ⟨F1, b1, PySem.W.mg_of X G a1⟩ ⟨F3, b3, PySem.W.mg_of X G a3⟩ ⟨mk, a11, i11, kc⟩ F11 b11 ⟨F12, b12, ⟨a12, i12, k12⟩⟩ ⟨F13, b13, ⟨a13, i13, k13⟩⟩⟩
end K13
open PySem PySem.W PyProof.Rows
set_option maxRecDepth 100000 in
set_option maxHeartbeats 0 in
theorem PySem.Challenge.cw_readround_k13_whole_days_in_years_holds : PySem.Challenge.rw_readround_k13_whole_days_in_years.Holds := by
  w_on; o_law; k_head; (case hw => w_witness2)
  k_fill
  refine L2.walk_of (l := PySem.Challenge.rw_readround_k13_whole_days_in_years) (n := 63) (k := 5) (x := "_law_script") (CX := fun _ => L2.CX0) (sp := fun w => K13.spLaw _) rfl (by decide) rfl ⟨rfl, by decide, by decide⟩ (fun w h Y => PySem.W.kIn_of Y) ?F (fun _ _ a ns hl _ hS => ⟨a, ns, rfl, hS, hl, fun _ => rfl⟩) (fun _ _ _ _ _ h => h)
  case F =>
    intro w mg fa h KX G hmg0
    have hmg : mg "law" = some (.ref fa) := hmg0
    clear hmg0
    refine' K13.all_mk KX G hmg ?a1 ?l1 ?c1 ?k1 ?a2 ?l2 ?c2 ?k2 ?a3 ?l3 ?c3 ?k3 ?a4 ?l4 ?c4 ?k4 ?a5 ?l5 ?c5 ?k5 ?a6 ?l6 ?c6 ?k6 ?a7 ?l7 ?c7 ?k7 ?a8 ?l8 ?c8 ?k8 ?a9 ?l9 ?c9 ?k9 ?a10 ?l10 ?c10 ?k10 ?a11 ?i11 ?l11 ?c11 ?k11 ?a12 ?i12 ?l12 ?c12 ?k12 ?a13 ?i13 ?l13 ?c13 ?k13 ?aC ?pg ?hd ?po ?sa ?mk ?kc ?nL ?nB ?nW ?z_len ?z_range ?z_isinstance ?z_list ?z_tuple ?z_int ?z_bool ?z_all ?z_divmod ?z_sum ?z_max ?z_min
    (case aC => k_is)
    (case a1 => k_is)
    (case l1 => k_is)
    (case c1 => k_is)
    (case k1 => k_is)
    (case a2 => k_is)
    (case l2 => k_is)
    (case c2 => k_is)
    (case k2 => k_is)
    (case a3 => k_is)
    (case l3 => k_is)
    (case c3 => k_is)
    (case k3 => k_is)
    (case a4 => k_is)
    (case l4 => k_is)
    (case c4 => k_is)
    (case k4 => k_is)
    (case a5 => k_is)
    (case l5 => k_is)
    (case c5 => k_is)
    (case k5 => k_is)
    (case a6 => k_is)
    (case l6 => k_is)
    (case c6 => k_is)
    (case k6 => k_is)
    (case a7 => k_is)
    (case l7 => k_is)
    (case c7 => k_is)
    (case k7 => k_is)
    (case a8 => k_is)
    (case l8 => k_is)
    (case c8 => k_is)
    (case k8 => k_is)
    (case a9 => k_is)
    (case l9 => k_is)
    (case c9 => k_is)
    (case k9 => k_is)
    (case a10 => k_is)
    (case l10 => k_is)
    (case c10 => k_is)
    (case k10 => k_is)
    (case a11 => k_is)
    (case i11 => k_is)
    (case l11 => k_is)
    (case c11 => k_is)
    (case k11 => k_is)
    (case a12 => k_is)
    (case i12 => k_is)
    (case l12 => k_is)
    (case c12 => k_is)
    (case k12 => k_is)
    (case a13 => k_is)
    (case i13 => k_is)
    (case l13 => k_is)
    (case c13 => k_is)
    (case k13 => k_is)
    (case pg => k_is)
    (case hd => k_is)
    (case po => k_is)
    (case sa => k_is)
    (case mk => k_is)
    (case kc => k_is)
    (case nL => k_is)
    (case nB => k_is)
    (case nW => k_is)
    (case z_len => k_is)
    (case z_range => k_is)
    (case z_isinstance => k_is)
    (case z_list => k_is)
    (case z_tuple => k_is)
    (case z_int => k_is)
    (case z_bool => k_is)
    (case z_all => k_is)
    (case z_divmod => k_is)
    (case z_sum => k_is)
    (case z_max => k_is)
    (case z_min => k_is)
#print axioms PySem.Challenge.cw_readround_k13_whole_days_in_years_holds
