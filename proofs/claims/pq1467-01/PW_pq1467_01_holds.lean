import PyProof.Rows.All
import Wide.All
import OpenK.AllK
import Wide.FinOn
import PySem.Challenge.RW_pq1467_01
open PySem PySem.W PySem.Spec PySem.Calls PyProof.Rows
set_option Elab.async false
set_option linter.unusedVariables false
set_option linter.unusedSimpArgs false
set_option linter.unusedSectionVars false
namespace Mine
section
set_option maxRecDepth 100000 in
set_option maxHeartbeats 8000000 in
open_top hd for PySem.Challenge.rw_pq1467_01
end
section
abbrev Place (n : Nat) (w : World) (news : List (Addr × Obj)) (R : (Addr → (Str → Option Value) → Heap → Shared → (Value → Shared → Prop) → Prop)) (f : Addr) (vs : List Value) : Prop :=
  ∀ (mean : ExcName → Option Value) (mg mb : Str → Option Value) (dp un : Nat) (gd : Option (List Code)) (cn : Str) (cs : Scope) (a : Addr) (ccd : Value) (cl : List (Str × Addr)) (outer : List Env) (A₀ : Around) (base h₀ : Heap) (L : Addr) (m : Str → Option Value) (s : Shared)
  (Q E : Value → Shared → Prop),
  Below A₀ base outer h₀ → Fr h₀ L s.heap m → (Mine.hd.heap_39 w.params).In h₀ → News h₀ L s.heap news → Top Mine.hd.view_39 (looseW Mine.hd.view_39 []) mean mg mb h₀ → cs.kind = .function → dp + n < recursionLimit → un + 8 * n < cLine →
  R L m h₀ s Q →
    wpAny (model PySem.Challenge.rw_pq1467_01.row.prog w) (ktrTop dp un gd cn cs L a ccd cl outer) (call (.ref f) vs) Q E s
abbrev CutG (n : Nat) (w : World) (news : List (Addr × Obj)) (f : Addr) (vs : List Value) (R : Tok → Value) : Prop :=
  Place n w news (fun L m h₀ s Q => ∀ t h' tk', Fr h₀ L h' m → News h₀ L h' news → Q (R t) { s with heap := h', toks := tk' }) f vs
structure Std (n : Nat) (w : World) (news : List (Addr × Obj)) (mean : ExcName → Option Value) (mg mb : Str → Option Value) (dp un : Nat) (cs : Scope) (outer : List Env) (A₀ : Around) (base h₀ : Heap) (L : Addr) (m : Str → Option Value) (s : Shared) : Prop where
  b1 : Below A₀ base outer h₀
  b2 : Fr h₀ L s.heap m
  b3 : (Mine.hd.heap_39 w.params).In h₀
  b4 : News h₀ L s.heap news
  b5 : Top Mine.hd.view_39 (looseW Mine.hd.view_39 []) mean mg mb h₀
  b6 : cs.kind = .function
  b7 : dp + n < recursionLimit
  b8 : un + 8 * n < cLine
theorem place_use {n : Nat} {w : World} {news : List (Addr × Obj)} {R : Addr → (Str → Option Value) → Heap → Shared → (Value → Shared → Prop) → Prop} {f : Addr} {vs : List Value} (C : Place n w news R f vs)
    {mean : ExcName → Option Value} {mg mb : Str → Option Value} {dp un : Nat} {gd : Option (List Code)} {cn : Str} {cs : Scope} {a : Addr} {ccd : Value} {cl : List (Str × Addr)} {outer : List Env} {A₀ : Around} {base h₀ : Heap} {L : Addr} {m : Str → Option Value} {s : Shared} {Q E : Value → Shared → Prop}
    (z : Std n w news mean mg mb dp un cs outer A₀ base h₀ L m s) (r : R L m h₀ s Q) :
    wpAny (model PySem.Challenge.rw_pq1467_01.row.prog w) (ktrTop dp un gd cn cs L a ccd cl outer) (call (.ref f) vs) Q E s :=
  C mean mg mb dp un gd cn cs a ccd cl outer A₀ base h₀ L m s Q E z.b1 z.b2 z.b3 z.b4 z.b5 z.b6 z.b7 z.b8 r

def xo (o : Int) : Int := o.fdiv (2 ^ Int.toNat 6)
def yo (o : Int) : Int := Builtin.bitAnd (o.fdiv (2 ^ Int.toNat 3)) 7
def zo (o : Int) : Int := Builtin.bitAnd o 7
def lowS (y z : Int) (t : Bool) : Int :=
  if z = 0 then (if y = 2 then (if t = true then 13 else 8) else if y = 3 then 12 else if y < 2 then 4 else if t = true then 12 else 7)
  else if z = 1 then (if y.fmod 2 = 0 then 10 else 11)
  else if z = 2 then (if y < 4 then 7 else if y < 6 then 16 else 13)
  else if z = 3 then 6
  else if z < 6 then (if y = 6 then 11 else 4)
  else if z = 7 then 4 else if y = 6 then 10 else 7
def highS (y z : Int) (t : Bool) : Int :=
  if z = 0 then (if t = true then 11 else 5)
  else if z = 1 then (if y.fmod 2 = 0 then 10 else if y = 1 then 10 else if y = 7 then 6 else 4)
  else if z = 2 then 10
  else if z = 3 then [10, 8, 11, 11, 19, 4, 4, 4].getD y.toNat 0
  else if z = 4 then (if t = true then 17 else 10)
  else if z = 5 then (if y.fmod 2 = 0 then 11 else 17)
  else if z = 6 then 7 else 11
def mainS (o : Int) (t : Bool) : Int :=
  if xo o = 0 then lowS (yo o) (zo o) t
  else if xo o = 3 then highS (yo o) (zo o) t
  else if o = 118 then 4
  else if zo o = 6 then 7 else if xo o = 1 then (if yo o = 6 then 7 else 4) else 4
def bitsS (o : Int) : Int := if zo o ≠ 6 then 8 else if xo o = 1 then 12 else 15
def edS (o : Int) (t : Bool) : Int :=
  if xo o = 2 ∧ 3 < yo o ∧ zo o < 4 then (if 5 < yo o then (if t = true then 21 else 16) else 16)
  else if xo o ≠ 1 then 8
  else if zo o = 7 then (if yo o < 4 then 9 else if yo o < 6 then 18 else 8)
  else [12, 12, 15, 20, 8, 14, 8].getD (zo o).toNat 0
def usesS (o : Int) : Bool := decide ((xo o = 0 ∧ yo o = 6 ∧ 4 ≤ zo o ∧ zo o ≤ 6) ∨ (xo o = 1 ∧ o ≠ 118 ∧ (yo o = 6 ∨ zo o = 6)) ∨ (xo o = 2 ∧ zo o = 6))
def indexS (o : Int) (t : Bool) : Int := if o = 54 then 19 else mainS o t + (if usesS o = true then 12 else 4)
def mainL (o : Int) : Int :=
  if xo o = 0 then (if zo o = 0 then (if yo o < 2 then 1 else 2) else if zo o = 1 then (if (yo o).fmod 2 = 0 then 3 else 1) else if zo o = 2 ∧ 3 < yo o then 3 else if zo o = 6 then 2 else 1)
  else if xo o < 3 then 1
  else if zo o = 2 ∨ zo o = 4 ∨ o = 195 ∨ o = 205 then 3
  else if zo o = 6 ∨ o = 203 ∨ o = 211 ∨ o = 219 ∨ o = 237 then 2 else 1
def canM (o : Int) : Bool := decide (o = 16 ∨ o = 32 ∨ o = 40 ∨ o = 48 ∨ o = 56 ∨ (xo o = 3 ∧ (zo o = 0 ∨ zo o = 4)))
def lessS (o : Int) : Int :=
  if o = 16 ∨ o = 32 ∨ o = 40 ∨ o = 48 ∨ o = 56 then 5 else if 192 ≤ o ∧ o.fmod 8 = 0 then 6 else if 192 ≤ o ∧ o.fmod 8 = 4 then 7 else 0
def besideS (o : Int) : Bool :=
  if o = 52 ∨ o = 53 ∨ o = 54 then true else if 64 ≤ o ∧ o < 192 then (if o ≠ 118 then (if o.fmod 8 = 6 then true else if 112 ≤ o then decide (o < 120) else false) else false) else false
theorem octP {P : Int → Prop} [DecidablePred P] (h : (List.range 256).all (fun n => decide (P (n : Int))) = true) (o : Int) (h0 : 0 ≤ o) (h1 : o < 256) : P o := by
  have e := List.all_eq_true.mp h o.toNat (List.mem_range.mpr (by omega))
  rw [Int.toNat_of_nonneg h0] at e
  exact of_decide_eq_true e
theorem pairP {P : Int → Int → Bool → Prop} [∀ y z t, Decidable (P y z t)] (h : (List.range 8).all (fun a => (List.range 8).all fun b => decide (P (a : Int) (b : Int) true) && decide (P (a : Int) (b : Int) false)) = true) (y z : Int) (t : Bool) (hy : 0 ≤ y) (hy8 : y < 8) (hz : 0 ≤ z) (hz8 : z < 8) : P y z t := by
  have e := List.all_eq_true.mp (List.all_eq_true.mp h y.toNat (List.mem_range.mpr (by omega))) z.toNat (List.mem_range.mpr (by omega))
  rw [Int.toNat_of_nonneg hy, Int.toNat_of_nonneg hz, Bool.and_eq_true] at e
  cases t
  · exact of_decide_eq_true e.2
  · exact of_decide_eq_true e.1
theorem and7 (x : Int) : 0 ≤ Builtin.bitAnd x 7 ∧ Builtin.bitAnd x 7 < 8 := by
  have h := kbt_mask x 3
  have e : ((2 : Int) ^ 3 - 1) = 7 := by decide
  rw [e] at h
  rw [h]
  constructor <;> omega
set_option maxRecDepth 100000 in
set_option maxHeartbeats 8000000 in
theorem low_cut (w : World) (news : List (Addr × Obj)) (y z : Int) (t : Bool) (yt zt : Tok) (hy : 0 ≤ y) (hy8 : y < 8) (hz : 0 ≤ z) (hz8 : z < 8) : CutG 1 w news 28 [.int y yt, .int z zt, .bool t] (fun t' => .int (lowS y z t) t') := by
  unfold CutG Place
  w_top off
  k_fill
  intro mean mg mb dp un gd cn cs a ccd cl outer A₀ base h₀ L m s Q E B F X N T hk hd hu hret
  refine wpAny_call ?_
  k_dflt cell_enter
  k_steps
  all_goals (first
    | refine cb_retI (Q := Q) hret ?_ ?_ ?_
    | refine cb_retB (Q := Q) hret ?_ ?_ ?_)
  all_goals first
    | (with_reducible show Fr _ _ _ _; k_asm)
    | (with_reducible show News _ _ _ _; first | k_asm | (refine cb_drop (by k_asm) ?_; kcj_all))
    | (with_reducible show _ = _; rfl)
    | (with_reducible show (_ : Int) = _; law_clear; revert o; exact octP (by decide +kernel))
    | (with_reducible show (_ : Bool) = _; law_clear; revert o; exact octP (by decide +kernel))
    | (with_reducible show (_ : Int) = _; cases t <;> (law_clear; revert o; exact octP (by decide +kernel)))
    | (with_reducible show (_ : Int) = _; law_clear; revert y z t; exact pairP (by decide +kernel))
    | (with_reducible show (_ : Bool) = _; rw [Bool.eq_iff_iff]; simp only [lowS, decide_eq_true_eq]; (simp only [xo, yo, zo, decide_eq_true_eq, beq_iff_eq, bne_iff_ne, ne_eq, List.any_cons, List.any_nil, Bool.or_false, Bool.or_eq_true, Bool.false_eq_true, true_iff, false_iff, Bool.or_eq_false_iff, beq_eq_false_iff_ne, bne_eq_false_iff_eq, Bool.not_eq_true, Bool.not_eq_false] at *); omega)
    | (with_reducible show _ = _; simp only [lowS, xo, yo, zo]; (repeat' split) <;> first | rfl | omega | (simp_all; done) | ((simp_all); omega) | (rw [Bool.eq_iff_iff]; simp at *; omega) | (simp at *; omega))
set_option maxRecDepth 100000 in
set_option maxHeartbeats 8000000 in
theorem high_cut (w : World) (news : List (Addr × Obj)) (y z : Int) (t : Bool) (yt zt : Tok) (hy : 0 ≤ y) (hy8 : y < 8) (hz : 0 ≤ z) (hz8 : z < 8) : CutG 1 w news 35 [.int y yt, .int z zt, .bool t] (fun t' => .int (highS y z t) t') := by
  unfold CutG Place
  w_top off
  k_fill
  intro mean mg mb dp un gd cn cs a ccd cl outer A₀ base h₀ L m s Q E B F X N T hk hd hu hret
  refine wpAny_call ?_
  k_dflt cell_enter
  k_steps
  all_goals (first
    | refine cb_retI (Q := Q) hret ?_ ?_ ?_
    | refine cb_retB (Q := Q) hret ?_ ?_ ?_)
  all_goals first
    | (with_reducible show Fr _ _ _ _; k_asm)
    | (with_reducible show News _ _ _ _; first | k_asm | (refine cb_drop (by k_asm) ?_; kcj_all))
    | (with_reducible show _ = _; rfl)
    | (with_reducible show (_ : Int) = _; law_clear; revert o; exact octP (by decide +kernel))
    | (with_reducible show (_ : Bool) = _; law_clear; revert o; exact octP (by decide +kernel))
    | (with_reducible show (_ : Int) = _; cases t <;> (law_clear; revert o; exact octP (by decide +kernel)))
    | (with_reducible show (_ : Int) = _; law_clear; revert y z t; exact pairP (by decide +kernel))
    | (with_reducible show (_ : Bool) = _; rw [Bool.eq_iff_iff]; simp only [highS, decide_eq_true_eq]; (simp only [xo, yo, zo, decide_eq_true_eq, beq_iff_eq, bne_iff_ne, ne_eq, List.any_cons, List.any_nil, Bool.or_false, Bool.or_eq_true, Bool.false_eq_true, true_iff, false_iff, Bool.or_eq_false_iff, beq_eq_false_iff_ne, bne_eq_false_iff_eq, Bool.not_eq_true, Bool.not_eq_false] at *); omega)
    | (with_reducible show _ = _; simp only [highS, xo, yo, zo]; (repeat' split) <;> first | rfl | omega | (simp_all; done) | ((simp_all); omega) | (rw [Bool.eq_iff_iff]; simp at *; omega) | (simp at *; omega))
set_option maxRecDepth 100000 in
set_option maxHeartbeats 8000000 in
theorem bits_cut (w : World) (news : List (Addr × Obj)) (o : Int) (ot : Tok) (h0 : 0 ≤ o) (h1 : o < 256) : CutG 1 w news 49 [.int o ot] (fun t' => .int (bitsS o) t') := by
  unfold CutG Place
  w_top off
  k_fill
  intro mean mg mb dp un gd cn cs a ccd cl outer A₀ base h₀ L m s Q E B F X N T hk hd hu hret
  refine wpAny_call ?_
  k_dflt cell_enter
  k_steps
  all_goals (first
    | refine cb_retI (Q := Q) hret ?_ ?_ ?_
    | refine cb_retB (Q := Q) hret ?_ ?_ ?_)
  all_goals first
    | (with_reducible show Fr _ _ _ _; k_asm)
    | (with_reducible show News _ _ _ _; first | k_asm | (refine cb_drop (by k_asm) ?_; kcj_all))
    | (with_reducible show _ = _; rfl)
    | (with_reducible show (_ : Int) = _; law_clear; revert o; exact octP (by decide +kernel))
    | (with_reducible show (_ : Bool) = _; law_clear; revert o; exact octP (by decide +kernel))
    | (with_reducible show (_ : Int) = _; cases t <;> (law_clear; revert o; exact octP (by decide +kernel)))
    | (with_reducible show (_ : Int) = _; law_clear; revert y z t; exact pairP (by decide +kernel))
    | (with_reducible show (_ : Bool) = _; rw [Bool.eq_iff_iff]; simp only [bitsS, decide_eq_true_eq]; (simp only [xo, yo, zo, decide_eq_true_eq, beq_iff_eq, bne_iff_ne, ne_eq, List.any_cons, List.any_nil, Bool.or_false, Bool.or_eq_true, Bool.false_eq_true, true_iff, false_iff, Bool.or_eq_false_iff, beq_eq_false_iff_ne, bne_eq_false_iff_eq, Bool.not_eq_true, Bool.not_eq_false] at *); omega)
    | (with_reducible show _ = _; simp only [bitsS, xo, yo, zo]; (repeat' split) <;> first | rfl | omega | (simp_all; done) | ((simp_all); omega) | (rw [Bool.eq_iff_iff]; simp at *; omega) | (simp at *; omega))
set_option maxRecDepth 100000 in
set_option maxHeartbeats 8000000 in
theorem ed_cut (w : World) (news : List (Addr × Obj)) (o : Int) (t : Bool) (ot : Tok) (h0 : 0 ≤ o) (h1 : o < 256) : CutG 1 w news 56 [.int o ot, .bool t] (fun t' => .int (edS o t) t') := by
  unfold CutG Place
  w_top off
  k_fill
  intro mean mg mb dp un gd cn cs a ccd cl outer A₀ base h₀ L m s Q E B F X N T hk hd hu hret
  have a7 := and7 o
  refine wpAny_call ?_
  k_dflt cell_enter
  k_steps
  all_goals (first
    | refine cb_retI (Q := Q) hret ?_ ?_ ?_
    | refine cb_retB (Q := Q) hret ?_ ?_ ?_)
  all_goals first
    | (with_reducible show Fr _ _ _ _; k_asm)
    | (with_reducible show News _ _ _ _; first | k_asm | (refine cb_drop (by k_asm) ?_; kcj_all))
    | (with_reducible show _ = _; rfl)
    | (with_reducible show (_ : Int) = _; law_clear; revert o; exact octP (by decide +kernel))
    | (with_reducible show (_ : Bool) = _; law_clear; revert o; exact octP (by decide +kernel))
    | (with_reducible show (_ : Int) = _; cases t <;> (law_clear; revert o; exact octP (by decide +kernel)))
    | (with_reducible show (_ : Int) = _; law_clear; revert y z t; exact pairP (by decide +kernel))
    | (with_reducible show (_ : Bool) = _; rw [Bool.eq_iff_iff]; simp only [edS, decide_eq_true_eq]; (simp only [xo, yo, zo, decide_eq_true_eq, beq_iff_eq, bne_iff_ne, ne_eq, List.any_cons, List.any_nil, Bool.or_false, Bool.or_eq_true, Bool.false_eq_true, true_iff, false_iff, Bool.or_eq_false_iff, beq_eq_false_iff_ne, bne_eq_false_iff_eq, Bool.not_eq_true, Bool.not_eq_false] at *); omega)
    | (with_reducible show _ = _; simp only [edS, xo, yo, zo]; (repeat' split) <;> first | rfl | omega | (simp_all; done) | ((simp_all); omega) | (rw [Bool.eq_iff_iff]; simp at *; omega) | (simp at *; omega))
set_option maxRecDepth 100000 in
set_option maxHeartbeats 8000000 in
theorem uses_cut (w : World) (news : List (Addr × Obj)) (o : Int) (ot : Tok) (h0 : 0 ≤ o) (h1 : o < 256) : CutG 1 w news 63 [.int o ot] (fun t' => .bool (usesS o)) := by
  unfold CutG Place
  w_top off
  k_fill
  intro mean mg mb dp un gd cn cs a ccd cl outer A₀ base h₀ L m s Q E B F X N T hk hd hu hret
  refine wpAny_call ?_
  k_dflt cell_enter
  k_steps
  all_goals (first
    | refine cb_retI (Q := Q) hret ?_ ?_ ?_
    | refine cb_retB (Q := Q) hret ?_ ?_ ?_)
  all_goals first
    | (with_reducible show Fr _ _ _ _; k_asm)
    | (with_reducible show News _ _ _ _; first | k_asm | (refine cb_drop (by k_asm) ?_; kcj_all))
    | (with_reducible show _ = _; rfl)
    | (with_reducible show (_ : Int) = _; law_clear; revert o; exact octP (by decide +kernel))
    | (with_reducible show (_ : Bool) = _; law_clear; revert o; exact octP (by decide +kernel))
    | (with_reducible show (_ : Int) = _; cases t <;> (law_clear; revert o; exact octP (by decide +kernel)))
    | (with_reducible show (_ : Int) = _; law_clear; revert y z t; exact pairP (by decide +kernel))
    | (with_reducible show (_ : Bool) = _; rw [Bool.eq_iff_iff]; simp only [usesS, decide_eq_true_eq]; (simp only [xo, yo, zo, decide_eq_true_eq, beq_iff_eq, bne_iff_ne, ne_eq, List.any_cons, List.any_nil, Bool.or_false, Bool.or_eq_true, Bool.false_eq_true, true_iff, false_iff, Bool.or_eq_false_iff, beq_eq_false_iff_ne, bne_eq_false_iff_eq, Bool.not_eq_true, Bool.not_eq_false] at *); omega)
    | (with_reducible show _ = _; simp only [usesS, xo, yo, zo]; (repeat' split) <;> first | rfl | omega | (simp_all; done) | ((simp_all); omega) | (rw [Bool.eq_iff_iff]; simp at *; omega) | (simp at *; omega))
set_option maxRecDepth 100000 in
set_option maxHeartbeats 8000000 in
theorem mainlen_cut (w : World) (news : List (Addr × Obj)) (o : Int) (ot : Tok) (h0 : 0 ≤ o) (h1 : o < 256) : CutG 1 w news 84 [.int o ot] (fun t' => .int (mainL o) t') := by
  unfold CutG Place
  w_top off
  k_fill
  intro mean mg mb dp un gd cn cs a ccd cl outer A₀ base h₀ L m s Q E B F X N T hk hd hu hret
  refine wpAny_call ?_
  k_dflt cell_enter
  k_steps
  all_goals (first
    | refine cb_retI (Q := Q) hret ?_ ?_ ?_
    | refine cb_retB (Q := Q) hret ?_ ?_ ?_)
  all_goals first
    | (with_reducible show Fr _ _ _ _; k_asm)
    | (with_reducible show News _ _ _ _; first | k_asm | (refine cb_drop (by k_asm) ?_; kcj_all))
    | (with_reducible show _ = _; rfl)
    | (with_reducible show (_ : Int) = _; law_clear; revert o; exact octP (by decide +kernel))
    | (with_reducible show (_ : Bool) = _; law_clear; revert o; exact octP (by decide +kernel))
    | (with_reducible show (_ : Int) = _; cases t <;> (law_clear; revert o; exact octP (by decide +kernel)))
    | (with_reducible show (_ : Int) = _; law_clear; revert y z t; exact pairP (by decide +kernel))
    | (with_reducible show (_ : Bool) = _; rw [Bool.eq_iff_iff]; simp only [mainL, decide_eq_true_eq]; (simp only [xo, yo, zo, decide_eq_true_eq, beq_iff_eq, bne_iff_ne, ne_eq, List.any_cons, List.any_nil, Bool.or_false, Bool.or_eq_true, Bool.false_eq_true, true_iff, false_iff, Bool.or_eq_false_iff, beq_eq_false_iff_ne, bne_eq_false_iff_eq, Bool.not_eq_true, Bool.not_eq_false] at *); omega)
    | (with_reducible show _ = _; simp only [mainL, xo, yo, zo]; (repeat' split) <;> first | rfl | omega | (simp_all; done) | ((simp_all); omega) | (rw [Bool.eq_iff_iff]; simp at *; omega) | (simp at *; omega))
set_option maxRecDepth 100000 in
set_option maxHeartbeats 8000000 in
theorem canmain_cut (w : World) (news : List (Addr × Obj)) (o : Int) (ot : Tok) (h0 : 0 ≤ o) (h1 : o < 256) : CutG 1 w news 98 [.int o ot] (fun t' => .bool (canM o)) := by
  unfold CutG Place
  w_top off
  k_fill
  intro mean mg mb dp un gd cn cs a ccd cl outer A₀ base h₀ L m s Q E B F X N T hk hd hu hret
  refine wpAny_call ?_
  k_dflt cell_enter
  k_steps
  all_goals (first
    | refine cb_retI (Q := Q) hret ?_ ?_ ?_
    | refine cb_retB (Q := Q) hret ?_ ?_ ?_)
  all_goals first
    | (with_reducible show Fr _ _ _ _; k_asm)
    | (with_reducible show News _ _ _ _; first | k_asm | (refine cb_drop (by k_asm) ?_; kcj_all))
    | (with_reducible show _ = _; rfl)
    | (with_reducible show (_ : Int) = _; law_clear; revert o; exact octP (by decide +kernel))
    | (with_reducible show (_ : Bool) = _; law_clear; revert o; exact octP (by decide +kernel))
    | (with_reducible show (_ : Int) = _; cases t <;> (law_clear; revert o; exact octP (by decide +kernel)))
    | (with_reducible show (_ : Int) = _; law_clear; revert y z t; exact pairP (by decide +kernel))
    | (with_reducible show (_ : Bool) = _; rw [Bool.eq_iff_iff]; simp only [canM, decide_eq_true_eq]; (simp only [xo, yo, zo, decide_eq_true_eq, beq_iff_eq, bne_iff_ne, ne_eq, List.any_cons, List.any_nil, Bool.or_false, Bool.or_eq_true, Bool.false_eq_true, true_iff, false_iff, Bool.or_eq_false_iff, beq_eq_false_iff_ne, bne_eq_false_iff_eq, Bool.not_eq_true, Bool.not_eq_false] at *); omega)
    | (with_reducible show _ = _; simp only [canM, xo, yo, zo]; (repeat' split) <;> first | rfl | omega | (simp_all; done) | ((simp_all); omega) | (rw [Bool.eq_iff_iff]; simp at *; omega) | (simp at *; omega))
set_option maxRecDepth 100000 in
set_option maxHeartbeats 8000000 in
theorem less_cut (w : World) (news : List (Addr × Obj)) (o : Int) (ot : Tok) (h0 : 0 ≤ o) (h1 : o < 256) : CutG 1 w news 122 [.int o ot] (fun t' => .int (lessS o) t') := by
  unfold CutG Place
  w_top off
  k_fill
  intro mean mg mb dp un gd cn cs a ccd cl outer A₀ base h₀ L m s Q E B F X N T hk hd hu hret
  refine wpAny_call ?_
  k_dflt cell_enter
  k_steps
  all_goals (first
    | refine cb_retI (Q := Q) hret ?_ ?_ ?_
    | refine cb_retB (Q := Q) hret ?_ ?_ ?_)
  all_goals first
    | (with_reducible show Fr _ _ _ _; k_asm)
    | (with_reducible show News _ _ _ _; first | k_asm | (refine cb_drop (by k_asm) ?_; kcj_all))
    | (with_reducible show _ = _; rfl)
    | (with_reducible show (_ : Int) = _; law_clear; revert o; exact octP (by decide +kernel))
    | (with_reducible show (_ : Bool) = _; law_clear; revert o; exact octP (by decide +kernel))
    | (with_reducible show (_ : Int) = _; cases t <;> (law_clear; revert o; exact octP (by decide +kernel)))
    | (with_reducible show (_ : Int) = _; law_clear; revert y z t; exact pairP (by decide +kernel))
    | (with_reducible show (_ : Bool) = _; rw [Bool.eq_iff_iff]; simp only [lessS, decide_eq_true_eq]; (simp only [xo, yo, zo, decide_eq_true_eq, beq_iff_eq, bne_iff_ne, ne_eq, List.any_cons, List.any_nil, Bool.or_false, Bool.or_eq_true, Bool.false_eq_true, true_iff, false_iff, Bool.or_eq_false_iff, beq_eq_false_iff_ne, bne_eq_false_iff_eq, Bool.not_eq_true, Bool.not_eq_false] at *); omega)
    | (with_reducible show _ = _; simp only [lessS, xo, yo, zo]; (repeat' split) <;> first | rfl | omega | (simp_all; done) | ((simp_all); omega) | (rw [Bool.eq_iff_iff]; simp at *; omega) | (simp at *; omega))
local macro_rules | `(tactic| walk_at "ite") => `(tactic| (k_here; first
  | with_reducible refine ite_tt ?_ | with_reducible refine ite_ff ?_ | (with_reducible refine split_ine ?_ ?_ <;> intro _)
  | (refine split_dec ?_ ?_ <;> intro _) | (refine split_bool ?_ ?_ <;> intro _)))
set_option maxRecDepth 100000 in
set_option maxHeartbeats 8000000 in
theorem beside_cut (w : World) (news : List (Addr × Obj)) (o : Int) (ot : Tok) (h0 : 0 ≤ o) (h1 : o < 256) : CutG 1 w news 136 [.int o ot] (fun t' => .bool (besideS o)) := by
  unfold CutG Place
  w_top off
  k_fill
  intro mean mg mb dp un gd cn cs a ccd cl outer A₀ base h₀ L m s Q E B F X N T hk hd hu hret
  refine wpAny_call ?_
  k_dflt cell_enter
  k_steps
  all_goals (first
    | refine cb_retI (Q := Q) hret ?_ ?_ ?_
    | refine cb_retB (Q := Q) hret ?_ ?_ ?_)
  all_goals first
    | (with_reducible show Fr _ _ _ _; k_asm)
    | (with_reducible show News _ _ _ _; first | k_asm | (refine cb_drop (by k_asm) ?_; kcj_all))
    | (with_reducible show _ = _; rfl)
    | (with_reducible show (_ : Int) = _; law_clear; revert o; exact octP (by decide +kernel))
    | (with_reducible show (_ : Bool) = _; law_clear; revert o; exact octP (by decide +kernel))
    | (with_reducible show (_ : Int) = _; cases t <;> (law_clear; revert o; exact octP (by decide +kernel)))
    | (with_reducible show (_ : Int) = _; law_clear; revert y z t; exact pairP (by decide +kernel))
    | (with_reducible show (_ : Bool) = _; rw [Bool.eq_iff_iff]; simp only [besideS, decide_eq_true_eq]; (simp only [xo, yo, zo, decide_eq_true_eq, beq_iff_eq, bne_iff_ne, ne_eq, List.any_cons, List.any_nil, Bool.or_false, Bool.or_eq_true, Bool.false_eq_true, true_iff, false_iff, Bool.or_eq_false_iff, beq_eq_false_iff_ne, bne_eq_false_iff_eq, Bool.not_eq_true, Bool.not_eq_false] at *); omega)
    | (with_reducible show _ = _; simp only [besideS, xo, yo, zo]; (repeat' split) <;> first | rfl | omega | (simp_all; done) | ((simp_all); omega) | (rw [Bool.eq_iff_iff]; simp at *; omega) | (simp at *; omega))
end
local macro_rules | `(tactic| walk_at "std here") => `(tactic| (refine' ⟨?b1, ?b2, ?b3, ?b4, ?b5, ?b6, ?b7, ?b8⟩; (case b1 => k_asm); (case b2 => k_asm); (case b3 => k_asm); (case b4 => k_asm); (case b5 => k_asm); (case b6 => first | exact rfl | assumption); (case b7 => ktr_room); (case b8 => ktr_units)))
section
local macro_rules | `(tactic| walk_at "call ref") => `(tactic| (k_here; k_dflt (first
    | (refine' place_use (low_cut _ _ _ _ _ _ _ ?p0 ?p1 ?p2 ?p3) ?st ?_; (case st => walk_at "std here"); (case p0 => first | omega | exact (and7 _).1 | exact (and7 _).2); (case p1 => first | omega | exact (and7 _).1 | exact (and7 _).2); (case p2 => first | omega | exact (and7 _).1 | exact (and7 _).2); (case p3 => first | omega | exact (and7 _).1 | exact (and7 _).2); intro t9 h9 tk9 F9 N9; (try dsimp only); (try k_fold))
    | (refine' place_use (high_cut _ _ _ _ _ _ _ ?p0 ?p1 ?p2 ?p3) ?st ?_; (case st => walk_at "std here"); (case p0 => first | omega | exact (and7 _).1 | exact (and7 _).2); (case p1 => first | omega | exact (and7 _).1 | exact (and7 _).2); (case p2 => first | omega | exact (and7 _).1 | exact (and7 _).2); (case p3 => first | omega | exact (and7 _).1 | exact (and7 _).2); intro t9 h9 tk9 F9 N9; (try dsimp only); (try k_fold)))))
set_option maxRecDepth 100000 in
set_option maxHeartbeats 8000000 in
theorem main_cut (w : World) (news : List (Addr × Obj)) (o : Int) (t : Bool) (ot : Tok) (h0 : 0 ≤ o) (h1 : o < 256) : CutG 2 w news 42 [.int o ot, .bool t] (fun t' => .int (mainS o t) t') := by
  unfold CutG Place
  w_top off
  k_fill
  intro mean mg mb dp un gd cn cs a ccd cl outer A₀ base h₀ L m s Q E B F X N T hk hd hu hret
  have a7 := and7 (o.fdiv (2 ^ Int.toNat 3))
  have a8 := and7 o
  refine wpAny_call ?_
  k_dflt cell_enter
  k_steps
  all_goals (first
    | refine cb_retI (Q := Q) hret ?_ ?_ ?_
    | refine cb_retB (Q := Q) hret ?_ ?_ ?_)
  all_goals first
    | (with_reducible show Fr _ _ _ _; k_asm)
    | (with_reducible show News _ _ _ _; first | k_asm | (refine cb_drop (by k_asm) ?_; kcj_all))
    | (with_reducible show _ = _; rfl)
    | (with_reducible show (_ : Int) = _; law_clear; revert o; exact octP (by decide +kernel))
    | (with_reducible show (_ : Bool) = _; law_clear; revert o; exact octP (by decide +kernel))
    | (with_reducible show (_ : Int) = _; cases t <;> (law_clear; revert o; exact octP (by decide +kernel)))
    | (with_reducible show (_ : Int) = _; law_clear; revert y z t; exact pairP (by decide +kernel))
    | (with_reducible show (_ : Bool) = _; rw [Bool.eq_iff_iff]; simp only [mainS, decide_eq_true_eq]; (simp only [xo, yo, zo, decide_eq_true_eq, beq_iff_eq, bne_iff_ne, ne_eq, List.any_cons, List.any_nil, Bool.or_false, Bool.or_eq_true, Bool.false_eq_true, true_iff, false_iff, Bool.or_eq_false_iff, beq_eq_false_iff_ne, bne_eq_false_iff_eq, Bool.not_eq_true, Bool.not_eq_false] at *); omega)
    | (with_reducible show _ = _; simp only [mainS, xo, yo, zo]; (repeat' split) <;> first | rfl | omega | (simp_all; done) | ((simp_all); omega) | (rw [Bool.eq_iff_iff]; simp at *; omega) | (simp at *; omega))
end
section
local macro_rules | `(tactic| walk_at "nowhere") => `(tactic| skip)
local macro_rules | `(tactic| walk_at "call ref") => `(tactic| (k_here; k_dflt (first
    | (refine' place_use (main_cut _ _ _ _ _ ?p0 ?p1) ?st ?_; (case st => walk_at "std here"); (case p0 => first | omega | exact (and7 _).1 | exact (and7 _).2); (case p1 => first | omega | exact (and7 _).1 | exact (and7 _).2); intro t9 h9 tk9 F9 N9; (try dsimp only); (try k_fold))
    | (refine' place_use (uses_cut _ _ _ _ ?p0 ?p1) ?st ?_; (case st => walk_at "std here"); (case p0 => first | omega | exact (and7 _).1 | exact (and7 _).2); (case p1 => first | omega | exact (and7 _).1 | exact (and7 _).2); intro t9 h9 tk9 F9 N9; (try dsimp only); (try k_fold)))))
set_option maxRecDepth 100000 in
set_option maxHeartbeats 8000000 in
theorem index_cut (w : World) (news : List (Addr × Obj)) (o : Int) (t : Bool) (ot : Tok) (h0 : 0 ≤ o) (h1 : o < 256) : CutG 3 w news 70 [.int o ot, .bool t] (fun t' => .int (indexS o t) t') := by
  unfold CutG Place
  w_top off
  k_fill
  intro mean mg mb dp un gd cn cs a ccd cl outer A₀ base h₀ L m s Q E B F X N T hk hd hu hret
  refine wpAny_call ?_
  k_dflt cell_enter
  k_steps
  all_goals (first
    | refine cb_retI (Q := Q) hret ?_ ?_ ?_
    | refine cb_retB (Q := Q) hret ?_ ?_ ?_)
  all_goals first
    | (with_reducible show Fr _ _ _ _; k_asm)
    | (with_reducible show News _ _ _ _; first | k_asm | (refine cb_drop (by k_asm) ?_; kcj_all))
    | (with_reducible show _ = _; rfl)
    | (with_reducible show (_ : Int) = _; law_clear; revert o; exact octP (by decide +kernel))
    | (with_reducible show (_ : Bool) = _; law_clear; revert o; exact octP (by decide +kernel))
    | (with_reducible show (_ : Int) = _; cases t <;> (law_clear; revert o; exact octP (by decide +kernel)))
    | (with_reducible show (_ : Int) = _; law_clear; revert y z t; exact pairP (by decide +kernel))
    | (with_reducible show (_ : Bool) = _; rw [Bool.eq_iff_iff]; simp only [indexS, decide_eq_true_eq]; (simp only [xo, yo, zo, decide_eq_true_eq, beq_iff_eq, bne_iff_ne, ne_eq, List.any_cons, List.any_nil, Bool.or_false, Bool.or_eq_true, Bool.false_eq_true, true_iff, false_iff, Bool.or_eq_false_iff, beq_eq_false_iff_ne, bne_eq_false_iff_eq, Bool.not_eq_true, Bool.not_eq_false] at *); omega)
    | (with_reducible show _ = _; simp only [indexS, xo, yo, zo]; (repeat' split) <;> first | rfl | omega | (simp_all; done) | ((simp_all); omega) | (rw [Bool.eq_iff_iff]; simp at *; omega) | (simp at *; omega))
end
section
set_option maxRecDepth 100000 in
set_option maxHeartbeats 8000000 in
theorem peek_cut0 (w : World) (news : List (Addr × Obj)) (l : Addr) (nn : Nat) (vs : List Value) (ns : List Int) (i : Int) (it : Tok) (r : Int) (hi : IntsAre vs ns) (hlen : ns.length = 64) (h0 : 0 ≤ i) (h1 : i < 80) (hr : ns.getD (i.fmod 64).toNat 0 = r) :
  CutG 1 w ((l, listOf vs.toArray nn) :: news) 21 [.ref l, .int i it] (fun t => .int r t) := by
  unfold CutG Place
  w_top off
  k_fill
  intro mean mg mb dp un gd cn cs a ccd cl outer A₀ base h₀ L m s Q E B F X N T hk hd hu hret
  have hvl := hi.length
  refine wpAny_call ?_
  k_dflt cell_enter
  k_steps
  refine cb_retI (Q := Q) hret ?_ (by k_asm) (by k_asm)
  rw [hlen]; exact hr
theorem peek_cut (w : World) (news : List (Addr × Obj)) (l : Addr) (nn : Nat) (vs : List Value) (ns : List Int) (i : Int) (it : Tok) (r : Int) (hl : (l, listOf vs.toArray nn) ∈ news) (hi : IntsAre vs ns) (hlen : ns.length = 64) (h0 : 0 ≤ i) (h1 : i < 80) (hr : ns.getD (i.fmod 64).toNat 0 = r) :
  CutG 1 w news 21 [.ref l, .int i it] (fun t => .int r t) := by
  intro mean mg mb dp un gd cn cs a ccd cl outer A₀ base h₀ L m s Q E B F X N T hk hd hu hret
  exact peek_cut0 w news l nn vs ns i it r hi hlen h0 h1 hr mean mg mb dp un gd cn cs a ccd cl outer A₀ base h₀ L m s Q E B F X
    (fun p hp => (List.mem_cons.mp hp).elim (fun e => e ▸ N _ hl) (N p)) T hk hd hu fun t h' tk' F' N' => hret t h' tk' F' fun p hp => N' p (List.mem_cons_of_mem _ hp)
end
section
abbrev boxOf (l : Addr) (nb : Nat) (i : Int) (it : Tok) (h : Int) (ht : Tok) : Obj := listOf #[.int i it, .ref l, .int h ht] nb
local macro_rules | `(tactic| k_all) => `(tactic| with_reducible assumption)
set_option maxRecDepth 100000 in
set_option maxHeartbeats 8000000 in
theorem draw_cut0 (w : World) (rest : List (Addr × Obj)) (b l : Addr) (nb nl : Nat) (vs : List Value) (ns : List Int) (i h k : Int) (it ht kt : Tok) (hi : IntsAre vs ns) (hlen : ns.length ≤ 40) (h0 : -1 ≤ i) (h1 : i < 200) (h2 : 0 ≤ h) (h3 : h < 2147483647) (hk0 : 0 < k) (hk1 : k < 257)
  (hrest : ∀ p ∈ rest, p.1 ≠ b) (hlb : l ≠ b) :
  Place 1 w ((b, boxOf l nb i it h ht) :: (l, listOf vs.toArray nl) :: rest) (fun L m h₀ s Q =>
    ∀ v t i' h2 it' ht' h' tk', Fr h₀ L h' m → News h₀ L h' ((b, boxOf l nb i' it' h2 ht') :: (l, listOf vs.toArray nl) :: rest) → i' = i + 1 → 0 ≤ h2 → h2 < 2147483647 → 0 ≤ v → v < k → Q (.int v t) { s with heap := h', toks := tk' })
    150 [.ref b, .int k kt] := by
  unfold Place
  w_top off
  k_fill
  intro mean mg mb dp un gd cn cs a ccd cl outer A₀ base h₀ L m s Q E B F X N T hk hd hu hret
  have hvl := hi.length
  refine wpAny_call ?_
  k_dflt cell_enter
  k_steps
  all_goals (refine hret _ _ _ _ _ _ _ _ (by k_asm) (by k_asm) rfl ?_ ?_ (Int.fmod_nonneg_of_pos _ hk0) (Int.fmod_lt_of_pos _ hk0))
  all_goals first | assumption | exact Int.fmod_nonneg_of_pos _ (by decide) | exact Int.fmod_lt_of_pos _ (by decide)
theorem upd_mem {b : Addr} {o o' : Obj} : ∀ {l l' : List (Addr × Obj)}, Upd b o o' l l' → ∀ p ∈ l', p = (b, o') ∨ (p ∈ l ∧ p.1 ≠ b)
  | _, _, .head h, p, hp => (List.mem_cons.mp hp).elim .inl fun hp => .inr ⟨List.mem_cons_of_mem _ hp, h p hp⟩
  | _, _, .tail n r, p, hp => (List.mem_cons.mp hp).elim (fun e => .inr (by subst e; exact ⟨List.mem_cons_self .., n⟩)) fun hp => (upd_mem r p hp).imp id fun x => ⟨List.mem_cons_of_mem _ x.1, x.2⟩
theorem draw_cut (w : World) (news : List (Addr × Obj)) (b l : Addr) (nb nl : Nat) (vs : List Value) (ns : List Int) (i h k : Int) (it ht kt : Tok) (hb : (b, boxOf l nb i it h ht) ∈ news) (hl : (l, listOf vs.toArray nl) ∈ news) (hi : IntsAre vs ns) (hlen : ns.length ≤ 40) (h0 : -1 ≤ i) (h1 : i < 200) (h2 : 0 ≤ h) (h3 : h < 2147483647) (hk0 : 0 < k) (hk1 : k < 257)
  (hlb : l ≠ b) :
  Place 1 w news (fun L m h₀ s Q =>
    ∀ v t i' h2 it' ht' h' tk', Fr h₀ L h' m → (∀ o news', o = boxOf l nb i it h ht → Upd b o (boxOf l nb i' it' h2 ht') news news' → News h₀ L h' news') → i' = i + 1 → 0 ≤ h2 → h2 < 2147483647 → 0 ≤ v → v < k → Q (.int v t) { s with heap := h', toks := tk' })
    150 [.ref b, .int k kt] := by
  intro mean mg mb dp un gd cn cs a ccd cl outer A₀ base h₀ L m s Q E B F X N T hk hd hu hret
  refine draw_cut0 w (news.filter fun p => decide (p.1 ≠ b)) b l nb nl vs ns i h k it ht kt hi hlen h0 h1 h2 h3 hk0 hk1 (fun p hp => by simpa using (List.mem_filter.mp hp).2) hlb mean mg mb dp un gd cn cs a ccd cl outer A₀ base h₀ L m s Q E B F X
    (fun p hp => ?_) T hk hd hu fun v t i' h2 it' ht' h' tk' F' N' e a1 a2 a3 a4 => hret v t i' h2 it' ht' h' tk' F' (fun o news' eo U p hp => ?_) e a1 a2 a3 a4
  · rcases List.mem_cons.mp hp with rfl | hp
    · exact N _ hb
    · rcases List.mem_cons.mp hp with rfl | hp
      · exact N _ hl
      · exact N _ (List.mem_filter.mp hp).1
  · rcases upd_mem U p hp with rfl | ⟨hp, hn⟩
    · exact N' _ (List.mem_cons_self ..)
    · exact N' _ (List.mem_cons_of_mem _ (List.mem_cons_of_mem _ (List.mem_filter.mpr ⟨hp, by simpa using hn⟩)))
end
section
def statesS (r0 r1 r3 : Int) (t : Bool) : Int :=
  if r0 = 203 then bitsS r1 else if r0 = 237 then edS r1 t else if ¬ (r0 = 221 ∨ r0 = 253) then mainS r0 t
  else if r1 = 221 ∨ r1 = 237 ∨ r1 = 253 then 4 else if r1 ≠ 203 then indexS r1 t else if xo r3 = 1 then 20 else 23
def lengthS (r0 r1 : Int) : Int :=
  if r0 = 237 then (if xo r1 = 1 then (if zo r1 = 3 then 4 else 2) else 2) else if ¬ (r0 = 221 ∨ r0 = 253) then mainL r0
  else if r1 = 221 ∨ r1 = 237 ∨ r1 = 253 then 1 else if r1 = 203 then 4 else 1 + mainL r1 + (if usesS r1 = true then 1 else 0)
def canT (r0 r1 : Int) : Bool :=
  if r0 = 221 ∨ r0 = 253 then (if r1 = 203 ∨ r1 = 221 ∨ r1 = 237 ∨ r1 = 253 then false else canM r1)
  else if r0 = 237 then decide (xo r1 = 2 ∧ 5 < yo r1 ∧ zo r1 < 4) else canM r0
theorem any2 (x : Int) : (([221, 253].any fun y => y == x) = true) = (x = 221 ∨ x = 253) := by
  simp only [List.any_cons, List.any_nil, Bool.or_false, Bool.or_eq_true, beq_iff_eq]
  rw [eq_comm (a := (221 : Int)), eq_comm (a := (253 : Int))]
theorem any3 (x : Int) : (([221, 237, 253].any fun y => y == x) = true) = (x = 221 ∨ x = 237 ∨ x = 253) := by
  simp only [List.any_cons, List.any_nil, Bool.or_false, Bool.or_eq_true, beq_iff_eq]
  rw [eq_comm (a := (221 : Int)), eq_comm (a := (237 : Int)), eq_comm (a := (253 : Int))]
theorem near2 (x a b : Int) : (if 64 ≤ x ∧ x < 128 then a else b) = (if 64 ≤ x then (if x < 128 then a else b) else b) := by
  by_cases h : 64 ≤ x
  · by_cases k : x < 128
    · rw [if_pos ⟨h, k⟩, if_pos h, if_pos k]
    · rw [if_neg (fun z => k z.2), if_pos h, if_neg k]
  · rw [if_neg (fun z => h z.1), if_neg h]
theorem not2 (c : Prop) [Decidable c] (a b : Int) : (if ¬ c then a else b) = (if c then b else a) := by
  by_cases h : c
  · rw [if_neg (not_not_intro h), if_pos h]
  · rw [if_pos h, if_neg h]
def statesS2 (r0 r1 r3 : Int) (t : Bool) : Int :=
  if r0 = 203 then bitsS r1 else if r0 = 237 then edS r1 t else if ([221, 253].any fun x => x == r0) = true then
    (if ([221, 237, 253].any fun x => x == r1) = true then 4 else if r1 ≠ 203 then indexS r1 t else if r3.fdiv (2 ^ Int.toNat 6) = 1 then 20 else 23)
  else mainS r0 t
def lengthS2 (r0 r1 : Int) : Int :=
  if r0 = 237 then (if r1.fdiv (2 ^ Int.toNat 6) = 1 then (if Builtin.bitAnd r1 7 = 3 then 4 else 2) else 2)
  else if ([221, 253].any fun x => x == r0) = true then
    (if ([221, 237, 253].any fun x => x == r1) = true then 1 else if r1 = 203 then 4 else 1 + mainL r1 + (if usesS r1 = true then 1 else 0))
  else mainL r0
theorem any4 (x : Int) : (([203, 221, 237, 253].any fun y => y == x) = true) = (x = 203 ∨ x = 221 ∨ x = 237 ∨ x = 253) := by
  simp only [List.any_cons, List.any_nil, Bool.or_false, Bool.or_eq_true, beq_iff_eq]
  rw [eq_comm (a := (203 : Int)), eq_comm (a := (221 : Int)), eq_comm (a := (237 : Int)), eq_comm (a := (253 : Int))]
def canT2 (r0 r1 : Int) : Bool :=
  if ([221, 253].any fun x => x == r0) = true then (if ([203, 221, 237, 253].any fun x => x == r1) = true then false else canM r1)
  else if r0 = 237 then (if r1.fdiv (2 ^ Int.toNat 6) = 2 then (if 5 < Builtin.bitAnd (r1.fdiv (2 ^ Int.toNat 3)) 7 then decide (Builtin.bitAnd r1 7 < 4) else false) else false)
  else canM r0
theorem canT_eq (r0 r1 : Int) : canT r0 r1 = canT2 r0 r1 := by
  unfold canT canT2 xo yo zo
  simp only [any2, any4]
  (repeat' split) <;> first | (simp_all; done) | (simp_all; omega)
theorem statesS_eq (r0 r1 r3 : Int) (t : Bool) : statesS r0 r1 r3 t = statesS2 r0 r1 r3 t := by
  unfold statesS statesS2 xo
  simp only [any2, any3, not2 (r0 = 221 ∨ r0 = 253)]
theorem lengthS_eq (r0 r1 : Int) : lengthS r0 r1 = lengthS2 r0 r1 := by
  unfold lengthS lengthS2 xo zo
  simp only [any2, any3, not2 (r0 = 221 ∨ r0 = 253)]
end
section
local macro_rules | `(tactic| walk_at "call ref") => `(tactic| (k_here; k_dflt (first
    | (refine' place_use (peek_cut _ _ _ _ _ _ _ _ _ ?p0 ?p1 ?p2 ?p3 ?p4 ?p5) ?st ?_; (case st => walk_at "std here"); (case p0 => k_mem); (case p1 => assumption); (case p2 => assumption); (case p3 => omega); (case p4 => omega); (case p5 => assumption); intro t9 h9 tk9 F9 N9; (try dsimp only); (try k_fold))
    | (refine' place_use (bits_cut _ _ _ _ ?p0 ?p1) ?st ?_; (case st => walk_at "std here"); (case p0 => first | omega | exact (and7 _).1 | exact (and7 _).2); (case p1 => first | omega | exact (and7 _).1 | exact (and7 _).2); intro t9 h9 tk9 F9 N9; (try dsimp only); (try k_fold))
    | (refine' place_use (ed_cut _ _ _ _ _ ?p0 ?p1) ?st ?_; (case st => walk_at "std here"); (case p0 => first | omega | exact (and7 _).1 | exact (and7 _).2); (case p1 => first | omega | exact (and7 _).1 | exact (and7 _).2); intro t9 h9 tk9 F9 N9; (try dsimp only); (try k_fold))
    | (refine' place_use (main_cut _ _ _ _ _ ?p0 ?p1) ?st ?_; (case st => walk_at "std here"); (case p0 => first | omega | exact (and7 _).1 | exact (and7 _).2); (case p1 => first | omega | exact (and7 _).1 | exact (and7 _).2); intro t9 h9 tk9 F9 N9; (try dsimp only); (try k_fold))
    | (refine' place_use (index_cut _ _ _ _ _ ?p0 ?p1) ?st ?_; (case st => walk_at "std here"); (case p0 => first | omega | exact (and7 _).1 | exact (and7 _).2); (case p1 => first | omega | exact (and7 _).1 | exact (and7 _).2); intro t9 h9 tk9 F9 N9; (try dsimp only); (try k_fold)))))
set_option maxRecDepth 100000 in
set_option maxHeartbeats 8000000 in
theorem statesof_cut0 (w : World) (news : List (Addr × Obj)) (l : Addr) (nn : Nat) (vs : List Value) (ns : List Int) (i : Int) (it : Tok) (t : Bool) (r0 r1 r3 : Int) (hi : IntsAre vs ns) (hlen : ns.length = 64) (h0 : 0 ≤ i) (h1 : i < 70) (e0 : ns.getD (i.fmod 64).toNat 0 = r0) (e1 : ns.getD ((i + 1).fmod 64).toNat 0 = r1) (e3 : ns.getD ((i + 3).fmod 64).toNat 0 = r3) (a0 : 0 ≤ r0) (b0 : r0 < 256) (a1 : 0 ≤ r1) (b1 : r1 < 256) (a3 : 0 ≤ r3) (b3 : r3 < 256) : CutG 4 w ((l, listOf vs.toArray nn) :: news) 77 [.ref l, .int i it, .bool t] (fun t' => .int (statesS r0 r1 r3 t) t') := by
  unfold CutG Place
  w_top off
  k_fill
  intro mean mg mb dp un gd cn cs a ccd cl outer A₀ base h₀ L m s Q E B F X N T hk hd hu hret
  have hvl := hi.length
  refine wpAny_call ?_
  k_dflt cell_enter
  k_steps
  all_goals (first
    | refine cb_retI (Q := Q) hret ?_ ?_ ?_
    | refine cb_retB (Q := Q) hret ?_ ?_ ?_)
  all_goals first
    | (with_reducible show Fr _ _ _ _; k_asm)
    | (with_reducible show News _ _ _ _; first | k_asm | (refine cb_drop (by k_asm) ?_; kcj_all))
    | (with_reducible show _ = _; rfl)
    | (with_reducible show (_ : Int) = _; law_clear; revert o; exact octP (by decide +kernel))
    | (with_reducible show (_ : Bool) = _; law_clear; revert o; exact octP (by decide +kernel))
    | (with_reducible show (_ : Int) = _; cases t <;> (law_clear; revert o; exact octP (by decide +kernel)))
    | (with_reducible show (_ : Int) = _; law_clear; revert y z t; exact pairP (by decide +kernel))
    | (with_reducible show (_ : Int) = _; rw [statesS_eq, statesS2]; (repeat (first | rw [if_pos (by with_reducible assumption)] | rw [if_neg (by with_reducible assumption)] | rw [if_neg (not_not_intro (by with_reducible assumption))] | rw [if_neg (ne_true_of_eq_false (by with_reducible assumption))])); all_goals rfl)
    | (with_reducible show (_ : Bool) = _; rw [Bool.eq_iff_iff]; simp only [statesS, decide_eq_true_eq]; (simp only [xo, yo, zo, decide_eq_true_eq, beq_iff_eq, bne_iff_ne, ne_eq, List.any_cons, List.any_nil, Bool.or_false, Bool.or_eq_true, Bool.false_eq_true, true_iff, false_iff, Bool.or_eq_false_iff, beq_eq_false_iff_ne, bne_eq_false_iff_eq, Bool.not_eq_true, Bool.not_eq_false] at *); omega)
    | (with_reducible show _ = _; simp only [statesS, xo, yo, zo]; (repeat' split) <;> first | rfl | omega | (simp_all; done) | ((simp_all); omega) | (rw [Bool.eq_iff_iff]; simp at *; omega) | (simp at *; omega))
theorem statesof_cut (w : World) (news : List (Addr × Obj)) (l : Addr) (nn : Nat) (vs : List Value) (ns : List Int) (i : Int) (it : Tok) (t : Bool) (r0 r1 r3 : Int) (hl : (l, listOf vs.toArray nn) ∈ news) (hi : IntsAre vs ns) (hlen : ns.length = 64) (h0 : 0 ≤ i) (h1 : i < 70) (e0 : ns.getD (i.fmod 64).toNat 0 = r0) (e1 : ns.getD ((i + 1).fmod 64).toNat 0 = r1) (e3 : ns.getD ((i + 3).fmod 64).toNat 0 = r3) (a0 : 0 ≤ r0) (b0 : r0 < 256) (a1 : 0 ≤ r1) (b1 : r1 < 256) (a3 : 0 ≤ r3) (b3 : r3 < 256) : CutG 4 w news 77 [.ref l, .int i it, .bool t] (fun t' => .int (statesS r0 r1 r3 t) t') := by
  intro mean mg mb dp un gd cn cs a ccd cl outer A₀ base h₀ L m s Q E B F X N T hk hd hu hret
  exact statesof_cut0 w news l nn vs ns i it t r0 r1 r3 hi hlen h0 h1 e0 e1 e3 a0 b0 a1 b1 a3 b3 mean mg mb dp un gd cn cs a ccd cl outer A₀ base h₀ L m s Q E B F X
    (fun p hp => (List.mem_cons.mp hp).elim (fun e => e ▸ N _ hl) (N p)) T hk hd hu fun t h' tk' F' N' => hret t h' tk' F' fun p hp => N' p (List.mem_cons_of_mem _ hp)
end
section
local macro_rules | `(tactic| walk_at "nowhere") => `(tactic| skip)
local macro_rules | `(tactic| walk_at "call ref") => `(tactic| (k_here; k_dflt (first
    | (refine' place_use (peek_cut _ _ _ _ _ _ _ _ _ ?p0 ?p1 ?p2 ?p3 ?p4 ?p5) ?st ?_; (case st => walk_at "std here"); (case p0 => k_mem); (case p1 => assumption); (case p2 => assumption); (case p3 => omega); (case p4 => omega); (case p5 => assumption); intro t9 h9 tk9 F9 N9; (try dsimp only); (try k_fold))
    | (refine' place_use (mainlen_cut _ _ _ _ ?p0 ?p1) ?st ?_; (case st => walk_at "std here"); (case p0 => first | omega | exact (and7 _).1 | exact (and7 _).2); (case p1 => first | omega | exact (and7 _).1 | exact (and7 _).2); intro t9 h9 tk9 F9 N9; (try dsimp only); (try k_fold))
    | (refine' place_use (uses_cut _ _ _ _ ?p0 ?p1) ?st ?_; (case st => walk_at "std here"); (case p0 => first | omega | exact (and7 _).1 | exact (and7 _).2); (case p1 => first | omega | exact (and7 _).1 | exact (and7 _).2); intro t9 h9 tk9 F9 N9; (try dsimp only); (try k_fold)))))
set_option maxRecDepth 100000 in
set_option maxHeartbeats 8000000 in
theorem lengthof_cut0 (w : World) (news : List (Addr × Obj)) (l : Addr) (nn : Nat) (vs : List Value) (ns : List Int) (i : Int) (it : Tok) (r0 r1 r3 : Int) (hi : IntsAre vs ns) (hlen : ns.length = 64) (h0 : 0 ≤ i) (h1 : i < 70) (e0 : ns.getD (i.fmod 64).toNat 0 = r0) (e1 : ns.getD ((i + 1).fmod 64).toNat 0 = r1) (e3 : ns.getD ((i + 3).fmod 64).toNat 0 = r3) (a0 : 0 ≤ r0) (b0 : r0 < 256) (a1 : 0 ≤ r1) (b1 : r1 < 256) (a3 : 0 ≤ r3) (b3 : r3 < 256) : CutG 3 w ((l, listOf vs.toArray nn) :: news) 91 [.ref l, .int i it] (fun t' => .int (lengthS r0 r1) t') := by
  unfold CutG Place
  w_top off
  k_fill
  intro mean mg mb dp un gd cn cs a ccd cl outer A₀ base h₀ L m s Q E B F X N T hk hd hu hret
  have hvl := hi.length
  refine wpAny_call ?_
  k_dflt cell_enter
  k_steps
  all_goals (first
    | refine cb_retI (Q := Q) hret ?_ ?_ ?_
    | refine cb_retB (Q := Q) hret ?_ ?_ ?_)
  all_goals first
    | (with_reducible show Fr _ _ _ _; k_asm)
    | (with_reducible show News _ _ _ _; first | k_asm | (refine cb_drop (by k_asm) ?_; kcj_all))
    | (with_reducible show _ = _; rfl)
    | (with_reducible show (_ : Int) = _; law_clear; revert o; exact octP (by decide +kernel))
    | (with_reducible show (_ : Bool) = _; law_clear; revert o; exact octP (by decide +kernel))
    | (with_reducible show (_ : Int) = _; cases t <;> (law_clear; revert o; exact octP (by decide +kernel)))
    | (with_reducible show (_ : Int) = _; law_clear; revert y z t; exact pairP (by decide +kernel))
    | (with_reducible show (_ : Int) = _; rw [lengthS_eq, lengthS2]; (repeat (first | rw [if_pos (by with_reducible assumption)] | rw [if_neg (by with_reducible assumption)] | rw [if_neg (not_not_intro (by with_reducible assumption))] | rw [if_neg (ne_true_of_eq_false (by with_reducible assumption))])); all_goals rfl)
    | (with_reducible show (_ : Bool) = _; rw [Bool.eq_iff_iff]; simp only [lengthS, decide_eq_true_eq]; (simp only [xo, yo, zo, decide_eq_true_eq, beq_iff_eq, bne_iff_ne, ne_eq, List.any_cons, List.any_nil, Bool.or_false, Bool.or_eq_true, Bool.false_eq_true, true_iff, false_iff, Bool.or_eq_false_iff, beq_eq_false_iff_ne, bne_eq_false_iff_eq, Bool.not_eq_true, Bool.not_eq_false] at *); omega)
    | (with_reducible show _ = _; simp only [lengthS, xo, yo, zo]; (repeat' split) <;> first | rfl | omega | (simp_all; done) | ((simp_all); omega) | (rw [Bool.eq_iff_iff]; simp at *; omega) | (simp at *; omega))
theorem lengthof_cut (w : World) (news : List (Addr × Obj)) (l : Addr) (nn : Nat) (vs : List Value) (ns : List Int) (i : Int) (it : Tok) (r0 r1 r3 : Int) (hl : (l, listOf vs.toArray nn) ∈ news) (hi : IntsAre vs ns) (hlen : ns.length = 64) (h0 : 0 ≤ i) (h1 : i < 70) (e0 : ns.getD (i.fmod 64).toNat 0 = r0) (e1 : ns.getD ((i + 1).fmod 64).toNat 0 = r1) (e3 : ns.getD ((i + 3).fmod 64).toNat 0 = r3) (a0 : 0 ≤ r0) (b0 : r0 < 256) (a1 : 0 ≤ r1) (b1 : r1 < 256) (a3 : 0 ≤ r3) (b3 : r3 < 256) : CutG 3 w news 91 [.ref l, .int i it] (fun t' => .int (lengthS r0 r1) t') := by
  intro mean mg mb dp un gd cn cs a ccd cl outer A₀ base h₀ L m s Q E B F X N T hk hd hu hret
  exact lengthof_cut0 w news l nn vs ns i it r0 r1 r3 hi hlen h0 h1 e0 e1 e3 a0 b0 a1 b1 a3 b3 mean mg mb dp un gd cn cs a ccd cl outer A₀ base h₀ L m s Q E B F X
    (fun p hp => (List.mem_cons.mp hp).elim (fun e => e ▸ N _ hl) (N p)) T hk hd hu fun t h' tk' F' N' => hret t h' tk' F' fun p hp => N' p (List.mem_cons_of_mem _ hp)
end
section
local macro_rules | `(tactic| walk_at "call ref") => `(tactic| (k_here; k_dflt (first
    | (refine' place_use (peek_cut _ _ _ _ _ _ _ _ _ ?p0 ?p1 ?p2 ?p3 ?p4 ?p5) ?st ?_; (case st => walk_at "std here"); (case p0 => k_mem); (case p1 => assumption); (case p2 => assumption); (case p3 => omega); (case p4 => omega); (case p5 => assumption); intro t9 h9 tk9 F9 N9; (try dsimp only); (try k_fold))
    | (refine' place_use (canmain_cut _ _ _ _ ?p0 ?p1) ?st ?_; (case st => walk_at "std here"); (case p0 => first | omega | exact (and7 _).1 | exact (and7 _).2); (case p1 => first | omega | exact (and7 _).1 | exact (and7 _).2); intro t9 h9 tk9 F9 N9; (try dsimp only); (try k_fold)))))
set_option maxRecDepth 100000 in
set_option maxHeartbeats 8000000 in
theorem cantake_cut0 (w : World) (news : List (Addr × Obj)) (l : Addr) (nn : Nat) (vs : List Value) (ns : List Int) (i : Int) (it : Tok) (r0 r1 r3 : Int) (hi : IntsAre vs ns) (hlen : ns.length = 64) (h0 : 0 ≤ i) (h1 : i < 70) (e0 : ns.getD (i.fmod 64).toNat 0 = r0) (e1 : ns.getD ((i + 1).fmod 64).toNat 0 = r1) (e3 : ns.getD ((i + 3).fmod 64).toNat 0 = r3) (a0 : 0 ≤ r0) (b0 : r0 < 256) (a1 : 0 ≤ r1) (b1 : r1 < 256) (a3 : 0 ≤ r3) (b3 : r3 < 256) : CutG 3 w ((l, listOf vs.toArray nn) :: news) 105 [.ref l, .int i it] (fun t' => .bool (canT r0 r1)) := by
  unfold CutG Place
  w_top off
  k_fill
  intro mean mg mb dp un gd cn cs a ccd cl outer A₀ base h₀ L m s Q E B F X N T hk hd hu hret
  have hvl := hi.length
  refine wpAny_call ?_
  k_dflt cell_enter
  k_steps
  all_goals (first
    | refine cb_retI (Q := Q) hret ?_ ?_ ?_
    | refine cb_retB (Q := Q) hret ?_ ?_ ?_)
  all_goals first
    | (with_reducible show Fr _ _ _ _; k_asm)
    | (with_reducible show News _ _ _ _; first | k_asm | (refine cb_drop (by k_asm) ?_; kcj_all))
    | (with_reducible show _ = _; rfl)
    | (with_reducible show (_ : Int) = _; law_clear; revert o; exact octP (by decide +kernel))
    | (with_reducible show (_ : Bool) = _; law_clear; revert o; exact octP (by decide +kernel))
    | (with_reducible show (_ : Int) = _; cases t <;> (law_clear; revert o; exact octP (by decide +kernel)))
    | (with_reducible show (_ : Int) = _; law_clear; revert y z t; exact pairP (by decide +kernel))
    | (with_reducible show (_ : Bool) = _; rw [canT_eq, canT2]; (repeat (first | rw [if_pos (by with_reducible assumption)] | rw [if_neg (by with_reducible assumption)] | rw [if_neg (not_not_intro (by with_reducible assumption))] | rw [if_neg (ne_true_of_eq_false (by with_reducible assumption))])); all_goals rfl)
    | (with_reducible show (_ : Bool) = _; rw [Bool.eq_iff_iff]; simp only [canT, decide_eq_true_eq]; (simp only [xo, yo, zo, decide_eq_true_eq, beq_iff_eq, bne_iff_ne, ne_eq, List.any_cons, List.any_nil, Bool.or_false, Bool.or_eq_true, Bool.false_eq_true, true_iff, false_iff, Bool.or_eq_false_iff, beq_eq_false_iff_ne, bne_eq_false_iff_eq, Bool.not_eq_true, Bool.not_eq_false] at *); omega)
    | (with_reducible show _ = _; simp only [canT, xo, yo, zo]; (repeat' split) <;> first | rfl | omega | (simp_all; done) | ((simp_all); omega) | (rw [Bool.eq_iff_iff]; simp at *; omega) | (simp at *; omega))
theorem cantake_cut (w : World) (news : List (Addr × Obj)) (l : Addr) (nn : Nat) (vs : List Value) (ns : List Int) (i : Int) (it : Tok) (r0 r1 r3 : Int) (hl : (l, listOf vs.toArray nn) ∈ news) (hi : IntsAre vs ns) (hlen : ns.length = 64) (h0 : 0 ≤ i) (h1 : i < 70) (e0 : ns.getD (i.fmod 64).toNat 0 = r0) (e1 : ns.getD ((i + 1).fmod 64).toNat 0 = r1) (e3 : ns.getD ((i + 3).fmod 64).toNat 0 = r3) (a0 : 0 ≤ r0) (b0 : r0 < 256) (a1 : 0 ≤ r1) (b1 : r1 < 256) (a3 : 0 ≤ r3) (b3 : r3 < 256) : CutG 3 w news 105 [.ref l, .int i it] (fun t' => .bool (canT r0 r1)) := by
  intro mean mg mb dp un gd cn cs a ccd cl outer A₀ base h₀ L m s Q E B F X N T hk hd hu hret
  exact cantake_cut0 w news l nn vs ns i it r0 r1 r3 hi hlen h0 h1 e0 e1 e3 a0 b0 a1 b1 a3 b3 mean mg mb dp un gd cn cs a ccd cl outer A₀ base h₀ L m s Q E B F X
    (fun p hp => (List.mem_cons.mp hp).elim (fun e => e ▸ N _ hl) (N p)) T hk hd hu fun t h' tk' F' N' => hret t h' tk' F' fun p hp => N' p (List.mem_cons_of_mem _ hp)
end
section
abbrev tup3 (a : Int) (t1 : Tok) (b : Int) (t2 : Tok) (c : Int) (t3 : Tok) : Obj := { cls := .type "tuple", data := .seq #[.int a t1, .int b t2, .int c t3] 0 }
abbrev CutT (n : Nat) (w : World) (news : List (Addr × Obj)) (f : Addr) (vs : List Value) (a b c : Int) : Prop :=
  Place n w news (fun L m h₀ s Q => ∀ d t1 t2 t3 h' tk', Fr h₀ L h' m → News h₀ L h' ((d, tup3 a t1 b t2 c t3) :: news) → Q (.ref d) { s with heap := h', toks := tk' }) f vs
theorem sub_same {K : List (Addr × Obj)} : ∀ p ∈ K, p ∈ K := fun _ h => h
theorem sub_cons {a : Addr × Obj} {K K' : List (Addr × Obj)} (h : ∀ p ∈ K, p ∈ K') : ∀ p ∈ a :: K, p ∈ a :: K' := fun p hp => (List.mem_cons.mp hp).elim (fun e => e ▸ List.mem_cons_self ..) fun hp => List.mem_cons_of_mem _ (h p hp)
theorem sub_skip {a : Addr × Obj} {K K' : List (Addr × Obj)} (h : ∀ p ∈ K, p ∈ K') : ∀ p ∈ K, p ∈ a :: K' := fun p hp => List.mem_cons_of_mem _ (h p hp)
theorem tup_end {h₀ h' : Heap} {L : Addr} {m : Str → Option Value} {news : List (Addr × Obj)} {s : Shared} {Q : Value → Shared → Prop} {a b c a' b' c' : Int} {d : Addr} {t1 t2 t3 : Tok} {tk' : Nat}
    (hret : ∀ d t1 t2 t3 h' tk', Fr h₀ L h' m → News h₀ L h' ((d, tup3 a t1 b t2 c t3) :: news) → Q (.ref d) { s with heap := h', toks := tk' })
    (F : Fr h₀ L h' m) (N : News h₀ L h' ((d, tup3 a' t1 b' t2 c' t3) :: news)) (e1 : a' = a) (e2 : b' = b) (e3 : c' = c) : Q (.ref d) { s with heap := h', toks := tk' } := by
  subst e1 e2 e3
  exact hret d t1 t2 t3 h' tk' F N
def leA (o : Int) : Int :=
  if 64 ≤ o ∧ o < 128 then [12, 12, 15, 20, 8, 14, 8, [9, 9, 9, 9, 18, 18, 8, 8].getD ((o.fdiv 8).fmod 8).toNat 0].getD (o.fmod 8).toNat 0
  else if o = 160 ∨ o = 161 ∨ o = 162 ∨ o = 163 ∨ o = 168 ∨ o = 169 ∨ o = 170 ∨ o = 171 then 16
  else if o = 176 ∨ o = 177 ∨ o = 178 ∨ o = 179 ∨ o = 184 ∨ o = 185 ∨ o = 186 ∨ o = 187 then 21 else 8
def leB (o : Int) : Int :=
  if 64 ≤ o ∧ o < 128 then [12, 12, 15, 20, 8, 14, 8, [9, 9, 9, 9, 18, 18, 8, 8].getD ((o.fdiv 8).fmod 8).toNat 0].getD (o.fmod 8).toNat 0
  else if o = 160 ∨ o = 161 ∨ o = 162 ∨ o = 163 ∨ o = 168 ∨ o = 169 ∨ o = 170 ∨ o = 171 then 16
  else if o = 176 ∨ o = 177 ∨ o = 178 ∨ o = 179 ∨ o = 184 ∨ o = 185 ∨ o = 186 ∨ o = 187 then 16 else 8
def leC (o : Int) : Int := if 64 ≤ o ∧ o < 128 then (if o.fmod 8 = 3 then 4 else 2) else 2
def dueA (tab : List Int) (r0 r1 r3 : Int) : Int :=
  if r0 = 203 then (if r1.fmod 8 ≠ 6 then 8 else if 64 ≤ r1 ∧ r1 < 128 then 12 else 15)
  else if r0 = 237 then leA r1
  else if ¬ (r0 = 221 ∨ r0 = 253) then tab.getD r0.toNat 0
  else if r1 = 221 ∨ r1 = 237 ∨ r1 = 253 then 4
  else if r1 = 203 then (if 64 ≤ r3 ∧ r3 < 128 then 20 else 23)
  else tab.getD r1.toNat 0 + (4 + (if besideS r1 = true then 8 else 0) - (if r1 = 54 then 3 else 0))
def dueB (tab : List Int) (r0 r1 r3 : Int) : Int :=
  if r0 = 203 then (if r1.fmod 8 ≠ 6 then 8 else if 64 ≤ r1 ∧ r1 < 128 then 12 else 15)
  else if r0 = 237 then leB r1
  else if ¬ (r0 = 221 ∨ r0 = 253) then tab.getD r0.toNat 0 - lessS r0
  else if r1 = 221 ∨ r1 = 237 ∨ r1 = 253 then 4
  else if r1 = 203 then (if 64 ≤ r3 ∧ r3 < 128 then 20 else 23)
  else tab.getD r1.toNat 0 + (4 + (if besideS r1 = true then 8 else 0) - (if r1 = 54 then 3 else 0)) - lessS r1
def dueA2 (tab : List Int) (r0 r1 r3 : Int) : Int :=
  if r0 = 203 then (if r1.fmod 8 ≠ 6 then 8 else if 64 ≤ r1 then (if r1 < 128 then 12 else 15) else 15)
  else if r0 = 237 then leA r1
  else if ([221, 253].any fun x => x == r0) = true then
    (if ([221, 237, 253].any fun x => x == r1) = true then 4
    else if r1 = 203 then (if 64 ≤ r3 then (if r3 < 128 then 20 else 23) else 23)
    else tab.getD r1.toNat 0 + (4 + (if besideS r1 = true then 8 else 0) - (if r1 = 54 then 3 else 0)))
  else tab.getD r0.toNat 0
def dueB2 (tab : List Int) (r0 r1 r3 : Int) : Int :=
  if r0 = 203 then (if r1.fmod 8 ≠ 6 then 8 else if 64 ≤ r1 then (if r1 < 128 then 12 else 15) else 15)
  else if r0 = 237 then leB r1
  else if ([221, 253].any fun x => x == r0) = true then
    (if ([221, 237, 253].any fun x => x == r1) = true then 4
    else if r1 = 203 then (if 64 ≤ r3 then (if r3 < 128 then 20 else 23) else 23)
    else tab.getD r1.toNat 0 + (4 + (if besideS r1 = true then 8 else 0) - (if r1 = 54 then 3 else 0)) - lessS r1)
  else tab.getD r0.toNat 0 - lessS r0
def dueC (lens : List Int) (r0 r1 : Int) : Int :=
  if r0 = 203 then 2 else if r0 = 237 then leC r1
  else if ¬ (r0 = 221 ∨ r0 = 253) then lens.getD r0.toNat 0
  else if r1 = 221 ∨ r1 = 237 ∨ r1 = 253 then 1
  else if r1 = 203 then 4
  else 1 + lens.getD r1.toNat 0 + (if besideS r1 = true then 1 else 0)
set_option maxRecDepth 100000 in
set_option maxHeartbeats 8000000 in
theorem lawed_cut (w : World) (news : List (Addr × Obj)) (o : Int) (ot : Tok) (h0 : 0 ≤ o) (h1 : o < 256) : CutT 1 w news 129 [.int o ot] (leA o) (leB o) (leC o) := by
  unfold CutT Place
  w_top off
  k_fill
  intro mean mg mb dp un gd cn cs a ccd cl outer A₀ base h₀ L m s Q E B F X N T hk hd hu hret
  refine wpAny_call ?_
  k_dflt cell_enter
  k_steps
  all_goals (refine' tup_end (Q := Q) hret ?cF (cb_drop ?cN ?cS) ?_ ?_ ?_; (case cF => k_asm); (case cN => k_asm); (case cS => (refine sub_cons ?_; repeat (first | with_reducible exact sub_same | with_reducible refine sub_skip ?_))))
  all_goals first
    | (with_reducible show _ = _; rfl)
    | (with_reducible show (_ : Int) = _; law_clear; revert o; exact octP (by decide +kernel))
    | (with_reducible show (_ : Int) = _; (first | rw [dueA_eq, dueA2] | rw [dueB_eq, dueB2] | rw [dueC_eq, dueC2]); (repeat (first | rw [if_pos (by with_reducible assumption)] | rw [if_neg (by with_reducible assumption)] | rw [if_neg (not_not_intro (by with_reducible assumption))] | rw [if_neg (ne_true_of_eq_false (by with_reducible assumption))])); all_goals rfl)
    | (with_reducible show _ = _; law_clear; (simp only [leA, leB, leC]); (try simp only [List.any_cons, List.any_nil, Bool.or_false, Bool.or_eq_true, beq_iff_eq, Bool.or_eq_false_iff, beq_eq_false_iff_ne, ← Bool.not_eq_true] at *); (repeat' split) <;> first | rfl | contradiction | omega | (simp_all; done) | ((simp_all); omega))
end
section
def dueC2 (lens : List Int) (r0 r1 : Int) : Int :=
  if r0 = 203 then 2 else if r0 = 237 then leC r1
  else if ([221, 253].any fun x => x == r0) = true then
    (if ([221, 237, 253].any fun x => x == r1) = true then 1
    else if r1 = 203 then 4
    else 1 + lens.getD r1.toNat 0 + (if besideS r1 = true then 1 else 0))
  else lens.getD r0.toNat 0
theorem dueA_eq (tab : List Int) (r0 r1 r3 : Int) : dueA tab r0 r1 r3 = dueA2 tab r0 r1 r3 := by
  unfold dueA dueA2
  simp only [any2, any3, near2, not2 (r0 = 221 ∨ r0 = 253)]
theorem dueB_eq (tab : List Int) (r0 r1 r3 : Int) : dueB tab r0 r1 r3 = dueB2 tab r0 r1 r3 := by
  unfold dueB dueB2
  simp only [any2, any3, near2, not2 (r0 = 221 ∨ r0 = 253)]
theorem dueC_eq (lens : List Int) (r0 r1 : Int) : dueC lens r0 r1 = dueC2 lens r0 r1 := by
  unfold dueC dueC2
  simp only [any2, any3, not2 (r0 = 221 ∨ r0 = 253)]
local macro_rules | `(tactic| walk_at "call ref") => `(tactic| (k_here; k_dflt (first
    | (refine' place_use (lawed_cut _ _ _ _ ?p0 ?p1) ?st ?_; (case st => walk_at "std here"); (case p0 => omega); (case p1 => omega); intro d9 ta9 tb9 tc9 h9 tk9 F9 N9; (try dsimp only); (try k_fold))
    | (refine' place_use (less_cut _ _ _ _ ?p0 ?p1) ?st ?_; (case st => walk_at "std here"); (case p0 => first | omega | exact (and7 _).1 | exact (and7 _).2); (case p1 => first | omega | exact (and7 _).1 | exact (and7 _).2); intro t9 h9 tk9 F9 N9; (try dsimp only); (try k_fold))
    | (refine' place_use (beside_cut _ _ _ _ ?p0 ?p1) ?st ?_; (case st => walk_at "std here"); (case p0 => first | omega | exact (and7 _).1 | exact (and7 _).2); (case p1 => first | omega | exact (and7 _).1 | exact (and7 _).2); intro t9 h9 tk9 F9 N9; (try dsimp only); (try k_fold)))))
set_option maxRecDepth 100000 in
set_option maxHeartbeats 8000000 in
theorem due_cut0 (w : World) (news : List (Addr × Obj)) (rw tb lb : Addr) (nr nT nL : Nat) (vsR vsT vsL : List Value) (rs tab lens : List Int) (hR : IntsAre vsR rs) (hlR : rs.length = 4) (hT : IntsAre vsT tab) (hlT : tab.length = 256) (hL : IntsAre vsL lens) (hlL : lens.length = 256) (a0 : 0 ≤ rs.getD (Int.toNat 0) 0) (b0 : rs.getD (Int.toNat 0) 0 < 256) (a1 : 0 ≤ rs.getD (Int.toNat 1) 0) (b1 : rs.getD (Int.toNat 1) 0 < 256) :
  CutT 2 w ((rw, listOf vsR.toArray nr) :: (tb, listOf vsT.toArray nT) :: (lb, listOf vsL.toArray nL) :: news) 143 [.ref tb, .ref lb, .ref rw] (dueA tab (rs.getD (Int.toNat 0) 0) (rs.getD (Int.toNat 1) 0) (rs.getD (Int.toNat 3) 0)) (dueB tab (rs.getD (Int.toNat 0) 0) (rs.getD (Int.toNat 1) 0) (rs.getD (Int.toNat 3) 0)) (dueC lens (rs.getD (Int.toNat 0) 0) (rs.getD (Int.toNat 1) 0)) := by
  unfold CutT Place
  w_top off
  k_fill
  intro mean mg mb dp un gd cn cs a ccd cl outer A₀ base h₀ L m s Q E B F X N T hk hd hu hret
  have hvT := hT.length
  have hvR := hR.length
  have hvL := hL.length
  refine wpAny_call ?_
  k_dflt cell_enter
  k_steps
  all_goals (refine' tup_end (Q := Q) hret ?cF (cb_drop ?cN ?cS) ?_ ?_ ?_; (case cF => k_asm); (case cN => k_asm); (case cS => (refine sub_cons ?_; repeat (first | with_reducible exact sub_same | with_reducible refine sub_skip ?_))))
  all_goals first
    | (with_reducible show _ = _; rfl)
    | (with_reducible show (_ : Int) = _; law_clear; revert o; exact octP (by decide +kernel))
    | (with_reducible show (_ : Int) = _; (first | rw [dueA_eq, dueA2] | rw [dueB_eq, dueB2] | rw [dueC_eq, dueC2]); (repeat (first | rw [if_pos (by with_reducible assumption)] | rw [if_neg (by with_reducible assumption)] | rw [if_neg (not_not_intro (by with_reducible assumption))] | rw [if_neg (ne_true_of_eq_false (by with_reducible assumption))])); all_goals rfl)
    | (with_reducible show _ = _; law_clear; (simp only [dueA, dueB, dueC]); (try simp only [List.any_cons, List.any_nil, Bool.or_false, Bool.or_eq_true, beq_iff_eq, Bool.or_eq_false_iff, beq_eq_false_iff_ne, ← Bool.not_eq_true] at *); (repeat' split) <;> first | rfl | contradiction | omega | (simp_all; done) | ((simp_all); omega))
theorem due_cut (w : World) (news : List (Addr × Obj)) (rw tb lb : Addr) (nr nT nL : Nat) (vsR vsT vsL : List Value) (rs tab lens : List Int) (m1 : (rw, listOf vsR.toArray nr) ∈ news) (m2 : (tb, listOf vsT.toArray nT) ∈ news) (m3 : (lb, listOf vsL.toArray nL) ∈ news) (hR : IntsAre vsR rs) (hlR : rs.length = 4) (hT : IntsAre vsT tab) (hlT : tab.length = 256) (hL : IntsAre vsL lens) (hlL : lens.length = 256) (a0 : 0 ≤ rs.getD (Int.toNat 0) 0) (b0 : rs.getD (Int.toNat 0) 0 < 256) (a1 : 0 ≤ rs.getD (Int.toNat 1) 0) (b1 : rs.getD (Int.toNat 1) 0 < 256) :
  CutT 2 w news 143 [.ref tb, .ref lb, .ref rw] (dueA tab (rs.getD (Int.toNat 0) 0) (rs.getD (Int.toNat 1) 0) (rs.getD (Int.toNat 3) 0)) (dueB tab (rs.getD (Int.toNat 0) 0) (rs.getD (Int.toNat 1) 0) (rs.getD (Int.toNat 3) 0)) (dueC lens (rs.getD (Int.toNat 0) 0) (rs.getD (Int.toNat 1) 0)) := by
  intro mean mg mb dp un gd cn cs a ccd cl outer A₀ base h₀ L m s Q E B F X N T hk hd hu hret
  refine due_cut0 w news rw tb lb nr nT nL vsR vsT vsL rs tab lens hR hlR hT hlT hL hlL a0 b0 a1 b1 mean mg mb dp un gd cn cs a ccd cl outer A₀ base h₀ L m s Q E B F X
    (fun p hp => ?_) T hk hd hu fun d t1 t2 t3 h' tk' F' N' => hret d t1 t2 t3 h' tk' F' fun p hp => ?_
  · rcases List.mem_cons.mp hp with rfl | hp
    · exact N _ m1
    · rcases List.mem_cons.mp hp with rfl | hp
      · exact N _ m2
      · rcases List.mem_cons.mp hp with rfl | hp
        · exact N _ m3
        · exact N _ hp
  · rcases List.mem_cons.mp hp with rfl | hp
    · exact N' _ (List.mem_cons_self ..)
    · exact N' _ (List.mem_cons_of_mem _ (List.mem_cons_of_mem _ (List.mem_cons_of_mem _ (List.mem_cons_of_mem _ hp))))
end
section
structure Hold (P : Prop) : Prop where
  out : P
def wordD (x : Str) : PyData := .int ((PySem.intText? x).getD 0)
theorem keeps_tok {s : Shared} {h : Heap} {t : Nat} (e : h = s.heap) : Keeps s { s with heap := h, toks := t } := ⟨h, t, rfl, fun b o x => by rw [e]; exact x⟩
theorem ints_words {ys : List Value} {as : List Str} (c : CarriedAll ys ((as.filter fun _ => true).map wordD)) : IntsAre ys (as.map fun x => (PySem.intText? x).getD 0) := by
  have e : (as.filter fun _ => true) = as := List.filter_eq_self.mpr fun _ _ => rfl
  rw [e] at c
  exact CarriedAll.intsOf c
section
variable {prog : Program} {w : World} {A : Around} {E : Value → Shared → Prop} {s s₁ : Shared} {h₀ : Heap} {L : Addr} {m : Str → Option Value} {news : List (Addr × Obj)} {env : Env}
theorem news_plain {h' : Heap} {D : Addr} {ys : List Value} (N : News h₀ L h' news) (F : Fr h₀ L h' m) (hD : h₀.get? D = none) (p : NewPlain h' news D ys.toArray) : ∃ n, News h₀ L h' ((D, listOf ys.toArray n) :: news) := by
  have hne := p.ne_locals F
  obtain ⟨⟨n, e⟩, _⟩ := p
  exact ⟨n, fun q hq => (List.mem_cons.mp hq).elim (fun x => by subst x; exact ⟨e, hne, hD⟩) (N q)⟩
theorem ld_comp {K : Frag} {p : Program} {loose : List Str} {mean : ExcName → Option Value} {mg mb : Str → Option Value} {M : Model} {x : Str} {pos : Pos} {v : Value} {Q : Value → Shared → Prop} (F : Fr h₀ L s.heap m) (X : K.In h₀) (T : Top p loose mean mg mb h₀) (e : nsIn K mainGlobals x = some none) (hv : bootBuiltins x = some v) (hn : x ≠ "__name__") (hg : env.globals = mainGlobals) (hb : env.builtins = builtinsNs)
    (hk : env.scope.kind = .function) (hx : env.kindOf x = some .globalImplicit) (hd : (x == ("__debug__" : Str)) = false) (h : Q v s) : wpAny M A (eval (.Name x pos) env) Q E s :=
  Name_function_global hk hx (loadGlobal_builtin (env := env) (show s.heap.Ns env.globals mg from hg ▸ (T.keeps F.keep).g) (mg_none_of X T.g e) (show s.heap.Ns env.builtins mb from hb ▸ (T.keeps F.keep).b) ((T.builtins x hn).trans hv) h) hd
theorem words_comp {elt iter : Expr} {x : Str} {px : Pos} {scope : Scope} {cl : List (Str × Addr)} {pos : Pos} {Q : Value → Shared → Prop} (F₀ : Fr h₀ L s.heap m)
    (hh : A.handled = none) (hclos : closureFor scope env = pure cl) (hcell : ∀ y ∈ scope.names, y.2 ≠ .cell) (hkind : scope.kind = .function)
    (hnames : ∀ y ∈ scope.names, y.2 = .local → scope.names.lookup y.1 = some .local) (hx : scope.names.lookup x = some .local)
    (h : wpAny (model prog w) A (eval iter env) (fun xv s₁ => Hold (∃ news : List (Addr × Obj), ∃ ax vs as, xv = .ref ax ∧ s₁.heap.IsList ax vs.toArray ∧ AreOf ItemKind.str vs as ∧ as.length ≤ sizeLine ∧ Fr h₀ L s₁.heap m ∧ News h₀ L s₁.heap news ∧
      (∀ C a t s₂ m₂ E', a ∈ as → s₂.heap.Ns (compEnvC scope cl C env).locals m₂ → m₂ x = some (.str a t) → Fr h₀ L s₂.heap m →
        wpAny (model prog w) A (eval elt (compEnvC scope cl C env)) (fun y s₃ => Hold (Carried y (wordD a) ∧ Keeps s₂ s₃)) E' s₂) ∧
      (∀ D (ys : List Value) n h' tk, Fr h₀ L h' m → News h₀ L h' ((D, listOf ys.toArray n) :: news) → IntsAre ys (as.map fun x => (PySem.intText? x).getD 0) → Q (.ref D) { s₁ with heap := h', toks := tk }))) E s)
    (hs : ∀ x, foldedSetIterable iter env x = pure x) :
    wpAny (model prog w) A (eval (.ListComp elt [⟨.Name x px, iter, [], 0⟩] scope pos) env) Q E s := by
  refine ListComp_DCn (h₀ := h₀) (L := L) (m := m) (K := ItemKind.str) (pz := fun _ => true) (d := wordD) hh hclos hcell hkind hnames hx (wpAny_mono h (fun xv s₁ z => ?_) fun _ _ e => e) hs
  obtain ⟨news, ax, vs, as, e, hl, ha, hz, F, N, g, q⟩ := z.out
  refine ⟨news, ax, vs, as, e, hl, ha, hz, F, N, ?_, ?_, ?_⟩
  · intro C a v s₂ m₂ E' _ _ _ _ _ hk
    exact wpAny_pure ⟨rfl, s₂.heap, s₂.toks, rfl, fun _ _ e => e⟩
  · intro C a v s₂ m₂ E' _ ham hv _ hn hm hk
    obtain ⟨t, rfl⟩ := hv
    exact wpAny_mono (g C a t s₂ m₂ E' ham hn hm (F.keeps hk)) (fun _ _ x => x.out) fun _ _ e => e
  · intro D ys h' tk F' N' hD _ hp hc
    obtain ⟨n, N2⟩ := news_plain N' F' hD hp
    exact q D ys n h' tk F' N2 (ints_words hc)
theorem signs_comp {elt : Expr} {x : Str} {scope : Scope} {Q : Value → Shared → Prop} {y : Str} {t : Tok}
    (hh : A.handled = none) (F : Fr h₀ L s₁.heap m) (N : News h₀ L s₁.heap news) (hsz : y.length ≤ sizeLine)
    (g : Hold (∀ C a t s₂ m₂ E', a ∈ signs y → s₂.heap.Ns (compEnv scope C env).locals m₂ → m₂ x = some (.str a t) → Fr h₀ L s₂.heap m →
        wpAny (model prog w) A (eval elt (compEnv scope C env)) (fun r s₃ => Hold (Carried r (wordD a) ∧ Keeps s₂ s₃)) E' s₂))
    (q : Hold (∀ D (ys : List Value) n h' tk, Fr h₀ L h' m → News h₀ L h' ((D, listOf ys.toArray n) :: news) → IntsAre ys ((signs y).map fun x => (PySem.intText? x).getD 0) → Q (.ref D) { s₁ with heap := h', toks := tk })) :
    wpAny (model prog w) A (pyIter (.str y t)) (CompPost prog w A env scope x [] elt Q) E s₁ := by
  unfold CompPost
  refine wpAny_pyIter_str fun o St W hst => ?_
  have up : ∀ (h' : Heap), (∀ b o', b ∉ [s₁.heap.objs.size] → (s₁.heap.push o).get? b = some o' → h'.get? b = some o') → ∀ b o', s₁.heap.get? b = some o' → h'.get? b = some o' :=
    fun h' hk b o' e => hk b o' (old_not_new e) (Heap.get?_push_of_some _ e)
  refine ⟨ItemKind.str.lift (fun _ => true), fun v r => ∃ a, ItemKind.str.is a v ∧ Carried r (wordD a), s₁.heap.objs.size, [s₁.heap.objs.size], [s₁.heap.objs.size], y.cps.size, SignAt y, St, rfl, W A hh, hsz, hst, ?_, ⟨?_, ?_⟩, ?_⟩
  · intro b hb
    show b < (s₁.heap.push o).objs.size
    rw [Heap.size_push, List.mem_singleton.mp hb]
    exact Nat.lt_succ_self _
  · intro C i v s₃ m₃ E' hP _ _ _ _
    obtain ⟨c, u, _, rfl⟩ := hP
    have ha : ItemKind.str.is ⟨#[c]⟩ (.str ⟨#[c]⟩ u) := ⟨u, rfl⟩
    rw [ItemKind.lift_is ha]
    exact wpAny_pure ⟨rfl, s₃.heap, s₃.toks, rfl, fun _ _ e => e⟩
  · intro C i v s₃ m₃ E' hP _ hn hm hk _
    obtain ⟨c, u, hc, rfl⟩ := hP
    have hmem : (⟨#[c]⟩ : Str) ∈ signs y := by
      refine List.mem_map.mpr ⟨c, ?_, rfl⟩
      exact Array.mem_toList_iff.mpr (Array.mem_of_getElem? hc)
    exact wpAny_mono (g.out C _ u s₃ m₃ E' hmem hn hm (F.keeps (up _ hk))) (fun r s₄ h₄ => ⟨⟨_, ⟨u, rfl⟩, h₄.out.1⟩, h₄.out.2⟩) fun _ _ e => e
  · intro D h' tk ys vs hnew hlD hplD hlen hP hF hk
    have hD : h₀.get? D = none := by
      cases e : h₀.get? D with
      | none => rfl
      | some o' => rw [Heap.get?_push_of_some _ (F.keep _ _ e)] at hnew; cases hnew
    have F' := F.keeps (up h' hk)
    have N' := N.grown (up h' hk)
    have hp : NewPlain h' news D ys.toList.toArray := ⟨by rw [Array.toArray_toList]; exact hplD, fun p hp e => by rw [← e, Heap.get?_push_of_some _ (N p hp).1] at hnew; cases hnew⟩
    obtain ⟨n, N2⟩ := news_plain N' F' hD hp
    have hc : CarriedAll ys.toList (((signs y).filter fun _ => true).map wordD) := (areOf_signs hlen hP).paired (fun _ => true) wordD _ hF
    exact q.out D ys.toList n h' tk F' N2 (ints_words hc)
end
end
section
noncomputable def tabV : List Int := [4, 10, 7, 6, 4, 4, 7, 4, 4, 11, 7, 6, 4, 4, 7, 4, 13, 10, 7, 6, 4, 4, 7, 4, 12, 11, 7, 6, 4, 4, 7, 4, 12, 10, 16, 6, 4, 4, 7, 4, 12, 11, 16, 6, 4, 4, 7, 4, 12, 10, 13, 6, 11, 11, 10, 4, 12, 11, 13, 6, 4, 4, 7, 4, 4, 4, 4, 4, 4, 4, 7, 4, 4, 4, 4, 4, 4, 4, 7, 4, 4, 4, 4, 4, 4, 4, 7, 4, 4, 4, 4, 4, 4, 4, 7, 4, 4, 4, 4, 4, 4, 4, 7, 4, 4, 4, 4, 4, 4, 4, 7, 4, 7, 7, 7, 7, 7, 7, 4, 7, 4, 4, 4, 4, 4, 4, 7, 4, 4, 4, 4, 4, 4, 4, 7, 4, 4, 4, 4, 4, 4, 4, 7, 4, 4, 4, 4, 4, 4, 4, 7, 4, 4, 4, 4, 4, 4, 4, 7, 4, 4, 4, 4, 4, 4, 4, 7, 4, 4, 4, 4, 4, 4, 4, 7, 4, 4, 4, 4, 4, 4, 4, 7, 4, 4, 4, 4, 4, 4, 4, 7, 4, 11, 10, 10, 10, 17, 11, 7, 11, 11, 10, 10, 0, 17, 17, 7, 11, 11, 10, 10, 11, 17, 11, 7, 11, 11, 4, 10, 11, 17, 0, 7, 11, 11, 10, 10, 19, 17, 11, 7, 11, 11, 4, 10, 4, 17, 0, 7, 11, 11, 10, 10, 4, 17, 11, 7, 11, 11, 6, 10, 4, 17, 0, 7, 11]
noncomputable def lenV : List Int := [1, 3, 1, 1, 1, 1, 2, 1, 1, 1, 1, 1, 1, 1, 2, 1, 2, 3, 1, 1, 1, 1, 2, 1, 2, 1, 1, 1, 1, 1, 2, 1, 2, 3, 3, 1, 1, 1, 2, 1, 2, 1, 3, 1, 1, 1, 2, 1, 2, 3, 3, 1, 1, 1, 2, 1, 2, 1, 3, 1, 1, 1, 2, 1, 1, 1, 1, 1, 1, 1, 1, 1, 1, 1, 1, 1, 1, 1, 1, 1, 1, 1, 1, 1, 1, 1, 1, 1, 1, 1, 1, 1, 1, 1, 1, 1, 1, 1, 1, 1, 1, 1, 1, 1, 1, 1, 1, 1, 1, 1, 1, 1, 1, 1, 1, 1, 1, 1, 1, 1, 1, 1, 1, 1, 1, 1, 1, 1, 1, 1, 1, 1, 1, 1, 1, 1, 1, 1, 1, 1, 1, 1, 1, 1, 1, 1, 1, 1, 1, 1, 1, 1, 1, 1, 1, 1, 1, 1, 1, 1, 1, 1, 1, 1, 1, 1, 1, 1, 1, 1, 1, 1, 1, 1, 1, 1, 1, 1, 1, 1, 1, 1, 1, 1, 1, 1, 1, 1, 1, 1, 1, 1, 1, 1, 3, 3, 3, 1, 2, 1, 1, 1, 3, 0, 3, 3, 2, 1, 1, 1, 3, 2, 3, 1, 2, 1, 1, 1, 3, 2, 3, 0, 2, 1, 1, 1, 3, 1, 3, 1, 2, 1, 1, 1, 3, 1, 3, 0, 2, 1, 1, 1, 3, 1, 3, 1, 2, 1, 1, 1, 3, 1, 3, 0, 2, 1]
def goodW (a : Str) : Bool := (PySem.intText? a).isSome && decide (a.length ≤ 640)
theorem goodW_of {as : List Str} (h : as.all goodW = true) : ∀ a ∈ as, ∃ n, PySem.intText? a = some n ∧ a.length ≤ 640 := by
  intro a ha
  have := List.all_eq_true.mp h a ha
  unfold goodW at this
  rw [Bool.and_eq_true] at this
  obtain ⟨n, hn⟩ := Option.isSome_iff_exists.mp this.1
  exact ⟨n, hn, of_decide_eq_true this.2⟩
theorem str_ext {x y : Str} (h : x.cps.toList = y.cps.toList) : x = y := by
  cases x; cases y
  exact congrArg Str.mk (Array.toList_inj.mp h)
theorem cps_of (l : List Char) : (Str.ofString (String.ofList l)).cps.toList = l.map Char.toNat := by
  rw [Str.ofString_eq_toList, String.toList_ofList]
theorem cps_add (x y : Str) : (x ++ y).cps.toList = x.cps.toList ++ y.cps.toList := by
  show (x.cps ++ y.cps).toList = _
  rw [Array.toList_append]
theorem folded (x : Array Nat) : ∀ (n : Nat) (a : Array Nat), ((List.replicate n x).foldl (· ++ ·) a).toList = a.toList ++ (List.replicate n x.toList).flatten
  | 0, a => by simp
  | n + 1, a => by
    rw [List.replicate_succ, List.foldl_cons, folded x n, List.replicate_succ, List.flatten_cons, Array.toList_append, List.append_assoc]
theorem cps_mul (x : Str) (n : Nat) (h1 : 1 < n) (h2 : x.length ≠ 0) : (Txt.mul x (n : Int)).cps.toList = (List.replicate n x.cps.toList).flatten := by
  unfold Txt.mul
  rw [if_neg (by omega), if_neg ?_]
  · show ((List.replicate ((n : Int).toNat) x.cps).foldl (· ++ ·) #[]).toList = _
    rw [folded, Int.toNat_natCast]
    rfl
  · intro h
    rcases (Bool.or_eq_true _ _).mp h with h | h
    · have := eq_of_beq h
      omega
    · exact h2 (eq_of_beq h)
noncomputable def glue (c : Nat) : List (List Nat) → List Nat
  | [] => []
  | [x] => x
  | x :: y :: r => x ++ c :: glue c (y :: r)
theorem join_cps (c : Nat) : ∀ ws : List Str, (Str.join ⟨#[c]⟩ ws).cps.toList = glue c (ws.map fun x => x.cps.toList)
  | [] => rfl
  | [x] => rfl
  | x :: y :: r => by
    show (x ++ (⟨#[c]⟩ : Str) ++ Str.join ⟨#[c]⟩ (y :: r)).cps.toList = _
    rw [cps_add, cps_add, join_cps c (y :: r), List.append_assoc]
    rfl
theorem cut_first {c : Nat} : ∀ {a b r q : List Nat}, c ∉ a → c ∉ b → a ++ c :: r = b ++ c :: q → a = b ∧ r = q
  | [], [], _, _, _, _, e => ⟨rfl, (List.cons.inj e).2⟩
  | [], y :: b, _, _, _, hb, e => absurd (List.mem_cons.mpr (.inl (List.cons.inj e).1)) hb
  | x :: a, [], _, _, ha, _, e => absurd (List.mem_cons.mpr (.inl (List.cons.inj e).1.symm)) ha
  | x :: a, y :: b, r, q, ha, hb, e => by
    obtain ⟨e1, e2⟩ := List.cons.inj e
    obtain ⟨e3, e4⟩ := cut_first (fun h => ha (List.mem_cons_of_mem _ h)) (fun h => hb (List.mem_cons_of_mem _ h)) e2
    exact ⟨by rw [e1, e3], e4⟩
theorem glue_inj {c : Nat} : ∀ {ws vs : List (List Nat)}, (∀ w ∈ ws, c ∉ w) → (∀ w ∈ vs, c ∉ w) → ws ≠ [] → vs ≠ [] → glue c ws = glue c vs → ws = vs
  | [], _, _, _, h, _, _ => absurd rfl h
  | _ :: _, [], _, _, _, h, _ => absurd rfl h
  | [x], [y], _, _, _, _, e => by rw [show x = y from e]
  | [x], y :: z :: r, hw, _, _, _, e => by
    refine absurd ?_ (hw x (List.mem_cons_self ..))
    rw [show x = y ++ c :: glue c (z :: r) from e]
    exact List.mem_append_right _ (List.mem_cons_self ..)
  | y :: z :: r, [x], _, hv, _, _, e => by
    refine absurd ?_ (hv x (List.mem_cons_self ..))
    rw [show x = y ++ c :: glue c (z :: r) from Eq.symm e]
    exact List.mem_append_right _ (List.mem_cons_self ..)
  | x :: x2 :: r, y :: y2 :: q, hw, hv, _, _, e => by
    obtain ⟨e1, e2⟩ := cut_first (hw x (List.mem_cons_self ..)) (hv y (List.mem_cons_self ..)) (show x ++ c :: glue c (x2 :: r) = y ++ c :: glue c (y2 :: q) from e)
    rw [e1, glue_inj (fun w h => hw w (List.mem_cons_of_mem _ h)) (fun w h => hv w (List.mem_cons_of_mem _ h)) (by nofun) (by nofun) e2]
theorem split_is {x : Str} {c : Nat} {ws : List (List Nat)} (e : x.cps.toList = glue c ws) (h0 : ws ≠ []) (h : ws.all (fun w => !w.contains c) = true) : Txt.split x ⟨#[c]⟩ = ws.map fun l => (⟨l.toArray⟩ : Str) := by
  have hp := split_pos x ⟨#[c]⟩
  have h1 : (Txt.split x ⟨#[c]⟩).map (fun x => x.cps.toList) = ws := by
    refine glue_inj ?_ ?_ ?_ h0 ((join_cps c _).symm.trans ((congrArg (fun x : Str => x.cps.toList) (StrLaws.join_split x ⟨#[c]⟩)).trans e))
    · intro w hw
      obtain ⟨p, hp, rfl⟩ := List.mem_map.mp hw
      exact StrLaws.split_free x c p hp
    · intro w hw hc
      have := List.all_eq_true.mp h w hw
      rw [List.contains_iff_mem.mpr hc] at this
      cases this
    · intro e
      rw [List.map_eq_nil_iff.mp e] at hp
      exact absurd hp (by decide)
  rw [← h1, List.map_map]
  refine (List.map_id' _).symm.trans (List.map_congr_left fun x _ => ?_)
  exact str_ext (by rfl)
noncomputable def wordsN : List (List Nat) := [[52], [49, 48], [55], [54], [52], [52], [55], [52], [52], [49, 49], [55], [54], [52], [52], [55], [52], [49, 51], [49, 48], [55], [54], [52], [52], [55], [52], [49, 50], [49, 49], [55], [54], [52], [52], [55], [52], [49, 50], [49, 48], [49, 54], [54], [52], [52], [55], [52], [49, 50], [49, 49], [49, 54], [54], [52], [52], [55], [52], [49, 50], [49, 48], [49, 51], [54], [49, 49], [49, 49], [49, 48], [52], [49, 50], [49, 49], [49, 51], [54], [52], [52], [55], [52], [52], [52], [52], [52], [52], [52], [55], [52], [52], [52], [52], [52], [52], [52], [55], [52], [52], [52], [52], [52], [52], [52], [55], [52], [52], [52], [52], [52], [52], [52], [55], [52], [52], [52], [52], [52], [52], [52], [55], [52], [52], [52], [52], [52], [52], [52], [55], [52], [55], [55], [55], [55], [55], [55], [52], [55], [52], [52], [52], [52], [52], [52], [55], [52], [52], [52], [52], [52], [52], [52], [55], [52], [52], [52], [52], [52], [52], [52], [55], [52], [52], [52], [52], [52], [52], [52], [55], [52], [52], [52], [52], [52], [52], [52], [55], [52], [52], [52], [52], [52], [52], [52], [55], [52], [52], [52], [52], [52], [52], [52], [55], [52], [52], [52], [52], [52], [52], [52], [55], [52], [52], [52], [52], [52], [52], [52], [55], [52], [49, 49], [49, 48], [49, 48], [49, 48], [49, 55], [49, 49], [55], [49, 49], [49, 49], [49, 48], [49, 48], [48], [49, 55], [49, 55], [55], [49, 49], [49, 49], [49, 48], [49, 48], [49, 49], [49, 55], [49, 49], [55], [49, 49], [49, 49], [52], [49, 48], [49, 49], [49, 55], [48], [55], [49, 49], [49, 49], [49, 48], [49, 48], [49, 57], [49, 55], [49, 49], [55], [49, 49], [49, 49], [52], [49, 48], [52], [49, 55], [48], [55], [49, 49], [49, 49], [49, 48], [49, 48], [52], [49, 55], [49, 49], [55], [49, 49], [49, 49], [54], [49, 48], [52], [49, 55], [48], [55], [49, 49]]
set_option maxRecDepth 100000 in
theorem lit_0 : (Str.ofString "4 10 7 6 4 4 7 4 4 11 7 6 4 4 7 4 13 10 7 6 4 4 7 4 12 11 7 6 4 4 7 4 12 10 16 6 4 4 7 4 12 11 16 6 4 4 7 4 12 10 13 6 11 11 10 4 12 11 13 6 4 4 7 4 ").cps.toList = [52, 32, 49, 48, 32, 55, 32, 54, 32, 52, 32, 52, 32, 55, 32, 52, 32, 52, 32, 49, 49, 32, 55, 32, 54, 32, 52, 32, 52, 32, 55, 32, 52, 32, 49, 51, 32, 49, 48, 32, 55, 32, 54, 32, 52, 32, 52, 32, 55, 32, 52, 32, 49, 50, 32, 49, 49, 32, 55, 32, 54, 32, 52, 32, 52, 32, 55, 32, 52, 32, 49, 50, 32, 49, 48, 32, 49, 54, 32, 54, 32, 52, 32, 52, 32, 55, 32, 52, 32, 49, 50, 32, 49, 49, 32, 49, 54, 32, 54, 32, 52, 32, 52, 32, 55, 32, 52, 32, 49, 50, 32, 49, 48, 32, 49, 51, 32, 54, 32, 49, 49, 32, 49, 49, 32, 49, 48, 32, 52, 32, 49, 50, 32, 49, 49, 32, 49, 51, 32, 54, 32, 52, 32, 52, 32, 55, 32, 52, 32] := cps_of ['4', ' ', '1', '0', ' ', '7', ' ', '6', ' ', '4', ' ', '4', ' ', '7', ' ', '4', ' ', '4', ' ', '1', '1', ' ', '7', ' ', '6', ' ', '4', ' ', '4', ' ', '7', ' ', '4', ' ', '1', '3', ' ', '1', '0', ' ', '7', ' ', '6', ' ', '4', ' ', '4', ' ', '7', ' ', '4', ' ', '1', '2', ' ', '1', '1', ' ', '7', ' ', '6', ' ', '4', ' ', '4', ' ', '7', ' ', '4', ' ', '1', '2', ' ', '1', '0', ' ', '1', '6', ' ', '6', ' ', '4', ' ', '4', ' ', '7', ' ', '4', ' ', '1', '2', ' ', '1', '1', ' ', '1', '6', ' ', '6', ' ', '4', ' ', '4', ' ', '7', ' ', '4', ' ', '1', '2', ' ', '1', '0', ' ', '1', '3', ' ', '6', ' ', '1', '1', ' ', '1', '1', ' ', '1', '0', ' ', '4', ' ', '1', '2', ' ', '1', '1', ' ', '1', '3', ' ', '6', ' ', '4', ' ', '4', ' ', '7', ' ', '4', ' ']
theorem lit_1 : (Str.ofString "4 4 4 4 4 4 7 4 ").cps.toList = [52, 32, 52, 32, 52, 32, 52, 32, 52, 32, 52, 32, 55, 32, 52, 32] := cps_of ['4', ' ', '4', ' ', '4', ' ', '4', ' ', '4', ' ', '4', ' ', '7', ' ', '4', ' ']
theorem lit_2 : (Str.ofString "7 7 7 7 7 7 4 7 ").cps.toList = [55, 32, 55, 32, 55, 32, 55, 32, 55, 32, 55, 32, 52, 32, 55, 32] := cps_of ['7', ' ', '7', ' ', '7', ' ', '7', ' ', '7', ' ', '7', ' ', '4', ' ', '7', ' ']
set_option maxRecDepth 100000 in
theorem lit_3 : (Str.ofString "11 10 10 10 17 11 7 11 11 10 10 0 17 17 7 11 11 10 10 11 17 11 7 11 11 4 10 11 17 0 7 11 ").cps.toList = [49, 49, 32, 49, 48, 32, 49, 48, 32, 49, 48, 32, 49, 55, 32, 49, 49, 32, 55, 32, 49, 49, 32, 49, 49, 32, 49, 48, 32, 49, 48, 32, 48, 32, 49, 55, 32, 49, 55, 32, 55, 32, 49, 49, 32, 49, 49, 32, 49, 48, 32, 49, 48, 32, 49, 49, 32, 49, 55, 32, 49, 49, 32, 55, 32, 49, 49, 32, 49, 49, 32, 52, 32, 49, 48, 32, 49, 49, 32, 49, 55, 32, 48, 32, 55, 32, 49, 49, 32] := cps_of ['1', '1', ' ', '1', '0', ' ', '1', '0', ' ', '1', '0', ' ', '1', '7', ' ', '1', '1', ' ', '7', ' ', '1', '1', ' ', '1', '1', ' ', '1', '0', ' ', '1', '0', ' ', '0', ' ', '1', '7', ' ', '1', '7', ' ', '7', ' ', '1', '1', ' ', '1', '1', ' ', '1', '0', ' ', '1', '0', ' ', '1', '1', ' ', '1', '7', ' ', '1', '1', ' ', '7', ' ', '1', '1', ' ', '1', '1', ' ', '4', ' ', '1', '0', ' ', '1', '1', ' ', '1', '7', ' ', '0', ' ', '7', ' ', '1', '1', ' ']
set_option maxRecDepth 100000 in
theorem lit_4 : (Str.ofString "11 10 10 19 17 11 7 11 11 4 10 4 17 0 7 11 11 10 10 4 17 11 7 11 11 6 10 4 17 0 7 11").cps.toList = [49, 49, 32, 49, 48, 32, 49, 48, 32, 49, 57, 32, 49, 55, 32, 49, 49, 32, 55, 32, 49, 49, 32, 49, 49, 32, 52, 32, 49, 48, 32, 52, 32, 49, 55, 32, 48, 32, 55, 32, 49, 49, 32, 49, 49, 32, 49, 48, 32, 49, 48, 32, 52, 32, 49, 55, 32, 49, 49, 32, 55, 32, 49, 49, 32, 49, 49, 32, 54, 32, 49, 48, 32, 52, 32, 49, 55, 32, 48, 32, 55, 32, 49, 49] := cps_of ['1', '1', ' ', '1', '0', ' ', '1', '0', ' ', '1', '9', ' ', '1', '7', ' ', '1', '1', ' ', '7', ' ', '1', '1', ' ', '1', '1', ' ', '4', ' ', '1', '0', ' ', '4', ' ', '1', '7', ' ', '0', ' ', '7', ' ', '1', '1', ' ', '1', '1', ' ', '1', '0', ' ', '1', '0', ' ', '4', ' ', '1', '7', ' ', '1', '1', ' ', '7', ' ', '1', '1', ' ', '1', '1', ' ', '6', ' ', '1', '0', ' ', '4', ' ', '1', '7', ' ', '0', ' ', '7', ' ', '1', '1']
set_option maxRecDepth 100000 in
theorem rows_cps : ((Str.ofString "4 10 7 6 4 4 7 4 4 11 7 6 4 4 7 4 13 10 7 6 4 4 7 4 12 11 7 6 4 4 7 4 12 10 16 6 4 4 7 4 12 11 16 6 4 4 7 4 12 10 13 6 11 11 10 4 12 11 13 6 4 4 7 4 " ++ Txt.mul (Str.ofString "4 4 4 4 4 4 7 4 ") 6 ++ Str.ofString "7 7 7 7 7 7 4 7 " ++ Str.ofString "4 4 4 4 4 4 7 4 " ++ Txt.mul (Str.ofString "4 4 4 4 4 4 7 4 ") 8 ++ Str.ofString "11 10 10 10 17 11 7 11 11 10 10 0 17 17 7 11 11 10 10 11 17 11 7 11 11 4 10 11 17 0 7 11 " ++ Str.ofString "11 10 10 19 17 11 7 11 11 4 10 4 17 0 7 11 11 10 10 4 17 11 7 11 11 6 10 4 17 0 7 11")).cps.toList = glue 32 wordsN := by
  rw [cps_add, cps_add, cps_add, cps_add, cps_add, cps_add]
  rw [show ((6 : Int)) = ((6 : Nat) : Int) from rfl, show ((8 : Int)) = ((8 : Nat) : Int) from rfl]
  have hz : (Str.ofString "4 4 4 4 4 4 7 4 ").length ≠ 0 := by
    show (Str.ofString "4 4 4 4 4 4 7 4 ").cps.toList.length ≠ 0
    rw [lit_1]
    decide
  rw [cps_mul _ 6 (by decide) hz, cps_mul _ 8 (by decide) hz, lit_0, lit_1, lit_2, lit_3, lit_4]
  decide +kernel
theorem blank_is : Str.ofString " " = (⟨#[32]⟩ : Str) := str_ext (cps_of [' '])
set_option maxRecDepth 100000 in
theorem rows_split : Txt.split (Str.ofString "4 10 7 6 4 4 7 4 4 11 7 6 4 4 7 4 13 10 7 6 4 4 7 4 12 11 7 6 4 4 7 4 12 10 16 6 4 4 7 4 12 11 16 6 4 4 7 4 12 10 13 6 11 11 10 4 12 11 13 6 4 4 7 4 " ++ Txt.mul (Str.ofString "4 4 4 4 4 4 7 4 ") 6 ++ Str.ofString "7 7 7 7 7 7 4 7 " ++ Str.ofString "4 4 4 4 4 4 7 4 " ++ Txt.mul (Str.ofString "4 4 4 4 4 4 7 4 ") 8 ++ Str.ofString "11 10 10 10 17 11 7 11 11 10 10 0 17 17 7 11 11 10 10 11 17 11 7 11 11 4 10 11 17 0 7 11 " ++ Str.ofString "11 10 10 19 17 11 7 11 11 4 10 4 17 0 7 11 11 10 10 4 17 11 7 11 11 6 10 4 17 0 7 11") (Str.ofString " ") = wordsN.map fun l => (⟨l.toArray⟩ : Str) := by
  rw [blank_is]
  exact split_is rows_cps (by nofun) (by decide +kernel)
theorem size_of {x : Str} {l : List Nat} (e : x.cps.toList = l) (h : (l.length + 2).ble sizeLine = true) : x.length + 2 ≤ sizeLine := by
  rw [← e] at h
  exact Nat.le_of_ble_eq_true h
theorem words_good : (wordsN.map fun l => (⟨l.toArray⟩ : Str)).all goodW = true := by decide +kernel
theorem words_read : (wordsN.map fun l => (⟨l.toArray⟩ : Str)).map (fun x => (PySem.intText? x).getD 0) = tabV := by decide +kernel

noncomputable def signsN : List Nat := [49, 51, 49, 49, 49, 49, 50, 49, 49, 49, 49, 49, 49, 49, 50, 49, 50, 51, 49, 49, 49, 49, 50, 49, 50, 49, 49, 49, 49, 49, 50, 49, 50, 51, 51, 49, 49, 49, 50, 49, 50, 49, 51, 49, 49, 49, 50, 49, 50, 51, 51, 49, 49, 49, 50, 49, 50, 49, 51, 49, 49, 49, 50, 49, 49, 49, 49, 49, 49, 49, 49, 49, 49, 49, 49, 49, 49, 49, 49, 49, 49, 49, 49, 49, 49, 49, 49, 49, 49, 49, 49, 49, 49, 49, 49, 49, 49, 49, 49, 49, 49, 49, 49, 49, 49, 49, 49, 49, 49, 49, 49, 49, 49, 49, 49, 49, 49, 49, 49, 49, 49, 49, 49, 49, 49, 49, 49, 49, 49, 49, 49, 49, 49, 49, 49, 49, 49, 49, 49, 49, 49, 49, 49, 49, 49, 49, 49, 49, 49, 49, 49, 49, 49, 49, 49, 49, 49, 49, 49, 49, 49, 49, 49, 49, 49, 49, 49, 49, 49, 49, 49, 49, 49, 49, 49, 49, 49, 49, 49, 49, 49, 49, 49, 49, 49, 49, 49, 49, 49, 49, 49, 49, 49, 49, 51, 51, 51, 49, 50, 49, 49, 49, 51, 48, 51, 51, 50, 49, 49, 49, 51, 50, 51, 49, 50, 49, 49, 49, 51, 50, 51, 48, 50, 49, 49, 49, 51, 49, 51, 49, 50, 49, 49, 49, 51, 49, 51, 48, 50, 49, 49, 49, 51, 49, 51, 49, 50, 49, 49, 49, 51, 49, 51, 48, 50, 49]
set_option maxRecDepth 100000 in
theorem lens_cps : (Str.ofString "1311112111111121231111212111112123311121213111212331112121311121111111111111111111111111111111111111111111111111111111111111111111111111111111111111111111111111111111111111111111111111111111111133312111303321113231211132302111313121113130211131312111313021").cps.toList = signsN := cps_of ['1', '3', '1', '1', '1', '1', '2', '1', '1', '1', '1', '1', '1', '1', '2', '1', '2', '3', '1', '1', '1', '1', '2', '1', '2', '1', '1', '1', '1', '1', '2', '1', '2', '3', '3', '1', '1', '1', '2', '1', '2', '1', '3', '1', '1', '1', '2', '1', '2', '3', '3', '1', '1', '1', '2', '1', '2', '1', '3', '1', '1', '1', '2', '1', '1', '1', '1', '1', '1', '1', '1', '1', '1', '1', '1', '1', '1', '1', '1', '1', '1', '1', '1', '1', '1', '1', '1', '1', '1', '1', '1', '1', '1', '1', '1', '1', '1', '1', '1', '1', '1', '1', '1', '1', '1', '1', '1', '1', '1', '1', '1', '1', '1', '1', '1', '1', '1', '1', '1', '1', '1', '1', '1', '1', '1', '1', '1', '1', '1', '1', '1', '1', '1', '1', '1', '1', '1', '1', '1', '1', '1', '1', '1', '1', '1', '1', '1', '1', '1', '1', '1', '1', '1', '1', '1', '1', '1', '1', '1', '1', '1', '1', '1', '1', '1', '1', '1', '1', '1', '1', '1', '1', '1', '1', '1', '1', '1', '1', '1', '1', '1', '1', '1', '1', '1', '1', '1', '1', '1', '1', '1', '1', '1', '1', '3', '3', '3', '1', '2', '1', '1', '1', '3', '0', '3', '3', '2', '1', '1', '1', '3', '2', '3', '1', '2', '1', '1', '1', '3', '2', '3', '0', '2', '1', '1', '1', '3', '1', '3', '1', '2', '1', '1', '1', '3', '1', '3', '0', '2', '1', '1', '1', '3', '1', '3', '1', '2', '1', '1', '1', '3', '1', '3', '0', '2', '1']
theorem lens_signs : signs (Str.ofString "1311112111111121231111212111112123311121213111212331112121311121111111111111111111111111111111111111111111111111111111111111111111111111111111111111111111111111111111111111111111111111111111111133312111303321113231211132302111313121113130211131312111313021") = signsN.map fun n => (⟨#[n]⟩ : Str) := congrArg (List.map _) lens_cps
theorem signs_good : (signsN.map fun n => (⟨#[n]⟩ : Str)).all goodW = true := by decide +kernel
theorem signs_read : (signsN.map fun n => (⟨#[n]⟩ : Str)).map (fun x => (PySem.intText? x).getD 0) = lenV := by decide +kernel
end
section
local macro_rules | `(tactic| walk_at "eval Name") => `(tactic| (k_here; k_dflt (refine' ld_comp ?n1 ?n2 ?n3 ?n4 ?n5 ?n6 ?n7 ?n8 ?n9 ?n10 ?n11 ?_; (case n7 => exact rfl); (case n8 => exact rfl); (case n9 => exact rfl); (case n10 => exact rfl); (case n11 => decide); (case n1 => k_asm); (case n2 => k_asm); (case n3 => k_asm); (case n4 => k_is); (case n5 => boot_by_name); (case n6 => decide))))
local macro_rules | `(tactic| kspl_size) => `(tactic| exact size_of rows_cps (by decide +kernel))
local macro_rules | `(tactic| walk_at "eval ListComp") => `(tactic| (k_here; (refine' words_comp ?hF ?hh ?hclos ?hcell ?hkind ?hnames ?hx ?h ?hs; (case hF => k_asm); (case hh => with_unfolding_all rfl); (case hclos => with_unfolding_all rfl); (case hcell => decide); (case hkind => with_unfolding_all rfl); (case hnames => decide); (case hx => with_unfolding_all rfl); (case hs => intro _; with_unfolding_all rfl))))
set_option maxRecDepth 100000 in
set_option maxHeartbeats 8000000 in
theorem table_cut (w : World) (news : List (Addr × Obj)) : Place 1 w news (fun L m h₀ s Q => ∀ D ys n h' tk', Fr h₀ L h' m → News h₀ L h' ((D, listOf ys.toArray n) :: news) → IntsAre ys tabV → Q (.ref D) { s with heap := h', toks := tk' }) 110 [] := by
  unfold Place
  w_top off
  k_fill
  intro mean mg mb dp un gd cn cs a ccd cl outer A₀ base h₀ L m s Q E B F X N T hk hd hu hret
  refine wpAny_call ?_
  k_dflt cell_enter
  k_steps
  rename _ = Txt.split _ _ => e9
  replace e9 := e9.trans rows_split
  have hw9 := words_good
  have ht9 := words_read
  rw [← e9] at hw9 ht9
  refine ⟨?_⟩
  refine ⟨_, _, _, _, rfl, by is_list, StrsAre.areOf (by assumption), ?_, by k_asm, by k_asm, ?_, ?_⟩
  · have hz9 := congrArg List.length ht9
    simp only [List.length_map] at hz9 ⊢
    rw [hz9]
    exact Nat.le_of_ble_eq_true rfl
  · intro C9 a9 t9 s9 m9 E9 ha9 hn9 hm9 F9
    obtain ⟨n9, hv9, hl9⟩ := goodW_of hw9 a9 ha9
    have hd9 : wordD a9 = .int n9 := by unfold wordD; rw [hv9]; rfl
    rw [hd9]
    k_steps
    exact ⟨.int _ _, keeps_tok rfl⟩
  · intro D9 ys9 n9 h9 tk9 F9 N9 I9
    rw [ht9] at I9
    k_steps
    exact hret _ _ _ _ _ (by k_asm) (cb_drop (by k_asm) (sub_cons (sub_skip sub_same))) I9
end
section
local macro_rules | `(tactic| walk_at "nowhere") => `(tactic| skip)
local macro_rules | `(tactic| walk_at "eval Name") => `(tactic| (k_here; k_dflt (refine' ld_comp ?n1 ?n2 ?n3 ?n4 ?n5 ?n6 ?n7 ?n8 ?n9 ?n10 ?n11 ?_; (case n7 => exact rfl); (case n8 => exact rfl); (case n9 => exact rfl); (case n10 => exact rfl); (case n11 => decide); (case n1 => k_asm); (case n2 => k_asm); (case n3 => k_asm); (case n4 => k_is); (case n5 => boot_by_name); (case n6 => decide))))
local macro_rules | `(tactic| walk_at "pyIter str") => `(tactic| (k_here; refine signs_comp ?hh (by k_asm) (by k_asm) ?hz ?_ ?_; (case hh => with_unfolding_all rfl); (case hz => exact Nat.le_trans (Nat.le_add_right _ 2) (size_of lens_cps (by decide +kernel)))))
set_option maxRecDepth 100000 in
set_option maxHeartbeats 8000000 in
theorem lengths_cut (w : World) (news : List (Addr × Obj)) : Place 1 w news (fun L m h₀ s Q => ∀ D ys n h' tk', Fr h₀ L h' m → News h₀ L h' ((D, listOf ys.toArray n) :: news) → IntsAre ys lenV → Q (.ref D) { s with heap := h', toks := tk' }) 115 [] := by
  unfold Place
  w_top off
  k_fill
  intro mean mg mb dp un gd cn cs a ccd cl outer A₀ base h₀ L m s Q E B F X N T hk hd hu hret
  refine wpAny_call ?_
  k_dflt cell_enter
  k_steps
  · refine ⟨?_⟩
    rw [lens_signs]
    have hw9 := signs_good
    intro C9 a9 t9 s9 m9 E9 ha9 hn9 hm9 F9
    obtain ⟨n9, hv9, hl9⟩ := goodW_of hw9 a9 ha9
    have hd9 : wordD a9 = .int n9 := by unfold wordD; rw [hv9]; rfl
    rw [hd9]
    k_steps
    exact ⟨.int _ _, keeps_tok rfl⟩
  · refine ⟨?_⟩
    rw [lens_signs]
    intro D9 ys9 n9 h9 tk9 F9 N9 I9
    rw [signs_read] at I9
    k_steps
    exact hret _ _ _ _ _ (by k_asm) (cb_drop (by k_asm) (by first | exact sub_same | exact sub_cons sub_same | exact (sub_cons (sub_skip sub_same)))) I9
end
section
theorem oct {P : Int → Bool} (h : (List.range 256).all (fun n => P (n : Int)) = true) (o : Int) (h0 : 0 ≤ o) (h1 : o < 256) : P o = true := by
  have e := List.all_eq_true.mp h o.toNat (List.mem_range.mpr (by omega))
  rwa [Int.toNat_of_nonneg h0] at e
theorem f_main1 (o : Int) (h0 : 0 ≤ o) (h1 : o < 256) : o ≠ 203 → o ≠ 221 → o ≠ 237 → o ≠ 253 → mainS o true = tabV.getD o.toNat 0 := by
  have h := oct (P := fun o => decide (o ≠ 203 → o ≠ 221 → o ≠ 237 → o ≠ 253 → mainS o true = tabV.getD o.toNat 0)) (by decide +kernel) o h0 h1
  exact of_decide_eq_true h
theorem f_main2 (o : Int) (h0 : 0 ≤ o) (h1 : o < 256) : o ≠ 203 → o ≠ 221 → o ≠ 237 → o ≠ 253 → mainS o false = tabV.getD o.toNat 0 - lessS o := by
  have h := oct (P := fun o => decide (o ≠ 203 → o ≠ 221 → o ≠ 237 → o ≠ 253 → mainS o false = tabV.getD o.toNat 0 - lessS o)) (by decide +kernel) o h0 h1
  exact of_decide_eq_true h
theorem f_len (o : Int) (h0 : 0 ≤ o) (h1 : o < 256) : o ≠ 203 → o ≠ 221 → o ≠ 237 → o ≠ 253 → mainL o = lenV.getD o.toNat 0 := by
  have h := oct (P := fun o => decide (o ≠ 203 → o ≠ 221 → o ≠ 237 → o ≠ 253 → mainL o = lenV.getD o.toNat 0)) (by decide +kernel) o h0 h1
  exact of_decide_eq_true h
theorem f_uses (o : Int) (h0 : 0 ≤ o) (h1 : o < 256) : usesS o = besideS o := by
  have h := oct (P := fun o => decide (usesS o = besideS o)) (by decide +kernel) o h0 h1
  exact of_decide_eq_true h
theorem f_ind1 (o : Int) (h0 : 0 ≤ o) (h1 : o < 256) : o ≠ 203 → o ≠ 221 → o ≠ 237 → o ≠ 253 → indexS o true = tabV.getD o.toNat 0 + (4 + (if besideS o = true then 8 else 0) - (if o = 54 then 3 else 0)) := by
  intro a b c d
  unfold indexS
  by_cases h : o = 54
  · subst h
    decide +kernel
  · rw [if_neg h, if_neg h, f_main1 o h0 h1 a b c d, f_uses o h0 h1]
    by_cases hb : besideS o = true
    · rw [if_pos hb, if_pos hb]; omega
    · rw [if_neg hb, if_neg hb]; omega
theorem f_ind2 (o : Int) (h0 : 0 ≤ o) (h1 : o < 256) : o ≠ 203 → o ≠ 221 → o ≠ 237 → o ≠ 253 → indexS o false = tabV.getD o.toNat 0 + (4 + (if besideS o = true then 8 else 0) - (if o = 54 then 3 else 0)) - lessS o := by
  intro a b c d
  unfold indexS
  by_cases h : o = 54
  · subst h
    decide +kernel
  · rw [if_neg h, if_neg h, f_main2 o h0 h1 a b c d, f_uses o h0 h1]
    by_cases hb : besideS o = true
    · rw [if_pos hb, if_pos hb]; omega
    · rw [if_neg hb, if_neg hb]; omega
theorem f_lenx (o : Int) (h0 : 0 ≤ o) (h1 : o < 256) : o ≠ 203 → o ≠ 221 → o ≠ 237 → o ≠ 253 → 1 + mainL o + (if usesS o = true then 1 else 0) = 1 + lenV.getD o.toNat 0 + (if besideS o = true then 1 else 0) := by
  intro a b c d
  rw [f_len o h0 h1 a b c d, f_uses o h0 h1]
theorem f_ed1 (o : Int) (h0 : 0 ≤ o) (h1 : o < 256) : edS o true = leA o := by
  have h := oct (P := fun o => decide (edS o true = leA o)) (by decide +kernel) o h0 h1
  exact of_decide_eq_true h
theorem f_ed2 (o : Int) (h0 : 0 ≤ o) (h1 : o < 256) : edS o false = leB o := by
  have h := oct (P := fun o => decide (edS o false = leB o)) (by decide +kernel) o h0 h1
  exact of_decide_eq_true h
theorem f_ed3 (o : Int) (h0 : 0 ≤ o) (h1 : o < 256) : (if xo o = 1 then (if zo o = 3 then (4 : Int) else 2) else 2) = leC o := by
  have h := oct (P := fun o => decide ((if xo o = 1 then (if zo o = 3 then (4 : Int) else 2) else 2) = leC o)) (by decide +kernel) o h0 h1
  exact of_decide_eq_true h
theorem f_bits (o : Int) (h0 : 0 ≤ o) (h1 : o < 256) : bitsS o = (if o.fmod 8 ≠ 6 then 8 else if 64 ≤ o ∧ o < 128 then 12 else 15) := by
  have h := oct (P := fun o => decide (bitsS o = (if o.fmod 8 ≠ 6 then 8 else if 64 ≤ o ∧ o < 128 then 12 else 15))) (by decide +kernel) o h0 h1
  exact of_decide_eq_true h
theorem f_far (o : Int) (h0 : 0 ≤ o) (h1 : o < 256) : (if xo o = 1 then (20 : Int) else 23) = (if 64 ≤ o ∧ o < 128 then 20 else 23) := by
  have h := oct (P := fun o => decide ((if xo o = 1 then (20 : Int) else 23) = (if 64 ≤ o ∧ o < 128 then 20 else 23))) (by decide +kernel) o h0 h1
  exact of_decide_eq_true h
theorem f_can (o : Int) (h0 : 0 ≤ o) (h1 : o < 256) : canM o = decide (lessS o ≠ 0) := by
  have h := oct (P := fun o => decide (canM o = decide (lessS o ≠ 0))) (by decide +kernel) o h0 h1
  exact of_decide_eq_true h
theorem f_caned (o : Int) (h0 : 0 ≤ o) (h1 : o < 256) : decide (xo o = 2 ∧ 5 < yo o ∧ zo o < 4) = decide (leA o ≠ leB o) := by
  have h := oct (P := fun o => decide (decide (xo o = 2 ∧ 5 < yo o ∧ zo o < 4) = decide (leA o ≠ leB o))) (by decide +kernel) o h0 h1
  exact of_decide_eq_true h
theorem f_len203 (o : Int) (h0 : 0 ≤ o) (h1 : o < 256) : o = 203 → mainL o = 2 := by
  have h := oct (P := fun o => decide (o = 203 → mainL o = 2)) (by decide +kernel) o h0 h1
  exact of_decide_eq_true h
theorem f_can203 (o : Int) (h0 : 0 ≤ o) (h1 : o < 256) : o = 203 → canM o = false := by
  have h := oct (P := fun o => decide (o = 203 → canM o = false)) (by decide +kernel) o h0 h1
  exact of_decide_eq_true h

section
variable {r0 r1 r3 : Int} (a0 : 0 ≤ r0) (b0 : r0 < 256) (a1 : 0 ≤ r1) (b1 : r1 < 256) (a3 : 0 ≤ r3) (b3 : r3 < 256)
include a0 b0 a1 b1 a3 b3
theorem p_taken : statesS r0 r1 r3 true = dueA tabV r0 r1 r3 := by
  unfold statesS dueA
  by_cases c0 : r0 = 203
  · rw [if_pos c0, if_pos c0]; exact f_bits r1 a1 b1
  rw [if_neg c0, if_neg c0]
  by_cases c1 : r0 = 237
  · rw [if_pos c1, if_pos c1]; exact f_ed1 r1 a1 b1
  rw [if_neg c1, if_neg c1]
  by_cases c2 : r0 = 221 ∨ r0 = 253
  · rw [if_neg (show ¬¬(r0 = 221 ∨ r0 = 253) from not_not_intro c2), if_neg (show ¬¬(r0 = 221 ∨ r0 = 253) from not_not_intro c2)]
    by_cases c3 : r1 = 221 ∨ r1 = 237 ∨ r1 = 253
    · rw [if_pos c3, if_pos c3]
    rw [if_neg c3, if_neg c3]
    by_cases c4 : r1 = 203
    · rw [if_neg (show ¬ (r1 ≠ 203) from not_not_intro c4), if_pos c4]; exact f_far r3 a3 b3
    rw [if_pos c4, if_neg c4]
    exact f_ind1 r1 a1 b1 c4 (fun h => c3 (.inl h)) (fun h => c3 (.inr (.inl h))) (fun h => c3 (.inr (.inr h)))
  · rw [if_pos c2, if_pos c2]
    exact f_main1 r0 a0 b0 c0 (fun h => c2 (.inl h)) c1 (fun h => c2 (.inr h))
theorem p_untaken : statesS r0 r1 r3 false = dueB tabV r0 r1 r3 := by
  unfold statesS dueB
  by_cases c0 : r0 = 203
  · rw [if_pos c0, if_pos c0]; exact f_bits r1 a1 b1
  rw [if_neg c0, if_neg c0]
  by_cases c1 : r0 = 237
  · rw [if_pos c1, if_pos c1]; exact f_ed2 r1 a1 b1
  rw [if_neg c1, if_neg c1]
  by_cases c2 : r0 = 221 ∨ r0 = 253
  · rw [if_neg (show ¬¬(r0 = 221 ∨ r0 = 253) from not_not_intro c2), if_neg (show ¬¬(r0 = 221 ∨ r0 = 253) from not_not_intro c2)]
    by_cases c3 : r1 = 221 ∨ r1 = 237 ∨ r1 = 253
    · rw [if_pos c3, if_pos c3]
    rw [if_neg c3, if_neg c3]
    by_cases c4 : r1 = 203
    · rw [if_neg (show ¬ (r1 ≠ 203) from not_not_intro c4), if_pos c4]; exact f_far r3 a3 b3
    rw [if_pos c4, if_neg c4]
    exact f_ind2 r1 a1 b1 c4 (fun h => c3 (.inl h)) (fun h => c3 (.inr (.inl h))) (fun h => c3 (.inr (.inr h)))
  · rw [if_pos c2, if_pos c2]
    exact f_main2 r0 a0 b0 c0 (fun h => c2 (.inl h)) c1 (fun h => c2 (.inr h))
omit a3 b3 in
theorem p_length : lengthS r0 r1 = dueC lenV r0 r1 := by
  unfold lengthS dueC
  by_cases c0 : r0 = 203
  · rw [if_neg (by omega), if_pos (by omega), if_pos c0]; exact f_len203 r0 a0 b0 c0
  rw [if_neg c0]
  by_cases c1 : r0 = 237
  · rw [if_pos c1, if_pos c1]; exact f_ed3 r1 a1 b1
  rw [if_neg c1, if_neg c1]
  by_cases c2 : r0 = 221 ∨ r0 = 253
  · rw [if_neg (show ¬¬(r0 = 221 ∨ r0 = 253) from not_not_intro c2), if_neg (show ¬¬(r0 = 221 ∨ r0 = 253) from not_not_intro c2)]
    by_cases c3 : r1 = 221 ∨ r1 = 237 ∨ r1 = 253
    · rw [if_pos c3, if_pos c3]
    rw [if_neg c3, if_neg c3]
    by_cases c4 : r1 = 203
    · rw [if_pos c4, if_pos c4]
    rw [if_neg c4, if_neg c4]
    exact f_lenx r1 a1 b1 c4 (fun h => c3 (.inl h)) (fun h => c3 (.inr (.inl h))) (fun h => c3 (.inr (.inr h)))
  · rw [if_pos c2, if_pos c2]
    exact f_len r0 a0 b0 c0 (fun h => c2 (.inl h)) c1 (fun h => c2 (.inr h))
omit a3 b3 in
theorem p_can : canT r0 r1 = decide (dueA tabV r0 r1 r3 ≠ dueB tabV r0 r1 r3) := by
  unfold canT dueA dueB
  by_cases c0 : r0 = 203
  · rw [if_neg (by omega), if_neg (by omega), if_pos c0, if_pos c0, f_can203 r0 a0 b0 c0]
    exact (decide_eq_false fun h => h rfl).symm
  rw [if_neg c0, if_neg c0]
  by_cases c1 : r0 = 237
  · rw [if_neg (by omega), if_pos c1, if_pos c1, if_pos c1]; exact f_caned r1 a1 b1
  rw [if_neg c1, if_neg c1, if_neg c1]
  by_cases c2 : r0 = 221 ∨ r0 = 253
  · rw [if_pos c2, if_neg (show ¬¬(r0 = 221 ∨ r0 = 253) from not_not_intro c2), if_neg (show ¬¬(r0 = 221 ∨ r0 = 253) from not_not_intro c2)]
    by_cases c3 : r1 = 221 ∨ r1 = 237 ∨ r1 = 253
    · rw [if_pos (by omega), if_pos c3, if_pos c3]
      exact (decide_eq_false fun h => h rfl).symm
    rw [if_neg c3, if_neg c3]
    by_cases c4 : r1 = 203
    · rw [if_pos (by omega), if_pos c4, if_pos c4]
      exact (decide_eq_false fun h => h rfl).symm
    rw [if_neg (by omega), if_neg c4, if_neg c4, f_can r1 a1 b1]
    exact decide_eq_decide.mpr (by omega)
  · rw [if_neg c2, if_pos c2, if_pos c2, f_can r0 a0 b0]
    exact decide_eq_decide.mpr (by omega)
end
theorem get0 (a b c d : Int) : [a, b, c, d].getD (Int.toNat 0) 0 = a := rfl
theorem get1 (a b c d : Int) : [a, b, c, d].getD (Int.toNat 1) 0 = b := rfl
theorem get3 (a b c d : Int) : [a, b, c, d].getD (Int.toNat 3) 0 = d := rfl
theorem menu_bd (v : Int) (h0 : 0 ≤ v) (h1 : v < 4) : 0 ≤ [(203 : Int), 221, 237, 253].getD v.toNat 0 ∧ [(203 : Int), 221, 237, 253].getD v.toNat 0 < 256 := by
  have h : v = 0 ∨ v = 1 ∨ v = 2 ∨ v = 3 := by omega
  rcases h with rfl | rfl | rfl | rfl <;> decide
theorem tabV_len : tabV.length = 256 := by decide +kernel
theorem lenV_len : lenV.length = 256 := by decide +kernel
theorem zeros_len : (List.replicate (Int.toNat 64) [(0 : Int)]).flatten.length = 64 := by decide +kernel
section
variable {M : List Int} {p a b c d : Int} (hM : M.length = 64) (h0 : 0 ≤ p) (h1 : p < 64)
include hM
theorem four_len : ((((M.set ((p + 0).fmod 64).toNat a).set ((p + 1).fmod 64).toNat b).set ((p + 2).fmod 64).toNat c).set ((p + 3).fmod 64).toNat d).length = 64 := by
  simp only [List.length_set, hM]
include h0 h1
theorem four_0 : ((((M.set ((p + 0).fmod 64).toNat a).set ((p + 1).fmod 64).toNat b).set ((p + 2).fmod 64).toNat c).set ((p + 3).fmod 64).toNat d).getD (p.fmod 64).toNat 0 = a := by
  simp only [Int.fmod_eq_emod_of_nonneg _ (show (0 : Int) ≤ 64 by decide)]
  simp only [List.getD_eq_getElem?_getD, List.getElem?_set, List.length_set, hM]
  rw [if_neg (by omega), if_neg (by omega), if_neg (by omega), if_pos (show ((p + 0) % 64).toNat = (p % 64).toNat by rw [Int.add_zero]), if_pos (by omega)]
  rfl
theorem four_1 : ((((M.set ((p + 0).fmod 64).toNat a).set ((p + 1).fmod 64).toNat b).set ((p + 2).fmod 64).toNat c).set ((p + 3).fmod 64).toNat d).getD ((p + 1).fmod 64).toNat 0 = b := by
  simp only [Int.fmod_eq_emod_of_nonneg _ (show (0 : Int) ≤ 64 by decide)]
  simp only [List.getD_eq_getElem?_getD, List.getElem?_set, List.length_set, hM]
  rw [if_neg (by omega), if_neg (by omega), if_pos trivial, if_pos (by omega)]
  rfl
theorem four_3 : ((((M.set ((p + 0).fmod 64).toNat a).set ((p + 1).fmod 64).toNat b).set ((p + 2).fmod 64).toNat c).set ((p + 3).fmod 64).toNat d).getD ((p + 3).fmod 64).toNat 0 = d := by
  simp only [Int.fmod_eq_emod_of_nonneg _ (show (0 : Int) ≤ 64 by decide)]
  simp only [List.getD_eq_getElem?_getD, List.getElem?_set, List.length_set, hM]
  rw [if_pos trivial, if_pos (by omega)]
  rfl
end
end
section
section
variable {M : List Int} {p a b c d : Int} (hM : M.length = 64) (h0 : 0 ≤ p) (h1 : p < 64)
include hM
theorem row_len : ((((M.set ((p + (0 + ((0 : Nat) : Int))).fmod 64).toNat ([a, b, c, d].getD (0 + ((0 : Nat) : Int)).toNat 0)).set ((p + (0 + ((0 + 1 : Nat) : Int))).fmod 64).toNat ([a, b, c, d].getD (0 + ((0 + 1 : Nat) : Int)).toNat 0)).set ((p + (0 + ((0 + 1 + 1 : Nat) : Int))).fmod 64).toNat ([a, b, c, d].getD (0 + ((0 + 1 + 1 : Nat) : Int)).toNat 0)).set ((p + (0 + ((0 + 1 + 1 + 1 : Nat) : Int))).fmod 64).toNat ([a, b, c, d].getD (0 + ((0 + 1 + 1 + 1 : Nat) : Int)).toNat 0)).length = 64 := four_len hM
include h0 h1
theorem row_0 : ((((M.set ((p + (0 + ((0 : Nat) : Int))).fmod 64).toNat ([a, b, c, d].getD (0 + ((0 : Nat) : Int)).toNat 0)).set ((p + (0 + ((0 + 1 : Nat) : Int))).fmod 64).toNat ([a, b, c, d].getD (0 + ((0 + 1 : Nat) : Int)).toNat 0)).set ((p + (0 + ((0 + 1 + 1 : Nat) : Int))).fmod 64).toNat ([a, b, c, d].getD (0 + ((0 + 1 + 1 : Nat) : Int)).toNat 0)).set ((p + (0 + ((0 + 1 + 1 + 1 : Nat) : Int))).fmod 64).toNat ([a, b, c, d].getD (0 + ((0 + 1 + 1 + 1 : Nat) : Int)).toNat 0)).getD (p.fmod 64).toNat 0 = a := four_0 hM h0 h1
theorem row_1 : ((((M.set ((p + (0 + ((0 : Nat) : Int))).fmod 64).toNat ([a, b, c, d].getD (0 + ((0 : Nat) : Int)).toNat 0)).set ((p + (0 + ((0 + 1 : Nat) : Int))).fmod 64).toNat ([a, b, c, d].getD (0 + ((0 + 1 : Nat) : Int)).toNat 0)).set ((p + (0 + ((0 + 1 + 1 : Nat) : Int))).fmod 64).toNat ([a, b, c, d].getD (0 + ((0 + 1 + 1 : Nat) : Int)).toNat 0)).set ((p + (0 + ((0 + 1 + 1 + 1 : Nat) : Int))).fmod 64).toNat ([a, b, c, d].getD (0 + ((0 + 1 + 1 + 1 : Nat) : Int)).toNat 0)).getD ((p + 1).fmod 64).toNat 0 = b := four_1 hM h0 h1
theorem row_3 : ((((M.set ((p + (0 + ((0 : Nat) : Int))).fmod 64).toNat ([a, b, c, d].getD (0 + ((0 : Nat) : Int)).toNat 0)).set ((p + (0 + ((0 + 1 : Nat) : Int))).fmod 64).toNat ([a, b, c, d].getD (0 + ((0 + 1 : Nat) : Int)).toNat 0)).set ((p + (0 + ((0 + 1 + 1 : Nat) : Int))).fmod 64).toNat ([a, b, c, d].getD (0 + ((0 + 1 + 1 : Nat) : Int)).toNat 0)).set ((p + (0 + ((0 + 1 + 1 + 1 : Nat) : Int))).fmod 64).toNat ([a, b, c, d].getD (0 + ((0 + 1 + 1 + 1 : Nat) : Int)).toNat 0)).getD ((p + 3).fmod 64).toNat 0 = d := four_3 hM h0 h1
end
theorem taken_cut (w : World) (news : List (Addr × Obj)) (l : Addr) (nn : Nat) (vs : List Value) (ns : List Int) (i : Int) (it : Tok) (r0 r1 r3 : Int) (hl : (l, listOf vs.toArray nn) ∈ news) (hi : IntsAre vs ns) (hlen : ns.length = 64) (h0 : 0 ≤ i) (h1 : i < 70) (e0 : ns.getD (i.fmod 64).toNat 0 = r0) (e1 : ns.getD ((i + 1).fmod 64).toNat 0 = r1) (e3 : ns.getD ((i + 3).fmod 64).toNat 0 = r3) (a0 : 0 ≤ r0) (b0 : r0 < 256) (a1 : 0 ≤ r1) (b1 : r1 < 256) (a3 : 0 ≤ r3) (b3 : r3 < 256) : CutG 4 w news 77 [.ref l, .int i it, .bool true] (fun t' => .int (dueA tabV r0 r1 r3) t') := by
  have h := statesof_cut w news l nn vs ns i it true r0 r1 r3 hl hi hlen h0 h1 e0 e1 e3 a0 b0 a1 b1 a3 b3
  rw [p_taken a0 b0 a1 b1 a3 b3] at h
  exact h
theorem untaken_cut (w : World) (news : List (Addr × Obj)) (l : Addr) (nn : Nat) (vs : List Value) (ns : List Int) (i : Int) (it : Tok) (r0 r1 r3 : Int) (hl : (l, listOf vs.toArray nn) ∈ news) (hi : IntsAre vs ns) (hlen : ns.length = 64) (h0 : 0 ≤ i) (h1 : i < 70) (e0 : ns.getD (i.fmod 64).toNat 0 = r0) (e1 : ns.getD ((i + 1).fmod 64).toNat 0 = r1) (e3 : ns.getD ((i + 3).fmod 64).toNat 0 = r3) (a0 : 0 ≤ r0) (b0 : r0 < 256) (a1 : 0 ≤ r1) (b1 : r1 < 256) (a3 : 0 ≤ r3) (b3 : r3 < 256) : CutG 4 w news 77 [.ref l, .int i it, .bool false] (fun t' => .int (dueB tabV r0 r1 r3) t') := by
  have h := statesof_cut w news l nn vs ns i it false r0 r1 r3 hl hi hlen h0 h1 e0 e1 e3 a0 b0 a1 b1 a3 b3
  rw [p_untaken a0 b0 a1 b1 a3 b3] at h
  exact h
theorem many_cut (w : World) (news : List (Addr × Obj)) (l : Addr) (nn : Nat) (vs : List Value) (ns : List Int) (i : Int) (it : Tok) (r0 r1 r3 : Int) (hl : (l, listOf vs.toArray nn) ∈ news) (hi : IntsAre vs ns) (hlen : ns.length = 64) (h0 : 0 ≤ i) (h1 : i < 70) (e0 : ns.getD (i.fmod 64).toNat 0 = r0) (e1 : ns.getD ((i + 1).fmod 64).toNat 0 = r1) (e3 : ns.getD ((i + 3).fmod 64).toNat 0 = r3) (a0 : 0 ≤ r0) (b0 : r0 < 256) (a1 : 0 ≤ r1) (b1 : r1 < 256) (a3 : 0 ≤ r3) (b3 : r3 < 256) : CutG 3 w news 91 [.ref l, .int i it] (fun t' => .int (dueC lenV r0 r1) t') := by
  have h := lengthof_cut w news l nn vs ns i it r0 r1 r3 hl hi hlen h0 h1 e0 e1 e3 a0 b0 a1 b1 a3 b3
  rw [p_length a0 b0 a1 b1] at h
  exact h
theorem can_cut (w : World) (news : List (Addr × Obj)) (l : Addr) (nn : Nat) (vs : List Value) (ns : List Int) (i : Int) (it : Tok) (r0 r1 r3 : Int) (hl : (l, listOf vs.toArray nn) ∈ news) (hi : IntsAre vs ns) (hlen : ns.length = 64) (h0 : 0 ≤ i) (h1 : i < 70) (e0 : ns.getD (i.fmod 64).toNat 0 = r0) (e1 : ns.getD ((i + 1).fmod 64).toNat 0 = r1) (e3 : ns.getD ((i + 3).fmod 64).toNat 0 = r3) (a0 : 0 ≤ r0) (b0 : r0 < 256) (a1 : 0 ≤ r1) (b1 : r1 < 256) (a3 : 0 ≤ r3) (b3 : r3 < 256) : CutG 3 w news 105 [.ref l, .int i it] (fun t' => .bool (dueA tabV r0 r1 r3 != dueB tabV r0 r1 r3)) := by
  have h := cantake_cut w news l nn vs ns i it r0 r1 r3 hl hi hlen h0 h1 e0 e1 e3 a0 b0 a1 b1 a3 b3
  rw [p_can (r3 := r3) a0 b0 a1 b1, show decide (dueA tabV r0 r1 r3 ≠ dueB tabV r0 r1 r3) = (dueA tabV r0 r1 r3 != dueB tabV r0 r1 r3) from by rw [Bool.eq_iff_iff]; simp] at h
  exact h
end
section
local macro_rules | `(tactic| walk_at "exec For Name Subscript cons nil") => `(tactic| (k_here; (rename Fr _ _ _ _ => lF'); (with_unfolding_all refine' For_invVF lF' ?k1 ?k2 ?_; (case k1 => exact rfl); (case k2 => exact rfl); k_whole)))
local macro_rules | `(tactic| walk_at "CompSrc") => `(tactic| (k_here; k_dflt (refine LCg.CompSrc.range (by rfl) (by k_asm) (by k_asm) (by assumption) (by first | decide | rfl) (by first | rfl | decide) (by first | size_fits | exact Nat.le_of_ble_eq_true rfl) ?_; intro g'; lcg_lit)))
local macro_rules | `(tactic| k_ne) => `(tactic| first
  | (refine neN ?_; with_reducible assumption)
  | ((rename (_ < _ ∧ _) => q9); (refine neN ?_); (try dsimp only); with_reducible first | exact Nat.ne_of_lt q9.1 | exact Nat.ne_of_lt q9.2.1 | exact Nat.ne_of_lt q9.2.2.1 | exact Nat.ne_of_lt q9.2.2.2.1 | exact Nat.ne_of_lt q9.2.2.2.2.1 | exact Nat.ne_of_lt q9.2.2.2.2.2.1 | exact Nat.ne_of_lt q9.2.2.2.2.2.2.1 | exact Nat.ne_of_lt q9.2.2.2.2.2.2.2.1 | exact Nat.ne_of_lt q9.2.2.2.2.2.2.2.2.1 | exact Nat.ne_of_lt q9.2.2.2.2.2.2.2.2.2.1 | exact Nat.ne_of_gt q9.1 | exact Nat.ne_of_gt q9.2.1 | exact Nat.ne_of_gt q9.2.2.1 | exact Nat.ne_of_gt q9.2.2.2.1 | exact Nat.ne_of_gt q9.2.2.2.2.1 | exact Nat.ne_of_gt q9.2.2.2.2.2.1 | exact Nat.ne_of_gt q9.2.2.2.2.2.2.1 | exact Nat.ne_of_gt q9.2.2.2.2.2.2.2.1 | exact Nat.ne_of_gt q9.2.2.2.2.2.2.2.2.1 | exact Nat.ne_of_gt q9.2.2.2.2.2.2.2.2.2.1)
  | ((rename ((_ ≠ _ ∧ _ ≠ _ ∧ _ ≠ _) ∧ _) => off9); (refine neN ?_); (try dsimp only); first | (simp only [ne_eq, off9, not_false_eq_true]; done) | (refine Ne.symm ?_; simp only [ne_eq, off9, not_false_eq_true]; done))
  | ((rename (_ ≠ _ ∧ _) => off9); (refine neN ?_); (try dsimp only); first | (simp only [ne_eq, off9, not_false_eq_true]; done) | (refine Ne.symm ?_; simp only [ne_eq, off9, not_false_eq_true]; done)))
local macro_rules | `(tactic| walk_at "CompRest") => `(tactic| ((rename ((_ ≠ _ ∧ _ ≠ _ ∧ _ ≠ _) ∧ _) => z9); clear z9; walk_at "CompRest"))
local macro_rules | `(tactic| walk_at "FinA") => `(tactic| ((rename ((_ ≠ _ ∧ _ ≠ _ ∧ _ ≠ _) ∧ _) => z9); clear z9; walk_at "FinA"))
local macro_rules | `(tactic| walk_at "CompEnd") => `(tactic| ((rename News _ _ _ _ => N9); (rename ((_ ≠ _ ∧ _ ≠ _ ∧ _ ≠ _) ∧ _) => off9); (refine LCg.CompEnd.intro (by assumption) N9 _ (fun _ hp => hp) off9 (by lcg_src) ?_); (try dsimp only)))
theorem off1_mem {D : Addr} : ∀ {l : List (Addr × Obj)}, LCg.Off1 D l → ∀ p ∈ l, p.1 ≠ D
  | [], _, _, h => nomatch h
  | _ :: _, x, p, h => by
    rcases List.mem_cons.mp h with rfl | h
    · exact x.1
    · exact off1_mem x.2 p h
local macro_rules | `(tactic| k_all) => `(tactic| ((rename (_ ≠ _ ∧ _ ≠ _ ∧ _ ≠ _ ∧ _) => q9); exact off1_mem (q9.2.2.2.2.2.2.2.2)))
theorem alt_ne {D : Addr} {l : List (Addr × Obj)} (h : AllLt D l) : ∀ p ∈ l, p.1 ≠ D := fun p hp => Nat.ne_of_lt (tb_ltOf h p hp)
local macro_rules | `(tactic| k_all) => `(tactic| ((rename (_ < _ ∧ _ < _ ∧ _ < _ ∧ _) => q9); first | exact alt_ne (q9.2.2.2.2.2.2.2.2.2) | exact alt_ne (q9.2.2.2.2.2.2.2.2.2.2)))
local macro_rules | `(tactic| walk_at "UnrEnd") => `(tactic| ((rename News _ _ _ _ => N9); (refine UnrEnd.intro (by assumption) N9 _ (fun _ hp => hp) (by k_all) ?_); (try dsimp only)))
local macro_rules | `(tactic| walk_at "ite") => `(tactic| (k_here; k_dflt (refine ite_neg (by simp) ?_)))
structure IfMark : Prop where
  one : True
structure Mid (h₀ : Heap) (L : Addr) (m : Str → Option Value) (s₀ : Shared) (D l G : Addr) (w2 w3 w4 : Value) (a b c : Addr × Obj) (rest : List (Addr × Obj)) (i : Int) (f : Flow) (s : Shared) : Prop where
  out : ∃ (x0 : Int) (t0 : Tok) (n : Nat) (i' : Int) (it' : Tok) (hh' : Int) (ht' : Tok) (h' : Heap) (tk' : Nat), f = .next ∧ s = { s₀ with heap := h', toks := tk' } ∧ Fr h₀ L h' m ∧ News h₀ L h' ((D, listOf #[.int x0 t0, w2, w3, w4] n) :: a :: b :: c :: (l, boxOf G 0 i' it' hh' ht') :: rest) ∧ 0 ≤ x0 ∧ x0 < 256 ∧ i ≤ i' ∧ i' ≤ i + 2 ∧ 0 ≤ hh' ∧ hh' < 2147483647
theorem if_mid {M : Model} {A : Around} {st : Stmt} {env : Env} {E : Value → Shared → Prop} {Q : Flow → Shared → Prop} {s : Shared} {h₀ : Heap} {L : Addr} {m : Str → Option Value} {D l G : Addr} {x : Int} {t : Tok} {w2 w3 w4 : Value} {a b c : Addr × Obj} {rest : List (Addr × Obj)} {i hh : Int} {it ht : Tok}
    (F : Fr h₀ L s.heap m) (N : News h₀ L s.heap ((D, LCg.lst [.int x t, w2, w3, w4]) :: a :: b :: c :: (l, boxOf G 0 i it hh ht) :: rest))
    (h1 : IfMark → wpAny M A (exec st env) (fun f s' => Mid h₀ L m s D l G w2 w3 w4 a b c rest i f s') E s)
    (h2 : ∀ (x0 : Int) (t0 : Tok) (n : Nat) (i' : Int) (it' : Tok) (hh' : Int) (ht' : Tok) (h' : Heap) (tk' : Nat), Fr h₀ L h' m → News h₀ L h' ((D, listOf #[.int x0 t0, w2, w3, w4] n) :: a :: b :: c :: (l, boxOf G 0 i' it' hh' ht') :: rest) → 0 ≤ x0 → x0 < 256 → i ≤ i' → i' ≤ i + 2 → 0 ≤ hh' → hh' < 2147483647 → Q .next { s with heap := h', toks := tk' }) :
    wpAny M A (exec st env) Q E s := by
  refine wpAny_mono (h1 ⟨trivial⟩) (fun f s' z => ?_) fun _ _ e => e
  obtain ⟨x0, t0, n, i', it', hh', ht', h', tk', rfl, rfl, F', N', b1, b2, b3, b4, b5, b6⟩ := z.out
  exact h2 x0 t0 n i' it' hh' ht' h' tk' F' N' b1 b2 b3 b4 b5 b6
local macro_rules | `(tactic| walk_at "exec If") => `(tactic| (k_here; (fail_if_success (rename IfMark => x9)); (rename Fr _ _ _ _ => F9); (rename News _ _ _ _ => N9); (refine if_mid F9 N9 (fun mk9 => ?_) (fun x9 t9 n9 i9 it9 hh9 ht9 h9 tk9 F8 N8 c1 c2 c3 c4 c5 c6 => ?_))))
structure StopMark2 : Prop where
  one : True
structure StopMark : Prop where
  one : True
local macro_rules | `(tactic| walk_at "exec For Name Call cons nil") => `(tactic| (k_here; (rename StopMark => mk9); refine Hold.out ?_))
local macro_rules | `(tactic| walk_at "pyIter ref") => `(tactic| (k_here; (rename StopMark => mk9); refine Hold.out ?_))
theorem ne_box {h₀ h : Heap} {L D l E : Addr} {n k : Nat} {ys : List Value} {zs : List Int} {i j : Int} {t u : Tok} {K : List (Addr × Obj)} (N : News h₀ L h K) (I : IntsAre ys zs) (h3 : zs.length ≠ 3) (h1 : (D, listOf ys.toArray n) ∈ K) (h2 : (l, boxOf E k i t j u) ∈ K) : D ≠ l := by
  intro e
  subst e
  have e1 := (N _ h1).1.symm.trans (N _ h2).1
  have e2 := congrArg Obj.data (Option.some.inj e1)
  injection e2 with e3 _
  have e4 := congrArg Array.size e3
  rw [List.size_toArray, I.length] at e4
  exact h3 e4
local macro_rules | `(tactic| k_all) => `(tactic| with_reducible assumption)
theorem box_in {h₀ h : Heap} {L l D : Addr} {n : Nat} {i j : Int} {t u : Tok} {rest : List (Addr × Obj)} (N : News h₀ L h ((l, listOf #[.int i t, .ref D, .int j u] n) :: rest)) : ∃ t' u', News h₀ L h ((l, boxOf D n i t' j u') :: rest) := ⟨t, u, N⟩
theorem cell_at {h₀ h : Heap} {L x : Addr} {a b c : Addr × Obj} {o : Obj} {rest : List (Addr × Obj)} (N : News h₀ L h (a :: b :: c :: (x, o) :: rest)) : ∃ y, y = x := ⟨_, rfl⟩
theorem cell_at5 {h₀ h : Heap} {L x : Addr} {a b c d e : Addr × Obj} {o : Obj} {rest : List (Addr × Obj)} (N : News h₀ L h (a :: b :: c :: d :: e :: (x, o) :: rest)) : ∃ y, y = x := ⟨_, rfl⟩
theorem sub_nil {K : List (Addr × Obj)} : ∀ p ∈ ([] : List (Addr × Obj)), p ∈ K := fun _ hp => nomatch hp
local macro_rules | `(tactic| walk_at "call ref") => `(tactic| (k_here; k_dflt (first
    | (refine' place_use (table_cut _ _) ?st ?_; (case st => walk_at "std here");   intro D9 ys9 n9 h9 tk9 F9 N9 I9; (try dsimp only); (try k_fold))
    | (refine' place_use (lengths_cut _ _) ?st ?_; (case st => walk_at "std here");   intro D9 ys9 n9 h9 tk9 F9 N9 I9; (try dsimp only); (try k_fold))
    | (refine' place_use (draw_cut _ _ _ _ _ _ _ _ _ _ _ _ _ _ ?hb ?hl ?hi ?hlen ?h0 ?h1 ?h2 ?h3 ?hk0 ?hk1 ?hlb) ?st ?_; (case st => walk_at "std here"); 
        (case hb => k_mem); (case hl => k_mem); (case hi => assumption); (case hlen => assumption); (case h0 => omega); (case h1 => omega); (case h2 => omega); (case h3 => omega); (case hk0 => omega); (case hk1 => omega); (case hlb => assumption); 
        intro v9 t9 i9 h9 it9 ht9 g9 tk9 F9 NU9 e9 a9 b9 c9 d9; (have N9 := NU9 _ _ rfl (by k_upd)); clear NU9; (try dsimp only at e9); (try dsimp only); (try k_fold))
    | (refine' place_use (due_cut _ _ _ _ _ _ _ _ _ _ _ _ _ _ ?m1 ?m2 ?m3 ?hR ?hlR ?hT ?hlT ?hL ?hlL ?a0 ?b0 ?a1 ?b1) ?st ?_; (case st => walk_at "std here"); 
        (case m1 => k_mem); (case m2 => k_mem); (case m3 => k_mem); (case hR => exact .cons _ _ (.cons _ _ (.cons _ _ (.cons _ _ .nil)))); (case hT => assumption); (case hL => assumption); (case hlR => exact rfl); (case hlT => exact tabV_len); (case hlL => exact lenV_len);
        (case a0 => (rw [get0]; first | assumption | (refine (menu_bd _ ?_ ?_).1 <;> assumption) | (refine (menu_bd _ ?_ ?_).2 <;> assumption))); (case b0 => (rw [get0]; first | assumption | (refine (menu_bd _ ?_ ?_).1 <;> assumption) | (refine (menu_bd _ ?_ ?_).2 <;> assumption))); (case a1 => (rw [get1]; first | assumption | (refine (menu_bd _ ?_ ?_).1 <;> assumption) | (refine (menu_bd _ ?_ ?_).2 <;> assumption))); (case b1 => (rw [get1]; first | assumption | (refine (menu_bd _ ?_ ?_).1 <;> assumption) | (refine (menu_bd _ ?_ ?_).2 <;> assumption))); 
        intro d9 ta9 tb9 tc9 h9 tk9 F9 N9; (simp only [get0, get1, get3] at N9); (try dsimp only); (try k_fold))
    | (refine' place_use (taken_cut _ _ _ _ _ _ _ _ _ _ _ ?m1 ?hi ?hlen ?h0 ?h1 ?e0 ?e1 ?e3 ?a0 ?b0 ?a1 ?b1 ?a3 ?b3) ?st ?_; (case st => walk_at "std here"); 
        (case m1 => k_mem); (case hi => assumption); (case hlen => exact row_len zeros_len); (case h0 => assumption); (case h1 => omega); (case e0 => (refine row_0 zeros_len ?_ ?_ <;> assumption)); (case e1 => (refine row_1 zeros_len ?_ ?_ <;> assumption)); (case e3 => (refine row_3 zeros_len ?_ ?_ <;> assumption));
        (case a0 => (first | assumption | (refine (menu_bd _ ?_ ?_).1 <;> assumption) | (refine (menu_bd _ ?_ ?_).2 <;> assumption))); (case b0 => (first | assumption | (refine (menu_bd _ ?_ ?_).1 <;> assumption) | (refine (menu_bd _ ?_ ?_).2 <;> assumption))); (case a1 => (first | assumption | (refine (menu_bd _ ?_ ?_).1 <;> assumption) | (refine (menu_bd _ ?_ ?_).2 <;> assumption))); (case b1 => (first | assumption | (refine (menu_bd _ ?_ ?_).1 <;> assumption) | (refine (menu_bd _ ?_ ?_).2 <;> assumption))); (case a3 => (first | assumption | (refine (menu_bd _ ?_ ?_).1 <;> assumption) | (refine (menu_bd _ ?_ ?_).2 <;> assumption))); (case b3 => (first | assumption | (refine (menu_bd _ ?_ ?_).1 <;> assumption) | (refine (menu_bd _ ?_ ?_).2 <;> assumption))); 
        intro t9 h9 tk9 F9 N9; (try dsimp only); (try k_fold))
    | (refine' place_use (untaken_cut _ _ _ _ _ _ _ _ _ _ _ ?m1 ?hi ?hlen ?h0 ?h1 ?e0 ?e1 ?e3 ?a0 ?b0 ?a1 ?b1 ?a3 ?b3) ?st ?_; (case st => walk_at "std here"); 
        (case m1 => k_mem); (case hi => assumption); (case hlen => exact row_len zeros_len); (case h0 => assumption); (case h1 => omega); (case e0 => (refine row_0 zeros_len ?_ ?_ <;> assumption)); (case e1 => (refine row_1 zeros_len ?_ ?_ <;> assumption)); (case e3 => (refine row_3 zeros_len ?_ ?_ <;> assumption));
        (case a0 => (first | assumption | (refine (menu_bd _ ?_ ?_).1 <;> assumption) | (refine (menu_bd _ ?_ ?_).2 <;> assumption))); (case b0 => (first | assumption | (refine (menu_bd _ ?_ ?_).1 <;> assumption) | (refine (menu_bd _ ?_ ?_).2 <;> assumption))); (case a1 => (first | assumption | (refine (menu_bd _ ?_ ?_).1 <;> assumption) | (refine (menu_bd _ ?_ ?_).2 <;> assumption))); (case b1 => (first | assumption | (refine (menu_bd _ ?_ ?_).1 <;> assumption) | (refine (menu_bd _ ?_ ?_).2 <;> assumption))); (case a3 => (first | assumption | (refine (menu_bd _ ?_ ?_).1 <;> assumption) | (refine (menu_bd _ ?_ ?_).2 <;> assumption))); (case b3 => (first | assumption | (refine (menu_bd _ ?_ ?_).1 <;> assumption) | (refine (menu_bd _ ?_ ?_).2 <;> assumption))); 
        intro t9 h9 tk9 F9 N9; (try dsimp only); (try k_fold))
    | (refine' place_use (many_cut _ _ _ _ _ _ _ _ _ _ _ ?m1 ?hi ?hlen ?h0 ?h1 ?e0 ?e1 ?e3 ?a0 ?b0 ?a1 ?b1 ?a3 ?b3) ?st ?_; (case st => walk_at "std here"); 
        (case m1 => k_mem); (case hi => assumption); (case hlen => exact row_len zeros_len); (case h0 => assumption); (case h1 => omega); (case e0 => (refine row_0 zeros_len ?_ ?_ <;> assumption)); (case e1 => (refine row_1 zeros_len ?_ ?_ <;> assumption)); (case e3 => (refine row_3 zeros_len ?_ ?_ <;> assumption));
        (case a0 => (first | assumption | (refine (menu_bd _ ?_ ?_).1 <;> assumption) | (refine (menu_bd _ ?_ ?_).2 <;> assumption))); (case b0 => (first | assumption | (refine (menu_bd _ ?_ ?_).1 <;> assumption) | (refine (menu_bd _ ?_ ?_).2 <;> assumption))); (case a1 => (first | assumption | (refine (menu_bd _ ?_ ?_).1 <;> assumption) | (refine (menu_bd _ ?_ ?_).2 <;> assumption))); (case b1 => (first | assumption | (refine (menu_bd _ ?_ ?_).1 <;> assumption) | (refine (menu_bd _ ?_ ?_).2 <;> assumption))); (case a3 => (first | assumption | (refine (menu_bd _ ?_ ?_).1 <;> assumption) | (refine (menu_bd _ ?_ ?_).2 <;> assumption))); (case b3 => (first | assumption | (refine (menu_bd _ ?_ ?_).1 <;> assumption) | (refine (menu_bd _ ?_ ?_).2 <;> assumption))); 
        intro t9 h9 tk9 F9 N9; (try dsimp only); (try k_fold))
    | (refine' place_use (can_cut _ _ _ _ _ _ _ _ _ _ _ ?m1 ?hi ?hlen ?h0 ?h1 ?e0 ?e1 ?e3 ?a0 ?b0 ?a1 ?b1 ?a3 ?b3) ?st ?_; (case st => walk_at "std here"); 
        (case m1 => k_mem); (case hi => assumption); (case hlen => exact row_len zeros_len); (case h0 => assumption); (case h1 => omega); (case e0 => (refine row_0 zeros_len ?_ ?_ <;> assumption)); (case e1 => (refine row_1 zeros_len ?_ ?_ <;> assumption)); (case e3 => (refine row_3 zeros_len ?_ ?_ <;> assumption));
        (case a0 => (first | assumption | (refine (menu_bd _ ?_ ?_).1 <;> assumption) | (refine (menu_bd _ ?_ ?_).2 <;> assumption))); (case b0 => (first | assumption | (refine (menu_bd _ ?_ ?_).1 <;> assumption) | (refine (menu_bd _ ?_ ?_).2 <;> assumption))); (case a1 => (first | assumption | (refine (menu_bd _ ?_ ?_).1 <;> assumption) | (refine (menu_bd _ ?_ ?_).2 <;> assumption))); (case b1 => (first | assumption | (refine (menu_bd _ ?_ ?_).1 <;> assumption) | (refine (menu_bd _ ?_ ?_).2 <;> assumption))); (case a3 => (first | assumption | (refine (menu_bd _ ?_ ?_).1 <;> assumption) | (refine (menu_bd _ ?_ ?_).2 <;> assumption))); (case b3 => (first | assumption | (refine (menu_bd _ ?_ ?_).1 <;> assumption) | (refine (menu_bd _ ?_ ?_).2 <;> assumption))); 
        intro t9 h9 tk9 F9 N9; (try dsimp only); (try k_fold)))))
local macro_rules | `(tactic| walk_at "call ref") => `(tactic| (k_here; (rename StopMark2 => m2); (rename LCg.NsObj _ _ => nq); refine Hold.out ?_))
set_option maxRecDepth 100000 in
set_option maxHeartbeats 8000000 in
theorem law_ok : PySem.Challenge.rw_pq1467_01.Holds := by
  w_top off
  refine Mine.hd ?_
  k_go0
  (all_goals try k_fold)
  k_steps
  rename_i D9 h2 tk2 o1 l9 h3 l1 h4 o9 F0 N0 d0
  have hC9 : (List.map (fun k' => k') (List.take 40 ‹List Int›)).length ≤ 40 := by
    rw [List.length_map, List.length_take]
    omega
  obtain ⟨tA, uA, N1⟩ := box_in N0
  obtain ⟨y9, hy9⟩ := cell_at N0
  clear N0
  refine' kd_listI (σ := Int × Tok) (fun c => [(l9, boxOf D9 0 (-1) tA c.1 c.2)]) [(D9, LCg.lst ys), (y9, o9)] (fun _ => []) (fun _ _ => True) [] (fun _ c => 0 ≤ c.1 ∧ c.1 < 2147483647) [l9, D9, y9] (0, uA) ?hh ?hl ?hi F0 N1 ?hn ?hadr trivial ?hk ?hp ?turn ?done
  case hn =>
    subst hy9
    exact (show ∀ p ∈ ([_, _, _] : List (Addr × Obj)), p ∈ _ from sub_cons (sub_cons (sub_skip (sub_cons sub_nil))))
  case hadr => exact fun _ => rfl
  case hh => rfl
  case hl => exact List.mem_cons_self ..
  case hi => assumption
  case hk => exact fun _ hp => nomatch hp
  case hp => exact ⟨Int.le_refl _, (by decide : (0 : Int) < 2147483647)⟩
  case turn =>
    intro c tl pre post n t u h tk own e hmem sep off fa P F N
    obtain ⟨hc, ht⟩ := c
    obtain ⟨P1, P2⟩ := P
    dsimp only at P1 P2
    have off9 : ∀ p ∈ tl ++ own, p.1 ≠ l9 := fun p hp => off p hp l9 (List.mem_cons_self ..)
    have N2 : News _ _ h ((l9, boxOf D9 0 (-1) tA hc ht) :: (D9, LCg.lst ys) :: (y9, o9) :: (tl ++ own)) := N
    clear N N1 F0
    subst hy9
    dsimp only [kstB] at F
    k_steps
  case done =>
    intro c tl u h tk off fa P F N
    obtain ⟨hc, ht⟩ := c
    obtain ⟨P1, P2⟩ := P
    dsimp only at P1 P2
    have off9 : ∀ p ∈ tl, p.1 ≠ l9 := fun p hp => off p hp l9 (List.mem_cons_self ..)
    have N2 : News _ _ h ((l9, boxOf D9 0 (-1) tA hc ht) :: (D9, LCg.lst ys) :: (y9, o9) :: tl) := N
    have mk9 : StopMark := ⟨trivial⟩
    have lD : D9 ≠ l9 := Nat.ne_of_lt l1.1
    have ns9 := ‹IntsAre ys _›
    clear N N1 F0
    subst hy9
    dsimp only [kstB] at F
    k_steps
    refine ⟨?_⟩
    rename_i DT ysT nT hT tkT IT qT eT DL ysL nL hL tkL IL DX hX lX hX1 hX2 hX3 FX NX
    have neT := ne_box NX IT (by decide) (.tail _ (.tail _ (.head _))) (.tail _ (.tail _ (.tail _ (.head _))))
    have neL := ne_box NX IL (by decide) (.tail _ (.head _)) (.tail _ (.tail _ (.tail _ (.head _))))
    with_unfolding_all refine' For_invVF FX ?k1 ?k2 ?_
    case k1 => exact rfl
    case k2 => exact rfl
    k_whole
    k_steps
    refine ⟨?_⟩
    rename_i v9 t9 i9 h9 it9 ht9 g9 tk9 Fa e9 a9 b9 c9 d9 Na hb tkb t1 u1 v1 aR aF aN aK
    obtain ⟨y9, hy9⟩ := cell_at5 aN
    rename StopMark => mkX
    clear mkX
    with_unfolding_all refine' kd_range (σ := Int × Tok × Int × Tok) (fun c => [(l9, boxOf D9 0 c.1 c.2.1 c.2.2.1 c.2.2.2)]) [(D9, LCg.lst ys), (y9, o9), (DT, listOf ysT.toArray nT), (DL, listOf ysL.toArray nL)] (fun _ => []) (fun _ _ => True) [Str.ofString "at", Str.ofString "memory", Str.ofString "row", Str.ofString "spot", Str.ofString "taken", Str.ofString "untaken", Str.ofString "many"] (fun pre c => 0 ≤ c.1 ∧ c.1 ≤ 8 * (pre.length : Int) ∧ 0 ≤ c.2.2.1 ∧ c.2.2.1 < 2147483647) [l9, D9, y9, DT, DL] (i9, it9, h9, ht9) ?hh aR ?hs (rangeSize_nat _ _) aF aN ?hn ?hadr trivial ?hk ?hp ?turn ?done
    case hs => exact small_one (by omega) (by omega) (by omega) (by omega)
    case hn =>
      subst hy9
      exact (show ∀ p ∈ ([_, _, _, _, _] : List (Addr × Obj)), p ∈ _ from List.forall_mem_cons.mpr ⟨.tail _ (.tail _ (.tail _ (.head _))), List.forall_mem_cons.mpr ⟨.tail _ (.tail _ (.tail _ (.tail _ (.head _)))), List.forall_mem_cons.mpr ⟨.tail _ (.tail _ (.tail _ (.tail _ (.tail _ (.head _))))), List.forall_mem_cons.mpr ⟨.tail _ (.tail _ (.head _)), List.forall_mem_cons.mpr ⟨.tail _ (.head _), sub_nil⟩⟩⟩⟩⟩)
    case hadr => exact fun _ => rfl
    case hh => rfl
    case hk => exact fun _ hp => nomatch hp
    case hp => exact ⟨(by omega : 0 ≤ i9), (by show i9 ≤ 8 * ((0 : Nat) : Int); omega), a9, b9⟩
    case turn =>
      intro c tl2 pre k t u2 h tk own e hlt sep off2 fa2 P F N
      obtain ⟨ic, ti, hc2, th⟩ := c
      obtain ⟨P1, P2, P3, P4⟩ := P
      dsimp only at P1 P2 P3 P4
      have P5 : ic ≤ 72 := by omega
      have off9 : ∀ p ∈ tl2 ++ own, p.1 ≠ l9 := fun p hp => off2 p hp l9 (List.mem_cons_self ..)
      have N2 : News _ _ h ((l9, boxOf D9 0 ic ti hc2 th) :: (D9, LCg.lst ys) :: (y9, o9) :: (DT, listOf ysT.toArray nT) :: (DL, listOf ysL.toArray nL) :: (tl2 ++ own)) := N
      clear N aN Na NX aF Fa FX aR aK
      subst hy9
      dsimp only [kstB] at F
      k_steps
      all_goals (rename News _ _ _ _ => N9; rename Fr _ _ _ _ => F9)
      all_goals first
        | exact ⟨⟨_, _, _, _, _, _, _, _, _, rfl, rfl, F9, N9, by assumption, by assumption, by omega, by omega, by assumption, by assumption⟩⟩
        | exact ⟨⟨_, _, _, _, _, _, _, _, _, rfl, rfl, F9, fun p hp => N9 p (List.mem_cons_of_mem _ hp), by (refine (menu_bd _ ?_ ?_).1 <;> assumption), by (refine (menu_bd _ ?_ ?_).2 <;> assumption), by omega, by omega, by assumption, by assumption⟩⟩
    case done =>
      intro c tl2 u2 h tk off2 fa2 P F N
      obtain ⟨ic, ti, hc2, th⟩ := c
      have N2 : News _ _ h ((l9, boxOf D9 0 ic ti hc2 th) :: (D9, LCg.lst ys) :: (y9, o9) :: (DT, listOf ysT.toArray nT) :: (DL, listOf ysL.toArray nL) :: tl2) := N
      clear N aN Na NX aF Fa FX aR aK P
      subst hy9
      dsimp only [kstB] at F
      k_steps
end
end Mine
theorem PySem.Challenge.cw_pq1467_01_holds : PySem.Challenge.rw_pq1467_01.Holds := by
  exact Mine.law_ok
