import PyProof.Rows.All
import Wide.All
import OpenK.AllK
import Wide.FinOn
import HandS.ForMost
import HandS.ForExc
import HandS.Evl
import HandS.Rev
import HandS.Style
import HandS.TupAny
import HandS.IsInst
import HandS.TryMany
import HandS.ExcInit
import HandS.ExcField
import PySem.Challenge.RW_ringhouse_k16_whole_verdicts
import HandS.TupSets
set_option Elab.async false
set_option linter.all false
set_option maxRecDepth 100000
set_option maxHeartbeats 4000000
namespace RH
open PySem PySem.Spec PyProof.Rows L2 Evl
/-! ### the text -/
def topS (i : Nat) : Stmt := PySem.Challenge.pw_ringhouse_k16_whole_verdicts.main.body.getD i (.Pass ⟨0, 0, 0, 0⟩)
abbrev s_FallsApart___init__ : Stmt := inClass (topS 5) 0
abbrev N_FallsApart___init__ : List Str := ["self", "left", "right"]
theorem sc_FallsApart___init__ : FnScope N_FallsApart___init__ ["self", "left", "right"] (defScope s_FallsApart___init__) := ⟨rfl, rfl, rfl, by decide +kernel, rfl, by decide +kernel, by decide +kernel⟩
abbrev s_NotWhole___init__ : Stmt := inClass (topS 6) 0
abbrev N_NotWhole___init__ : List Str := ["self", "prime", "number"]
theorem sc_NotWhole___init__ : FnScope N_NotWhole___init__ ["self", "prime", "number"] (defScope s_NotWhole___init__) := ⟨rfl, rfl, rfl, by decide +kernel, rfl, by decide +kernel, by decide +kernel⟩
abbrev s_cut : Stmt := topS 8
abbrev N_cut : List Str := ["row", "many"]
theorem sc_cut : FnScope N_cut ["row"] (defScope s_cut) := ⟨rfl, rfl, rfl, by decide +kernel, rfl, by decide +kernel, by decide +kernel⟩
abbrev s_poly_parted : Stmt := topS 9
abbrev N_poly_parted : List Str := ["f", "g", "degree", "left", "quotient", "at", "part", "j"]
theorem sc_poly_parted : FnScope N_poly_parted ["f", "g"] (defScope s_poly_parted) := ⟨rfl, rfl, rfl, by decide +kernel, rfl, by decide +kernel, by decide +kernel⟩
abbrev s_poly_at : Stmt := topS 10
abbrev N_poly_at : List Str := ["f", "x", "value", "place"]
theorem sc_poly_at : FnScope N_poly_at ["f", "x"] (defScope s_poly_at) := ⟨rfl, rfl, rfl, by decide +kernel, rfl, by decide +kernel, by decide +kernel⟩
abbrev s_root : Stmt := topS 13
abbrev N_root : List Str := ["m", "high", "low", "middle"]
theorem sc_root : FnScope N_root ["m"] (defScope s_root) := ⟨rfl, rfl, rfl, by decide +kernel, rfl, by decide +kernel, by decide +kernel⟩
abbrev s_small_primes : Stmt := topS 14
abbrev N_small_primes : List Str := []
theorem sc_small_primes : FnScope N_small_primes [] (defScope s_small_primes) := ⟨rfl, rfl, rfl, by decide +kernel, rfl, by decide +kernel, by decide +kernel⟩
abbrev s_turned : Stmt := topS 15
abbrev N_turned : List Str := ["a", "p", "one", "two", "first", "second", "part"]
theorem sc_turned : FnScope N_turned ["a", "p"] (defScope s_turned) := ⟨rfl, rfl, rfl, by decide +kernel, rfl, by decide +kernel, by decide +kernel⟩
abbrev s_check_poly : Stmt := topS 18
abbrev N_check_poly : List Str := ["poly", "good", "place"]
theorem sc_check_poly : FnScope N_check_poly ["poly"] (defScope s_check_poly) := ⟨rfl, rfl, rfl, by decide +kernel, rfl, by decide +kernel, by decide +kernel⟩
abbrev s_whole_root : Stmt := topS 19
abbrev N_whole_root : List Str := ["poly", "last", "size"]
theorem sc_whole_root : FnScope N_whole_root ["poly"] (defScope s_whole_root) := ⟨rfl, rfl, rfl, by decide +kernel, rfl, by decide +kernel, by decide +kernel⟩
abbrev s_pair_by : Stmt := topS 20
abbrev N_pair_by : List Str := ["poly", "b", "d", "amid", "top", "a", "square"]
theorem sc_pair_by : FnScope N_pair_by ["poly", "b"] (defScope s_pair_by) := ⟨rfl, rfl, rfl, by decide +kernel, rfl, by decide +kernel, by decide +kernel⟩
abbrev s_apart : Stmt := topS 21
abbrev N_apart : List Str := ["poly", "at", "last", "size", "b", "found"]
theorem sc_apart : FnScope N_apart ["poly"] (defScope s_apart) := ⟨rfl, rfl, rfl, by decide +kernel, rfl, by decide +kernel, by decide +kernel⟩
abbrev s_det : Stmt := topS 23
abbrev N_det : List Str := ["table", "total", "i", "lower", "part", "row"]
theorem sc_det : FnScope N_det ["table"] (defScope s_det) := ⟨rfl, rfl, rfl, by decide +kernel, rfl, by decide +kernel, by decide +kernel⟩
abbrev s_power_sums : Stmt := topS 25
abbrev N_power_sums : List Str := ["poly", "many", "degree", "sums", "k", "total", "i"]
theorem sc_power_sums : FnScope N_power_sums ["poly", "many"] (defScope s_power_sums) := ⟨rfl, rfl, rfl, by decide +kernel, rfl, by decide +kernel, by decide +kernel⟩
abbrev s_measure : Stmt := topS 26
abbrev N_measure : List Str := ["poly", "degree", "sums", "rows", "i", "j"]
theorem sc_measure : FnScope N_measure ["poly"] (defScope s_measure) := ⟨rfl, rfl, rfl, by decide +kernel, rfl, by decide +kernel, by decide +kernel⟩
abbrev s_mod_poly : Stmt := topS 28
abbrev N_mod_poly : List Str := ["row", "p", "place"]
theorem sc_mod_poly : FnScope N_mod_poly ["row", "p"] (defScope s_mod_poly) := ⟨rfl, rfl, rfl, by decide +kernel, rfl, by decide +kernel, by decide +kernel⟩
abbrev s_mod_parted : Stmt := topS 29
abbrev N_mod_parted : List Str := ["a", "b", "p", "left", "by", "degree", "back", "quotient", "at", "part", "j"]
theorem sc_mod_parted : FnScope N_mod_parted ["a", "b", "p"] (defScope s_mod_parted) := ⟨rfl, rfl, rfl, by decide +kernel, rfl, by decide +kernel, by decide +kernel⟩
abbrev s_mod_at : Stmt := topS 30
abbrev N_mod_at : List Str := ["f", "x", "p", "value", "place"]
theorem sc_mod_at : FnScope N_mod_at ["f", "x", "p"] (defScope s_mod_at) := ⟨rfl, rfl, rfl, by decide +kernel, rfl, by decide +kernel, by decide +kernel⟩
abbrev s_pair_of : Stmt := topS 32
abbrev N_pair_of : List Str := ["left", "p", "low", "one", "two", "three", "b", "d", "a"]
theorem sc_pair_of : FnScope N_pair_of ["left", "p"] (defScope s_pair_of) := ⟨rfl, rfl, rfl, by decide +kernel, rfl, by decide +kernel, by decide +kernel⟩
abbrev s_rootless : Stmt := topS 33
abbrev N_rootless : List Str := ["left", "p", "pair", "g"]
theorem sc_rootless : FnScope N_rootless ["left", "p"] (defScope s_rootless) := ⟨rfl, rfl, rfl, by decide +kernel, rfl, by decide +kernel, by decide +kernel⟩
abbrev s_split_by : Stmt := topS 34
abbrev N_split_by : List Str := ["poly", "p", "left", "parts", "low", "often"]
theorem sc_split_by : FnScope N_split_by ["poly", "p"] (defScope s_split_by) := ⟨rfl, rfl, rfl, by decide +kernel, rfl, by decide +kernel, by decide +kernel⟩
abbrev s_square_primes : Stmt := topS 36
abbrev N_square_primes : List Str := ["size", "p"]
theorem sc_square_primes : FnScope N_square_primes ["size"] (defScope s_square_primes) := ⟨rfl, rfl, rfl, by decide +kernel, rfl, by decide +kernel, by decide +kernel⟩
abbrev s_parts_of : Stmt := topS 37
abbrev N_parts_of : List Str := ["poly", "p", "parts", "g", "often"]
theorem sc_parts_of : FnScope N_parts_of ["poly", "p"] (defScope s_parts_of) := ⟨rfl, rfl, rfl, by decide +kernel, rfl, by decide +kernel, by decide +kernel⟩
abbrev s_divides_all : Stmt := topS 38
abbrev N_divides_all : List Str := ["m", "row", "place"]
theorem sc_divides_all : FnScope N_divides_all ["m", "row"] (defScope s_divides_all) := ⟨rfl, rfl, rfl, by decide +kernel, rfl, by decide +kernel, by decide +kernel⟩
abbrev s_outside : Stmt := topS 39
abbrev N_outside : List Str := ["poly", "size", "p", "g", "often", "rest_by", "row", "place"]
theorem sc_outside : FnScope N_outside ["poly", "size"] (defScope s_outside) := ⟨rfl, rfl, rfl, by decide +kernel, rfl, by decide +kernel, by decide +kernel⟩
abbrev s_Ring___init__ : Stmt := inClass (topS 42) 0
abbrev N_Ring___init__ : List Str := ["self", "poly", "found", "size", "lack"]
theorem sc_Ring___init__ : FnScope N_Ring___init__ ["self", "poly"] (defScope s_Ring___init__) := ⟨rfl, rfl, rfl, by decide +kernel, rfl, by decide +kernel, by decide +kernel⟩
abbrev s__law_cell : Stmt := topS 44
abbrev N__law_cell : List Str := ["_law_script", "_law_k"]
theorem sc__law_cell : FnScope N__law_cell ["_law_script", "_law_k"] (defScope s__law_cell) := ⟨rfl, rfl, rfl, by decide +kernel, rfl, by decide +kernel, by decide +kernel⟩
abbrev s__law_mixed : Stmt := topS 45
abbrev N__law_mixed : List Str := ["_law_cell_here", "_law_k", "_law_prime", "_law_far"]
theorem sc__law_mixed : FnScope N__law_mixed ["_law_cell_here", "_law_k", "_law_prime"] (defScope s__law_mixed) := ⟨rfl, rfl, rfl, by decide +kernel, rfl, by decide +kernel, by decide +kernel⟩
abbrev s__law_draws : Stmt := topS 46
abbrev N__law_draws : List Str := ["_law_cell_here", "_law_widths", "_law_prime", "_law_left", "_law_found", "_law_k"]
theorem sc__law_draws : FnScope N__law_draws ["_law_cell_here", "_law_widths", "_law_prime"] (defScope s__law_draws) := ⟨rfl, rfl, rfl, by decide +kernel, rfl, by decide +kernel, by decide +kernel⟩
abbrev s__law_shifted : Stmt := topS 47
abbrev N__law_shifted : List Str := ["_law_poly", "_law_s", "_law_row_here", "_law_low", "_law_at"]
theorem sc__law_shifted : FnScope N__law_shifted ["_law_poly", "_law_s"] (defScope s__law_shifted) := ⟨rfl, rfl, rfl, by decide +kernel, rfl, by decide +kernel, by decide +kernel⟩
abbrev s__law_value : Stmt := topS 48
abbrev N__law_value : List Str := ["_law_poly", "_law_r", "_law_total", "_law_place"]
theorem sc__law_value : FnScope N__law_value ["_law_poly", "_law_r"] (defScope s__law_value) := ⟨rfl, rfl, rfl, by decide +kernel, rfl, by decide +kernel, by decide +kernel⟩
abbrev s__law_whole : Stmt := topS 49
abbrev N__law_whole : List Str := ["_law_found"]
theorem sc__law_whole : FnScope N__law_whole ["_law_found"] (defScope s__law_whole) := ⟨rfl, rfl, rfl, by decide +kernel, rfl, by decide +kernel, by decide +kernel⟩
abbrev s__law_row : Stmt := topS 50
abbrev N__law_row : List Str := ["_law_found", "_law_many", "_law_place"]
theorem sc__law_row : FnScope N__law_row ["_law_found", "_law_many"] (defScope s__law_row) := ⟨rfl, rfl, rfl, by decide +kernel, rfl, by decide +kernel, by decide +kernel⟩
abbrev s__law_times : Stmt := topS 51
abbrev N__law_times : List Str := ["_law_poly", "_law_x", "_law_y", "_law_many", "_law_raw", "_law_i", "_law_j", "_law_k", "_law_at"]
theorem sc__law_times : FnScope N__law_times ["_law_poly", "_law_x", "_law_y"] (defScope s__law_times) := ⟨rfl, rfl, rfl, by decide +kernel, rfl, by decide +kernel, by decide +kernel⟩
abbrev s__law_table : Stmt := topS 52
abbrev N__law_table : List Str := ["_law_poly", "_law_x", "_law_many", "_law_turn", "_law_rows", "_law_row_here", "_law_k"]
theorem sc__law_table : FnScope N__law_table ["_law_poly", "_law_x"] (defScope s__law_table) := ⟨rfl, rfl, rfl, by decide +kernel, rfl, by decide +kernel, by decide +kernel⟩
abbrev s__law_det : Stmt := topS 53
abbrev N__law_det : List Str := ["_law_rows", "_law_total", "_law_i", "_law_minor", "_law_row_here"]
theorem sc__law_det : FnScope N__law_det ["_law_rows"] (defScope s__law_det) := ⟨rfl, rfl, rfl, by decide +kernel, rfl, by decide +kernel, by decide +kernel⟩
abbrev s__law_falls : Stmt := topS 54
abbrev N__law_falls : List Str := ["_law_poly", "_law_low", "_law_r", "_law_wide", "_law_b", "_law_d", "_law_part", "_law_a", "_law_place"]
theorem sc__law_falls : FnScope N__law_falls ["_law_poly"] (defScope s__law_falls) := ⟨rfl, rfl, rfl, by decide +kernel, rfl, by decide +kernel, by decide +kernel⟩
abbrev s__law_closed : Stmt := topS 55
abbrev N__law_closed : List Str := ["_law_poly", "_law_d", "_law_c", "_law_b", "_law_total", "_law_e", "_law_one", "_law_two"]
theorem sc__law_closed : FnScope N__law_closed ["_law_poly"] (defScope s__law_closed) := ⟨rfl, rfl, rfl, by decide +kernel, rfl, by decide +kernel, by decide +kernel⟩
abbrev s__law_square_lacks : Stmt := topS 56
abbrev N__law_square_lacks : List Str := ["_law_poly", "_law_p", "_law_half", "_law_a", "_law_b", "_law_c", "_law_d", "_law_r"]
theorem sc__law_square_lacks : FnScope N__law_square_lacks ["_law_poly", "_law_p"] (defScope s__law_square_lacks) := ⟨rfl, rfl, rfl, by decide +kernel, rfl, by decide +kernel, by decide +kernel⟩
abbrev s__law_lacks : Stmt := topS 57
abbrev N__law_lacks : List Str := ["_law_poly", "_law_amount", "_law_steep", "_law_p", "_law_r", "_law_k", "_law_q"]
theorem sc__law_lacks : FnScope N__law_lacks ["_law_poly", "_law_amount"] (defScope s__law_lacks) := ⟨rfl, rfl, rfl, by decide +kernel, rfl, by decide +kernel, by decide +kernel⟩
abbrev s__law_own : Stmt := topS 58
abbrev N__law_own : List Str := ["_law_poly", "_law_x", "_law_many", "_law_table_here", "_law_picks", "_law_i", "_law_places", "_law_pick", "_law_minor", "_law_sign", "_law_at", "_law_j"]
theorem sc__law_own : FnScope N__law_own ["_law_poly", "_law_x"] (defScope s__law_own) := ⟨rfl, rfl, rfl, by decide +kernel, rfl, by decide +kernel, by decide +kernel⟩
abbrev s__law_whole_by : Stmt := topS 59
abbrev N__law_whole_by : List Str := ["_law_poly", "_law_x", "_law_m", "_law_places", "_law_far", "_law_k"]
theorem sc__law_whole_by : FnScope N__law_whole_by ["_law_poly", "_law_x", "_law_m"] (defScope s__law_whole_by) := ⟨rfl, rfl, rfl, by decide +kernel, rfl, by decide +kernel, by decide +kernel⟩
abbrev s__law_drawn : Stmt := topS 60
abbrev N__law_drawn : List Str := ["_law_cell_here", "_law_deep", "_law_named", "_law_found", "_law_places", "_law_place"]
theorem sc__law_drawn : FnScope N__law_drawn ["_law_cell_here"] (defScope s__law_drawn) := ⟨rfl, rfl, rfl, by decide +kernel, rfl, by decide +kernel, by decide +kernel⟩
abbrev s__law_outcome : Stmt := topS 61
abbrev N__law_outcome : List Str := ["_law_poly", "_law_kind", "_law_told", "_law_ring", "_law_e"]
theorem sc__law_outcome : FnScope N__law_outcome ["_law_poly"] (defScope s__law_outcome) := ⟨rfl, rfl, rfl, by decide +kernel, rfl, by decide +kernel, by decide +kernel⟩
abbrev s__law_shown : Stmt := topS 62
abbrev N__law_shown : List Str := ["_law_poly", "_law_told", "_law_p", "_law_x", "_law_q", "_law_place"]
theorem sc__law_shown : FnScope N__law_shown ["_law_poly", "_law_told"] (defScope s__law_shown) := ⟨rfl, rfl, rfl, by decide +kernel, rfl, by decide +kernel, by decide +kernel⟩
abbrev s_law : Stmt := topS 63
abbrev N_law : List Str := ["_law_script", "_law_k", "_law_base", "_law_s", "_law_poly", "_law_amount", "_law_kind", "_law_told", "_law_ring", "_law_due"]
theorem sc_law : FnScope N_law ["_law_script"] (defScope s_law) := ⟨rfl, rfl, rfl, by decide +kernel, rfl, by decide +kernel, by decide +kernel⟩
/-! ### a def of the text, all that a caller needs -/
structure DefAt (K : PySem.W.Frag) (mg : Str → Option Value) (x : Str) (st : Stmt) (ps : List Str) where
  f : Addr
  fd : FuncData
  F : Fun K x x st f fd
  b : Binds K fd ps []
  g : mg x = some (.ref f)
/-! ### xs[i] op= e: the read -/
def rGetL (K : PySem.W.Frag) : V → V → Hp → VK → Prop := fun o i H Q => ∃ (p : Addr) (xs : List V) (j : Nat) (v : V), o = .ref p ∧ i = .int (j : Int) ∧ SqL K H p xs ∧ xs[j]? = some v ∧ Q v H
theorem get_listP {X : Cx} : PGet X (rGetL X.K) := by
  intro pins s σ H o i ov iv Q I ro ri h
  obtain ⟨p, xs, j, v, rfl, rfl, hq, he, q⟩ := h
  cases ro
  obtain ⟨t, rfl⟩ := ri
  obtain ⟨its, r, pl, hz⟩ := I.list hq
  obtain ⟨w, ew, rw'⟩ := r.get he
  have hl := r.length
  have hn := line63
  have hj : j < its.length := (List.getElem?_eq_some_iff.mp ew).1
  have e : ((j : Int)).toNat = j := Int.toNat_natCast j
  have hlt : (j : Int) < 2 ^ 63 := by
    have : (xs.length : Int) < 2 ^ 63 := by omega
    omega
  refine wpAny_getItem_list (x := w) pl.isList (Int.natCast_nonneg j) hlt ?_ ⟨v, H, I, rw', q⟩
  rw [e]
  simpa using ew
/-! ### steps -/
theorem same_new {H : Hp} {p : Addr} {o : HO} (h : H p = none) : Ex H (upd H p o) := Ex.new h
section
variable {K : PySem.W.Frag} {σ : L2.St} {H : Hp} {Q : VK} {ta tb te : TE} {t u : TS} {a c d : L2.St → Hp → Prop} {b : VK} {x y v : V}
theorem w_seq (h : t ⟨u ⟨a, b, c, d⟩, b, c, d⟩ σ H) : tSeq t u ⟨a, b, c, d⟩ σ H := h
theorem w_next (h : a σ H) : tNext ⟨a, b, c, d⟩ σ H := h
theorem w_asg {i : Nat} (h : te σ H fun x H1 => a (σ.set i (some x)) H1) : tAsg te (gName i) ⟨a, b, c, d⟩ σ H := h
theorem w_asgG {g : TG} (h : te σ H fun x H1 => g x σ H1 a) : tAsg te g ⟨a, b, c, d⟩ σ H := h
theorem w_ret (h : te σ H b) : tRet te ⟨a, b, c, d⟩ σ H := h
theorem w_drop (h : te σ H fun _ H1 => a σ H1) : tDrop te ⟨a, b, c, d⟩ σ H := h
theorem w_if {k : TT} (h : k σ H fun z H1 => if z = true then t ⟨a, b, c, d⟩ σ H1 else u ⟨a, b, c, d⟩ σ H1) : tIfS k t u ⟨a, b, c, d⟩ σ H := h
theorem w_par {i j : Nat} {ta : TA} (h : ta σ H fun vs H1 => ∃ v w, vs = [v, w] ∧ a ((σ.set i (some v)).set j (some w)) H1) : tPar i j ta ⟨a, b, c, d⟩ σ H := h
theorem w_aug {i : Nat} {f : Int → Int → Int} {m : Int} (hx : σ[i]? = some (some (.int m))) (h : te σ H fun y H1 => ∃ n, y = .int n ∧ a (σ.set i (some (.int (f m n)))) H1) : tAug i te (ipI f) ⟨a, b, c, d⟩ σ H :=
  ⟨.int m, hx, by
    have e : (fun y H1 => ∃ n, y = V.int n ∧ a (σ.set i (some (.int (f m n)))) H1) = (fun y H1 => ipI f (.int m) y H1 fun z H2 => a (σ.set i (some z)) H2) := by
      funext y H1
      apply propext
      constructor
      · rintro ⟨n, rfl, q⟩
        exact ⟨m, n, rfl, rfl, q⟩
      · rintro ⟨i', j', e1, rfl, q⟩
        cases e1
        exact ⟨j', rfl, q⟩
    rw [e] at h
    exact h⟩
theorem w_var {i : Nat} (h : σ[i]? = some (some v)) (q : Q v H) : tVar i σ H Q := ⟨v, h, q⟩
theorem w_c (q : Q v H) : tC v σ H Q := q
theorem w_op {r : R2} (h : ta σ H fun x H1 => tb σ H1 fun y H2 => r x y H2 Q) : tOp r ta tb σ H Q := h
theorem w_un {r : V → Hp → VK → Prop} (h : ta σ H fun x H1 => r x H1 Q) : tUn r ta σ H Q := h
theorem w_I0 {g : Int → Int → V} {i j : Int} (q : Q (g i j) H) : rI0 g (.int i) (.int j) H Q := ⟨i, j, rfl, rfl, q⟩
theorem w_I {C : Int → Int → Prop} {g : Int → Int → V} {i j : Int} (h : C i j) (q : Q (g i j) H) : rI C g (.int i) (.int j) H Q := ⟨i, j, rfl, rfl, h, q⟩
theorem w_U {g : Int → V} {i : Int} (q : Q (g i) H) : rU g (.int i) H Q := ⟨i, rfl, q⟩
theorem w_eqI {i j : Int} (q : Q (.bl (decide (i = j))) H) : rEq (.int i) (.int j) H Q := by
  refine ⟨rfl, ?_⟩
  have e : decide (V.int i = V.int j) = decide (i = j) := by
    by_cases h : i = j
    · rw [decide_eq_true h, decide_eq_true (congrArg V.int h)]
    · rw [decide_eq_false h, decide_eq_false fun z => h (V.int.inj z)]
  rw [e]
  exact q
theorem w_neI {i j : Int} (q : Q (.bl (!decide (i = j))) H) : rNe (.int i) (.int j) H Q := by
  refine ⟨rfl, ?_⟩
  have e : decide (V.int i = V.int j) = decide (i = j) := by
    by_cases h : i = j
    · rw [decide_eq_true h, decide_eq_true (congrArg V.int h)]
    · rw [decide_eq_false h, decide_eq_false fun z => h (V.int.inj z)]
  rw [e]
  exact q
theorem w_nil {P : List V → Hp → Prop} (q : P [] H) : tNil σ H P := q
theorem w_cons {tr : TA} {P : List V → Hp → Prop} (h : te σ H fun x H1 => tr σ H1 fun xs H2 => P (x :: xs) H2) : tCons te tr σ H P := h
theorem w_cb {r : List V → Hp → VK → Prop} {t : TA} (h : t σ H fun vs H1 => r vs H1 Q) : tCB r t σ H Q := h
theorem w_call {sp : Sp} {t : TA} {E : XK} (h : t σ H fun vs H1 => sp vs H1 Q E) : tCall sp [] E t σ H Q := by
  have e : (fun vs H1 => sp (vs ++ []) H1 Q E) = (fun vs H1 => sp vs H1 Q E) := by
    funext vs H1
    rw [List.append_nil]
  show t σ H fun vs H1 => sp (vs ++ []) H1 Q E
  rw [e]
  exact h
theorem w_test {P : Bool → Hp → Prop} (h : te σ H fun x H1 => ∃ k, x = .bl k ∧ P k H1) : tTest te σ H P := h
theorem w_B {P : Bool → Hp → Prop} (h : te σ H fun x H1 => ∃ k, x = .bl k ∧ P k H1) : tB te σ H P := h
theorem w_exbl {k : Bool} {P : Bool → Prop} (h : P k) : ∃ k', V.bl k = V.bl k' ∧ P k' := ⟨k, rfl, h⟩
theorem w_and {t u : TT} {P : Bool → Hp → Prop} (h : t σ H fun c H1 => if c = true then u σ H1 P else P false H1) : tAnd t u σ H P := h
theorem w_or {t u : TT} {P : Bool → Hp → Prop} (h : t σ H fun c H1 => if c = true then P true H1 else u σ H1 P) : tOr t u σ H P := h
theorem w_not {t : TT} {P : Bool → Hp → Prop} (h : t σ H fun c H1 => P (!c) H1) : tNot t σ H P := h
theorem w_andV (h : ta σ H fun x H1 => ∃ c, x = .bl c ∧ if c = true then tb σ H1 Q else Q (.bl false) H1) : tAndV ta tb σ H Q := h
theorem w_notV (h : ta σ H fun x H1 => ∃ c, x = .bl c ∧ Q (.bl (!c)) H1) : tNotV ta σ H Q := h
theorem w_tup {t : TA} (h : t σ H fun xs H1 => xs.length ≤ sizeLine ∧ ∀ p, H1 p = none → Q (.ref p) (upd H1 p (.tup xs))) : tTup t σ H Q := h
theorem w_lst {t : TA} (h : t σ H fun xs H1 => xs.length ≤ sizeLine ∧ ∀ p, H1 p = none → Q (.ref p) (upd H1 p (.lst xs))) : tLst t σ H Q := h
theorem w_ixT {p : Addr} {i : Int} {xs : List V} (h : SqT K H p xs) (e : atI xs i = some v) (q : Q v H) : rIxT K (.ref p) (.int i) H Q := ⟨p, xs, i, v, rfl, rfl, h, e, q⟩
theorem w_ixL {p : Addr} {i : Int} {xs : List V} (h : SqL K H p xs) (e : atI xs i = some v) (q : Q v H) : rIxL K (.ref p) (.int i) H Q := ⟨p, xs, i, v, rfl, rfl, h, e, q⟩
theorem atI_map {α β : Type} (f : α → β) (xs : List α) (i : Int) : atI (xs.map f) i = (atI xs i).map f := by
  unfold atI
  rw [List.length_map]
  cases ixN xs.length i with
  | none => rfl
  | some j => simp
theorem w_ixTn {p : Addr} {i n : Int} {ns : List Int} (h : SqT K H p (ns.map V.int)) (e : atI ns i = some n) (q : Q (.int n) H) : rIxT K (.ref p) (.int i) H Q :=
  w_ixT h (by rw [atI_map, e] <;> rfl) q
theorem w_ixLn {p : Addr} {i n : Int} {ns : List Int} (h : SqL K H p (ns.map V.int)) (e : atI ns i = some n) (q : Q (.int n) H) : rIxL K (.ref p) (.int i) H Q :=
  w_ixL h (by rw [atI_map, e] <;> rfl) q
theorem atI_of {α : Type} {xs : List α} {i : Int} {v : α} (h0 : 0 ≤ i) (h : xs[i.toNat]? = some v) : atI xs i = some v := by
  have e : i = ((i.toNat : Nat) : Int) := (Int.toNat_of_nonneg h0).symm
  rw [e]
  exact atI_nat h
theorem atI_getD {xs : List Int} {i : Int} {d : Int} (h0 : 0 ≤ i) (h : i < xs.length) : atI xs i = some (xs.getD i.toNat d) := by
  refine atI_of h0 ?_
  have hj : i.toNat < xs.length := by omega
  rw [List.getD_eq_getElem?_getD, List.getElem?_eq_getElem hj]
  rfl
theorem w_sl {r : V → Option Int → Option Int → Hp → VK → Prop} {tl th : TO} (h : te σ H fun x H1 => tl σ H1 fun l H2 => th σ H2 fun u H3 => r x l u H3 Q) : tSl r te tl th σ H Q := h
theorem w_noPart {P : Option Int → Hp → Prop} (q : P none H) : tNoPart σ H P := q
theorem w_part {P : Option Int → Hp → Prop} (h : te σ H fun x H1 => ∃ i, x = .int i ∧ P (some i) H1) : tPart te σ H P := h
theorem w_exint {i : Int} {P : Int → Prop} (h : P i) : ∃ i', V.int i = V.int i' ∧ P i' := ⟨i, rfl, h⟩
theorem w_revL (h : te σ H fun x H1 => ∃ a xs, x = .ref a ∧ SqL K H1 a xs ∧ ∀ p, H1 p = none → Q (.ref p) (upd H1 p (.lst xs.reverse))) : tRevL K te σ H Q := h
theorem w_append {l : Addr} {xs : List V} (h : H l = some (.lst xs)) (hz : xs.length < 100000) (q : Q .non (upd H l (.lst (xs ++ [v])))) : rAppend (.ref l) [v] H Q := ⟨l, xs, v, rfl, rfl, h, Nat.lt_of_lt_of_le hz (by decide), q⟩
theorem w_bm {T : String} {r : V → List V → Hp → VK → Prop} {to : TE} {t : TA} (h : to σ H fun x H1 => tyV K T x H1 ∧ t σ H1 fun xs H2 => r x xs H2 Q) : tBM K T r to t σ H Q := h
theorem w_tyL {l : Addr} {xs : List V} {A : Prop} (h : H l = some (.lst xs)) (q : A) : tyV K "list" (.ref l) H ∧ A := ⟨.inl ⟨rfl, xs, .inl (.inl h)⟩, q⟩
theorem w_augS {to ti te : TE} {tget : V → V → Hp → VK → Prop} {tip : TIp} {tset : TSet} (h : to σ H fun o H1 => ti σ H1 fun i H2 => tget o i H2 fun x H3 => te σ H3 fun y H4 => tip x y H4 fun z H5 => tset o i z H5 fun H6 => a σ H6) : tAugS to ti te tget tip tset ⟨a, b, c, d⟩ σ H := h
theorem w_getL {p : Addr} {xs : List V} {j : Nat} (h : SqL K H p xs) (e : xs[j]? = some v) (q : Q v H) : rGetL K (.ref p) (.int (j : Int)) H Q := ⟨p, xs, j, v, rfl, rfl, h, e, q⟩
theorem w_ip {f : Int → Int → Int} {i j : Int} (q : Q (.int (f i j)) H) : ipI f (.int i) (.int j) H Q := ⟨i, j, rfl, rfl, q⟩
theorem w_setL {p : Addr} {xs : List V} {j : Nat} {P : Hp → Prop} (h : H p = some (.lst xs)) (hj : j < xs.length) (q : P (upd H p (.lst (xs.set j v)))) : rSetL (.ref p) (.int (j : Int)) v H P := ⟨p, xs, (j : Int), j, rfl, rfl, h, ixN_nat hj, q⟩
theorem w_gSub {to ti : TE} {ts : TSet} {P : L2.St → Hp → Prop} (h : to σ H fun o H1 => ti σ H1 fun i H2 => ts o i v H2 fun H3 => P σ H3) : gSub to ti ts v σ H P := h
theorem w_gName {i : Nat} {P : L2.St → Hp → Prop} (h : P (σ.set i (some v)) H) : gName i v σ H P := h
theorem w_gTup {n : Nat} {t : TGs} {p : Addr} {xs : List V} {P : L2.St → Hp → Prop} (h : SqT K H p xs) (hn : xs.length = n) (q : t xs σ H P) : gTup K n t (.ref p) σ H P := ⟨p, xs, rfl, h, hn, q⟩
theorem w_gCons {t : TG} {u : TGs} {xs : List V} {P : L2.St → Hp → Prop} (q : t v σ H fun σ' H' => u xs σ' H' P) : gCons t u (v :: xs) σ H P := ⟨v, xs, rfl, q⟩
theorem w_gNil {P : L2.St → Hp → Prop} (q : P σ H) : gNil [] σ H P := ⟨rfl, q⟩
theorem w_chain {r r' : R2} {tc : TE} (h : ta σ H fun x H1 => tb σ H1 fun y H2 => r x y H2 fun z H3 => ∃ k, z = .bl k ∧ (if k = true then tc σ H3 fun w' H4 => r' y w' H4 Q else Q (.bl false) H3)) : tChain r r' ta tb tc σ H Q := h
theorem w_CMul1 {i j : Int} (h1 : -(2 ^ 64) < i) (h2 : i < 2 ^ 64) : CMul i j := .inl ⟨h1, h2⟩
theorem w_CMul2 {i j : Int} (h1 : -(2 ^ 64) < j) (h2 : j < 2 ^ 64) : CMul i j := .inr ⟨h1, h2⟩
theorem cutV_to (xs : List V) {m : Nat} (h : m ≤ xs.length) : cutV xs none (some (m : Int)) = xs.take m := by
  unfold cutV
  rw [HT.sIx_none, HT.sIx_nat, Nat.min_eq_left h]
  rfl
theorem cutV_from (xs : List V) {m : Nat} (h : m ≤ xs.length) : cutV xs (some (m : Int)) none = xs.drop m := by
  unfold cutV
  rw [HT.sIx_none, HT.sIx_nat, Nat.min_eq_left h]
  rw [show xs.length - m = (xs.drop m).length from List.length_drop.symm, List.take_length]
/-! ### loops -/
theorem w_ite {p A B : Prop} [Decidable p] (h1 : p → A) (h2 : ¬ p → B) : if decide p = true then A else B := by
  by_cases h : p
  · rw [if_pos (decide_eq_true h)]
    exact h1 h
  · rw [if_neg (by rw [decide_eq_false h]; exact Bool.false_ne_true)]
    exact h2 h
theorem w_iteN {p A B : Prop} [Decidable p] (h1 : ¬ p → A) (h2 : p → B) : if (!decide p) = true then A else B := by
  by_cases h : p
  · rw [if_neg (by rw [decide_eq_true h]; exact Bool.false_ne_true)]
    exact h2 h
  · rw [if_pos (by rw [decide_eq_false h] <;> rfl)]
    exact h1 h
theorem w_iteB {k : Bool} {A B : Prop} (h1 : k = true → A) (h2 : k = false → B) : if k = true then A else B := by
  cases k with
  | true => exact if_pos rfl ▸ h1 rfl
  | false => exact if_neg Bool.false_ne_true ▸ h2 rfl
/-- a while: W the word with its measure -/
theorem w_while {k : TT} (W : Nat → L2.St → Hp → Prop) (m0 : Nat) (h0 : W m0 σ H)
    (hs : ∀ m σ' H', W m σ' H' → k σ' H' fun z H1 => if z = true then ∃ N : L2.St → Hp → Prop, (∀ σ2 H2, N σ2 H2 → ∃ m', m' < m ∧ W m' σ2 H2) ∧ t ⟨N, b, a, N⟩ σ' H1 else a σ' H1) : tWhile k t ⟨a, b, c, d⟩ σ H :=
  ⟨W, ⟨m0, h0⟩, hs⟩
theorem w_body {W : Nat → L2.St → Hp → Prop} {m : Nat} (h : t ⟨fun σ2 H2 => ∃ m', m' < m ∧ W m' σ2 H2, b, a, fun σ2 H2 => ∃ m', m' < m ∧ W m' σ2 H2⟩ σ H) :
    ∃ N : L2.St → Hp → Prop, (∀ σ2 H2, N σ2 H2 → ∃ m', m' < m ∧ W m' σ2 H2) ∧ t ⟨N, b, a, N⟩ σ H := ⟨_, fun _ _ q => q, h⟩
/-- what a for asks of the thing that is walked -/
def forR (g : TG) (tb : TS) (D : Ends) (σ : L2.St) : It → Hp → Prop := fun J H1 => ∃ W : Nat → Nat → L2.St → Hp → Prop, (∃ m, W 0 m σ H1) ∧ ∀ i m σ H, W i m σ H →
  (J.stop i H ∧ D.nx σ H) ∨ (J.go i H ∧ ∃ N : L2.St → Hp → Prop, (∀ σ' H', N σ' H' → ∃ m', m' < m ∧ W (i + 1) m' σ' H') ∧ ∀ x H', J.yld i H x H' → g x σ H' fun σ2 H2 => tb { D with nx := N, ct := N, bk := D.nx } σ2 H2)
theorem w_for {wi : TI} {g : TG} {D : Ends} (h : wi σ H (forR g t D σ)) : tFor wi g t D σ H := h
theorem w_rng1 {ta : TA} {R : It → Hp → Prop} (h : ta σ H fun vs H1 => ∃ j : Int, vs = [.int j] ∧ -(2 ^ 62) ≤ j ∧ j < 2 ^ 62 ∧ R (Itr 0 j.toNat) H1) : iRng1 ta σ H R := h
theorem w_rng2 {ta : TA} {R : It → Hp → Prop} (h : ta σ H fun vs H1 => ∃ i j : Int, vs = [.int i, .int j] ∧ (-(2 ^ 62) ≤ i ∧ i < 2 ^ 62 ∧ -(2 ^ 62) ≤ j ∧ j < 2 ^ 62) ∧ R (Itr i (j - i).toNat) H1) : iRng2 ta σ H R := h
theorem w_rng3 {ta : TA} {R : It → Hp → Prop} (h : ta σ H fun vs H1 => ∃ (i j c : Int) (n : Nat), vs = [.int i, .int j, .int c] ∧ RgC i j c n ∧ R (Itc i c n) H1) : iRng3 ta σ H R := h
theorem w_iList {R : It → Hp → Prop} (h : te σ H fun x H1 => ∃ p, x = .ref p ∧ (∃ xs, SqL K H1 p xs) ∧ R (Itl K p) H1) : iList K te σ H R := h
theorem w_iTup {R : It → Hp → Prop} (h : te σ H fun x H1 => ∃ p, x = .ref p ∧ (∃ xs, SqT K H1 p xs) ∧ R (Itt K p) H1) : iTup K te σ H R := h
theorem w_iRevA {R : It → Hp → Prop} (h : te σ H fun v H1 => ∃ (p : Addr) (xs : List V), v = .ref p ∧ ((SqL K H1 p xs ∧ R (Itv K p xs.length) H1) ∨ (SqT K H1 p xs ∧ R (RT.ItvT K p xs.length) H1))) : RT.iRevA K te σ H R := h
theorem f_r1 {n : Int} {j : Nat} (hn : 0 ≤ n) (hn2 : n < 2 ^ 40) (Pv : Nat → L2.St → Hp → Prop) (h0 : Pv 0 σ H)
    (hs : ∀ (i : Nat) σ' H', (i : Int) < n → Pv i σ' H' → t ⟨Pv (i + 1), b, a, Pv (i + 1)⟩ (σ'.set j (some (.int (i : Int)))) H') (hd : ∀ σ' H', Pv n.toNat σ' H' → a σ' H') :
    ∃ j' : Int, [V.int n] = [V.int j'] ∧ -(2 ^ 62) ≤ j' ∧ j' < 2 ^ 62 ∧ forR (gName j) t ⟨a, b, c, d⟩ σ (Itr 0 j'.toNat) H :=
  ⟨n, rfl, by omega, by omega, for_range (D := ⟨a, b, c, d⟩) (lo := 0) (n := n.toNat) Pv h0 (fun i σ' H' hi p => by
    have e0 : (0 : Int) + (i : Int) = (i : Int) := Int.zero_add _
    show t _ (σ'.set j (some (.int ((0 : Int) + (i : Int))))) H'
    rw [e0]
    exact hs i σ' H' (by omega) p) hd⟩
theorem f_r2 {lo n : Int} {j : Nat} (h1 : -(2 ^ 40) ≤ lo) (h2 : lo < 2 ^ 40) (h3 : -(2 ^ 40) ≤ n) (h4 : n < 2 ^ 40) (Pv : Nat → L2.St → Hp → Prop) (h0 : Pv 0 σ H)
    (hs : ∀ (i : Nat) σ' H', lo + (i : Int) < n → Pv i σ' H' → t ⟨Pv (i + 1), b, a, Pv (i + 1)⟩ (σ'.set j (some (.int (lo + (i : Int))))) H') (hd : ∀ σ' H', Pv (n - lo).toNat σ' H' → a σ' H') :
    ∃ i' j' : Int, [V.int lo, V.int n] = [V.int i', V.int j'] ∧ (-(2 ^ 62) ≤ i' ∧ i' < 2 ^ 62 ∧ -(2 ^ 62) ≤ j' ∧ j' < 2 ^ 62) ∧ forR (gName j) t ⟨a, b, c, d⟩ σ (Itr i' (j' - i').toNat) H :=
  ⟨lo, n, rfl, ⟨by omega, by omega, by omega, by omega⟩, for_range (D := ⟨a, b, c, d⟩) (lo := lo) (n := (n - lo).toNat) Pv h0 (fun i σ' H' hi p => hs i σ' H' (by omega) p) hd⟩
/-- range(lo, n, -1) -/
theorem f_r3 {lo n : Int} {j : Nat} (h1 : -(2 ^ 40) ≤ lo) (h2 : lo < 2 ^ 40) (h3 : -(2 ^ 40) ≤ n) (h4 : n < 2 ^ 40) (Pv : Nat → L2.St → Hp → Prop) (h0 : Pv 0 σ H)
    (hs : ∀ (i : Nat) σ' H', n < lo - (i : Int) → Pv i σ' H' → t ⟨Pv (i + 1), b, a, Pv (i + 1)⟩ (σ'.set j (some (.int (lo - (i : Int))))) H') (hd : ∀ σ' H', Pv (lo - n).toNat σ' H' → a σ' H') :
    ∃ (i' j' c' : Int) (n' : Nat), [V.int lo, V.int n, V.int (-1)] = [V.int i', V.int j', V.int c'] ∧ RgC i' j' c' n' ∧ forR (gName j) t ⟨a, b, c, d⟩ σ (Itc i' c' n') H :=
  ⟨lo, n, -1, (lo - n).toNat, rfl, RgC.neg (by omega) (by omega) (by omega) (by omega), for_rangeC (D := ⟨a, b, c, d⟩) (lo := lo) (n := (lo - n).toNat) Pv h0 (fun i σ' H' hi p => by
    have e0 : lo + ((i : Nat) : Int) * (-1) = lo - (i : Int) := by omega
    show t _ (σ'.set j (some (.int (lo + ((i : Nat) : Int) * (-1))))) H'
    rw [e0]
    exact hs i σ' H' (by omega) p) hd⟩
theorem f_list {p : Addr} {xs : List V} {g : TG} (hx : SqL K H p xs) (Pv : Nat → L2.St → Hp → Prop) (h0 : Pv 0 σ H) (hl : ∀ i σ' H', Pv i σ' H' → SqL K H' p xs)
    (hs : ∀ i y σ' H', xs[i]? = some y → Pv i σ' H' → g y σ' H' fun σ2 H2 => t ⟨Pv (i + 1), b, a, Pv (i + 1)⟩ σ2 H2) (hd : ∀ σ' H', Pv xs.length σ' H' → a σ' H') :
    ∃ p', V.ref p = V.ref p' ∧ (∃ xs, SqL K H p' xs) ∧ forR g t ⟨a, b, c, d⟩ σ (Itl K p') H :=
  ⟨p, rfl, ⟨xs, hx⟩, for_list (D := ⟨a, b, c, d⟩) (xs := xs) Pv h0 (fun i σ' H' _ q => hl i σ' H' q) hs hd⟩
theorem f_tup {p : Addr} {xs : List V} {g : TG} (hx : SqT K H p xs) (Pv : Nat → L2.St → Hp → Prop) (h0 : Pv 0 σ H) (hl : ∀ i σ' H', Pv i σ' H' → SqT K H' p xs)
    (hs : ∀ i y σ' H', xs[i]? = some y → Pv i σ' H' → g y σ' H' fun σ2 H2 => t ⟨Pv (i + 1), b, a, Pv (i + 1)⟩ σ2 H2) (hd : ∀ σ' H', Pv xs.length σ' H' → a σ' H') :
    ∃ p', V.ref p = V.ref p' ∧ (∃ xs, SqT K H p' xs) ∧ forR g t ⟨a, b, c, d⟩ σ (Itt K p') H :=
  ⟨p, rfl, ⟨xs, hx⟩, for_tup (D := ⟨a, b, c, d⟩) (xs := xs) Pv h0 (fun i σ' H' _ q => hl i σ' H' q) hs hd⟩
/-- over reversed(a tuple) -/
theorem f_revT {p : Addr} {xs : List V} {g : TG} (hx : SqT K H p xs) (Pv : Nat → L2.St → Hp → Prop) (h0 : Pv 0 σ H) (hl : ∀ i σ' H', Pv i σ' H' → SqT K H' p xs)
    (hs : ∀ (i : Nat) y σ' H', i < xs.length → xs[xs.length - 1 - i]? = some y → Pv i σ' H' → g y σ' H' fun σ2 H2 => t ⟨Pv (i + 1), b, a, Pv (i + 1)⟩ σ2 H2) (hd : ∀ σ' H', Pv xs.length σ' H' → a σ' H') :
    ∃ (p' : Addr) (xs' : List V), V.ref p = .ref p' ∧ ((SqL K H p' xs' ∧ forR g t ⟨a, b, c, d⟩ σ (Itv K p' xs'.length) H) ∨ (SqT K H p' xs' ∧ forR g t ⟨a, b, c, d⟩ σ (RT.ItvT K p' xs'.length) H)) :=
  ⟨p, xs, rfl, .inr ⟨hx, RT.for_ItvT (D := ⟨a, b, c, d⟩) Pv h0 hl hs hd⟩⟩
/-! ### comprehensions -/
def lcR (g : TG) (tt : TT) (te : TE) (vs : List Nat) (σ : L2.St) (Q : VK) : It → Hp → Prop := fun J H1 => tLc (fun _ h R => R J h) g tt te vs σ H1 Q
theorem w_lc {wi : TI} {g : TG} {tt : TT} {vs : List Nat} (h : wi σ H (lcR g tt te vs σ Q)) : tLc wi g tt te vs σ H Q := h
/-- what an expression gives at every later heap -/
def Gives (te : TE) (σ : L2.St) (H : Hp) (v : V) : Prop := ∀ H1, Ex H H1 → ∀ Q : VK, (∀ H2, Ex H1 H2 → Q v H2) → te σ H1 Q
def GivesB (tt : TT) (σ : L2.St) (H : Hp) (v : Bool) : Prop := ∀ H1, Ex H H1 → ∀ Q : Bool → Hp → Prop, (∀ H2, Ex H1 H2 → Q v H2) → tt σ H1 Q
theorem gives_yes : GivesB tYes σ H true := fun H1 _ Q q => q H1 (Ex.refl H1)
theorem ex_at {H H' : Hp} {p : Addr} {o : HO} (e : Ex H H') (h : H p = some o) : H' p = some o := e p o h
/-- one turn of a comprehension whose items are known ahead -/
theorem lc_turn {tt : TT} {vs : List Nat} {σ2 : L2.St} {D : Addr} {H1 H' : Hp} {acc : List V} {kv : Bool} {yv : V} {Nx : Hp → Prop} (hD : H1 D = none) (e : Ex H1 H') (hacc : H' D = some (.lst acc)) (hz : acc.length < 100000) (hw : wipe σ2 vs = wipe σ vs)
    (ht : GivesB tt σ2 H1 kv) (he : kv = true → Gives te σ2 H1 yv) (hN : ∀ H3, Ex H1 H3 → H3 D = some (.lst (if kv = true then acc ++ [yv] else acc)) → Nx H3) :
    wipe σ2 vs = wipe σ vs ∧ tt σ2 H' fun b H3 => if b = true then te σ2 H3 fun y H4 => ∃ acc, H4 D = some (.lst acc) ∧ acc.length < sizeLine ∧ Nx (upd H4 D (.lst (acc ++ [y]))) else Nx H3 := by
  refine ⟨hw, ht H' e _ fun H3 e3 => ?_⟩
  cases kv with
  | true =>
    rw [if_pos rfl]
    refine he rfl H3 (e.trans e3) _ fun H4 e4 => ⟨acc, e4 D _ (e3 D _ hacc), Nat.lt_of_lt_of_le hz (by decide), hN _ (Ex.mut ((e.trans e3).trans e4) hD) ?_⟩
    rw [if_pos rfl]
    exact upd_same
  | false =>
    rw [if_neg Bool.false_ne_true]
    refine hN _ (e.trans e3) ?_
    rw [if_neg Bool.false_ne_true]
    exact e3 D _ hacc
/-- the items of a comprehension so far -/
def lcAcc {α : Type} (B : α → Bool) (F : α → V) (l : List α) : List V := (l.filter B).map F
theorem lcAcc_snoc {α : Type} {B : α → Bool} {F : α → V} {l : List α} {z : α} : lcAcc B F (l ++ [z]) = if B z = true then lcAcc B F l ++ [F z] else lcAcc B F l := by
  unfold lcAcc
  rw [List.filter_append, List.map_append]
  by_cases h : B z = true
  · rw [if_pos h]
    simp [h]
  · rw [if_neg h]
    simp [h]
theorem lcAcc_len {α : Type} {B : α → Bool} {F : α → V} {l : List α} : (lcAcc B F l).length ≤ l.length := by
  unfold lcAcc
  rw [List.length_map]
  exact List.length_filter_le _ _
theorem take_snoc {α : Type} {l : List α} {i : Nat} {z : α} (h : l[i]? = some z) : l.take (i + 1) = l.take i ++ [z] := by
  rw [List.take_add_one, h]
  rfl
/-- over a list (tuple) of α's, each told as G z -/
theorem c_list {α : Type} {p : Addr} {zs : List α} {G : α → V} {j : Nat} {tt : TT} {vs : List Nat} (B : α → Bool) (F : α → V) (hx : SqL K H p (zs.map G)) (hz : zs.length ≤ 50000) (hw : ∀ y, wipe ((wipe σ vs).set j (some y)) vs = wipe σ vs)
    (ht : ∀ z, z ∈ zs → GivesB tt ((wipe σ vs).set j (some (G z))) H (B z)) (he : ∀ z, z ∈ zs → B z = true → Gives te ((wipe σ vs).set j (some (G z))) H (F z))
    (hd : ∀ D H', H D = none → Ex H H' → H' D = some (.lst (lcAcc B F zs)) → Q (.ref D) H') :
    ∃ p', V.ref p = V.ref p' ∧ (∃ xs, SqL K H p' xs) ∧ lcR (gName j) tt te vs σ Q (Itl K p') H := by
  refine ⟨p, rfl, ⟨_, hx⟩, fun D hD => lc_list (xs := zs.map G) (fun i H' => Ex H H' ∧ H' D = some (.lst (lcAcc B F (zs.take i)))) ⟨Ex.new hD, upd_same⟩ (fun i H' _ q => ex_l q.1 hx) (fun i y H' hi q => ?_) (fun H' q => ?_)⟩
  · rw [List.getElem?_map] at hi
    cases hz' : zs[i]? with
    | none => rw [hz'] at hi; cases hi
    | some z =>
      rw [hz'] at hi
      cases hi
      have hm : z ∈ zs := List.mem_of_getElem? hz'
      refine lc_turn hD q.1 q.2 ?_ (hw _) (ht z hm) (he z hm) fun H3 e3 h3 => ⟨e3, ?_⟩
      · refine Nat.lt_of_le_of_lt lcAcc_len ?_
        rw [List.length_take]
        omega
      · rw [take_snoc hz', lcAcc_snoc]
        exact h3
  · have e : (zs.map G).length = zs.length := List.length_map ..
    rw [e] at q
    refine hd D H' hD q.1 ?_
    have q2 := q.2
    rw [List.take_length] at q2
    exact q2
theorem c_tup {α : Type} {p : Addr} {zs : List α} {G : α → V} {j : Nat} {tt : TT} {vs : List Nat} (B : α → Bool) (F : α → V) (hx : SqT K H p (zs.map G)) (hz : zs.length ≤ 50000) (hw : ∀ y, wipe ((wipe σ vs).set j (some y)) vs = wipe σ vs)
    (ht : ∀ z, z ∈ zs → GivesB tt ((wipe σ vs).set j (some (G z))) H (B z)) (he : ∀ z, z ∈ zs → B z = true → Gives te ((wipe σ vs).set j (some (G z))) H (F z))
    (hd : ∀ D H', H D = none → Ex H H' → H' D = some (.lst (lcAcc B F zs)) → Q (.ref D) H') :
    ∃ p', V.ref p = V.ref p' ∧ (∃ xs, SqT K H p' xs) ∧ lcR (gName j) tt te vs σ Q (Itt K p') H := by
  refine ⟨p, rfl, ⟨_, hx⟩, fun D hD => lc_tup (xs := zs.map G) (fun i H' => Ex H H' ∧ H' D = some (.lst (lcAcc B F (zs.take i)))) ⟨Ex.new hD, upd_same⟩ (fun i H' _ q => ex_t q.1 hx) (fun i y H' hi q => ?_) (fun H' q => ?_)⟩
  · rw [List.getElem?_map] at hi
    cases hz' : zs[i]? with
    | none => rw [hz'] at hi; cases hi
    | some z =>
      rw [hz'] at hi
      cases hi
      have hm : z ∈ zs := List.mem_of_getElem? hz'
      refine lc_turn hD q.1 q.2 ?_ (hw _) (ht z hm) (he z hm) fun H3 e3 h3 => ⟨e3, ?_⟩
      · refine Nat.lt_of_le_of_lt lcAcc_len ?_
        rw [List.length_take]
        omega
      · rw [take_snoc hz', lcAcc_snoc]
        exact h3
  · have e : (zs.map G).length = zs.length := List.length_map ..
    rw [e] at q
    refine hd D H' hD q.1 ?_
    have q2 := q.2
    rw [List.take_length] at q2
    exact q2
/-- over a range from lo, n turns -/
theorem c_rng {lo : Int} {n : Nat} {j : Nat} {tt : TT} {vs : List Nat} (B : Int → Bool) (F : Int → V) (hz : n ≤ 50000) (hw : ∀ y, wipe ((wipe σ vs).set j (some y)) vs = wipe σ vs)
    (ht : ∀ i : Nat, i < n → GivesB tt ((wipe σ vs).set j (some (.int (lo + (i : Int))))) H (B (lo + (i : Int)))) (he : ∀ i : Nat, i < n → B (lo + (i : Int)) = true → Gives te ((wipe σ vs).set j (some (.int (lo + (i : Int))))) H (F (lo + (i : Int))))
    (hd : ∀ D H', H D = none → Ex H H' → H' D = some (.lst (lcAcc B F ((List.range n).map fun i : Nat => lo + (i : Int)))) → Q (.ref D) H') :
    lcR (gName j) tt te vs σ Q (Itr lo n) H := by
  intro D hD
  refine lc_range (lo := lo) (n := n) (fun i H' => Ex H H' ∧ H' D = some (.lst (lcAcc B F ((List.range i).map fun i : Nat => lo + (i : Int))))) ⟨Ex.new hD, upd_same⟩ (fun i H' hi q => ?_) (fun H' q => hd D H' hD q.1 q.2)
  refine lc_turn hD q.1 q.2 ?_ (hw _) (ht i hi) (he i hi) fun H3 e3 h3 => ⟨e3, ?_⟩
  · refine Nat.lt_of_le_of_lt lcAcc_len ?_
    rw [List.length_map, List.length_range]
    omega
  · rw [List.range_succ, List.map_append, List.map_singleton, lcAcc_snoc]
    exact h3
theorem c_r1 {n : Int} {j : Nat} {tt : TT} {vs : List Nat} (h0 : 0 ≤ n) (h1 : n ≤ 50000) (h : lcR (gName j) tt te vs σ Q (Itr 0 n.toNat) H) : ∃ j' : Int, [V.int n] = [V.int j'] ∧ -(2 ^ 62) ≤ j' ∧ j' < 2 ^ 62 ∧ lcR (gName j) tt te vs σ Q (Itr 0 j'.toNat) H :=
  ⟨n, rfl, by omega, by omega, h⟩
theorem c_r2 {lo n : Int} {j : Nat} {tt : TT} {vs : List Nat} (h0 : -50000 ≤ lo ∧ lo ≤ 50000) (h1 : -50000 ≤ n ∧ n ≤ 50000) (h : lcR (gName j) tt te vs σ Q (Itr lo (n - lo).toNat) H) :
    ∃ i' j' : Int, [V.int lo, V.int n] = [V.int i', V.int j'] ∧ (-(2 ^ 62) ≤ i' ∧ i' < 2 ^ 62 ∧ -(2 ^ 62) ≤ j' ∧ j' < 2 ^ 62) ∧ lcR (gName j) tt te vs σ Q (Itr i' (j' - i').toNat) H :=
  ⟨lo, n, rfl, ⟨by omega, by omega, by omega, by omega⟩, h⟩
end
/-! ### kinds of values -/
def IsT (K : PySem.W.Frag) (H : Hp) (v : V) (ns : List Int) : Prop := ∃ p, v = .ref p ∧ SqT K H p (ns.map V.int)
def IsL (K : PySem.W.Frag) (H : Hp) (v : V) (ns : List Int) : Prop := ∃ p, v = .ref p ∧ SqL K H p (ns.map V.int)
theorem IsT.ex {K : PySem.W.Frag} {H H' : Hp} {v : V} {ns : List Int} (h : IsT K H v ns) (e : Ex H H') : IsT K H' v ns := let ⟨p, q, s⟩ := h; ⟨p, q, ex_t e s⟩
theorem IsL.ex {K : PySem.W.Frag} {H H' : Hp} {v : V} {ns : List Int} (h : IsL K H v ns) (e : Ex H H') : IsL K H' v ns := let ⟨p, q, s⟩ := h; ⟨p, q, ex_l e s⟩
/-- what a promise gives back -/
def Ret (H : Hp) (Q : VK) (R : Hp → V → Prop) : Prop := ∀ v H', Ex H H' → R H' v → Q v H'
/-- the small primes -/
def primes : List Int := [2, 3, 5, 7, 11, 13, 17, 19, 23, 29, 31, 37, 41, 43, 47, 53, 59, 61, 67, 71, 73, 79, 83, 89, 97, 101, 103, 107, 109, 113, 127, 131, 137, 139, 149, 151, 157, 163, 167, 173, 179, 181, 191, 193, 197, 199]
/-- what the top has written, for the defs -/
structure Txt (K : PySem.W.Frag) (mg : Str → Option Value) where
  cut : DefAt K mg "cut" s_cut ["row"]
  poly_parted : DefAt K mg "poly_parted" s_poly_parted ["f", "g"]
  poly_at : DefAt K mg "poly_at" s_poly_at ["f", "x"]
  root : DefAt K mg "root" s_root ["m"]
  small_primes : DefAt K mg "small_primes" s_small_primes []
  turned : DefAt K mg "turned" s_turned ["a", "p"]
  check_poly : DefAt K mg "check_poly" s_check_poly ["poly"]
  whole_root : DefAt K mg "whole_root" s_whole_root ["poly"]
  pair_by : DefAt K mg "pair_by" s_pair_by ["poly", "b"]
  apart : DefAt K mg "apart" s_apart ["poly"]
  det : DefAt K mg "det" s_det ["table"]
  power_sums : DefAt K mg "power_sums" s_power_sums ["poly", "many"]
  measure : DefAt K mg "measure" s_measure ["poly"]
  mod_poly : DefAt K mg "mod_poly" s_mod_poly ["row", "p"]
  mod_parted : DefAt K mg "mod_parted" s_mod_parted ["a", "b", "p"]
  mod_at : DefAt K mg "mod_at" s_mod_at ["f", "x", "p"]
  pair_of : DefAt K mg "pair_of" s_pair_of ["left", "p"]
  rootless : DefAt K mg "rootless" s_rootless ["left", "p"]
  split_by : DefAt K mg "split_by" s_split_by ["poly", "p"]
  square_primes : DefAt K mg "square_primes" s_square_primes ["size"]
  parts_of : DefAt K mg "parts_of" s_parts_of ["poly", "p"]
  divides_all : DefAt K mg "divides_all" s_divides_all ["m", "row"]
  outside : DefAt K mg "outside" s_outside ["poly", "size"]
  _law_cell : DefAt K mg "_law_cell" s__law_cell ["_law_script", "_law_k"]
  _law_mixed : DefAt K mg "_law_mixed" s__law_mixed ["_law_cell_here", "_law_k", "_law_prime"]
  _law_draws : DefAt K mg "_law_draws" s__law_draws ["_law_cell_here", "_law_widths", "_law_prime"]
  _law_shifted : DefAt K mg "_law_shifted" s__law_shifted ["_law_poly", "_law_s"]
  _law_value : DefAt K mg "_law_value" s__law_value ["_law_poly", "_law_r"]
  _law_whole : DefAt K mg "_law_whole" s__law_whole ["_law_found"]
  _law_row : DefAt K mg "_law_row" s__law_row ["_law_found", "_law_many"]
  _law_times : DefAt K mg "_law_times" s__law_times ["_law_poly", "_law_x", "_law_y"]
  _law_table : DefAt K mg "_law_table" s__law_table ["_law_poly", "_law_x"]
  _law_det : DefAt K mg "_law_det" s__law_det ["_law_rows"]
  _law_falls : DefAt K mg "_law_falls" s__law_falls ["_law_poly"]
  _law_closed : DefAt K mg "_law_closed" s__law_closed ["_law_poly"]
  _law_square_lacks : DefAt K mg "_law_square_lacks" s__law_square_lacks ["_law_poly", "_law_p"]
  _law_lacks : DefAt K mg "_law_lacks" s__law_lacks ["_law_poly", "_law_amount"]
  _law_own : DefAt K mg "_law_own" s__law_own ["_law_poly", "_law_x"]
  _law_whole_by : DefAt K mg "_law_whole_by" s__law_whole_by ["_law_poly", "_law_x", "_law_m"]
  _law_drawn : DefAt K mg "_law_drawn" s__law_drawn ["_law_cell_here"]
  _law_outcome : DefAt K mg "_law_outcome" s__law_outcome ["_law_poly"]
  _law_shown : DefAt K mg "_law_shown" s__law_shown ["_law_poly", "_law_told"]
  law : DefAt K mg "law" s_law ["_law_script"]
  n_abs : mg "abs" = none
  n_all : mg "all" = none
  n_any : mg "any" = none
  n_bool : mg "bool" = none
  n_int : mg "int" = none
  n_isinstance : mg "isinstance" = none
  n_len : mg "len" = none
  n_list : mg "list" = none
  n_max : mg "max" = none
  n_min : mg "min" = none
  n_range : mg "range" = none
  n_reversed : mg "reversed" = none
  n_sorted : mg "sorted" = none
  n_tuple : mg "tuple" = none
  g_LARGEST : ∃ t, mg "LARGEST" = some (.int 499 t)
  g_GREATEST : ∃ t, mg "GREATEST" = some (.int 39999 t)
  a_PRIMES : Addr
  g_PRIMES : mg "PRIMES" = some (.ref a_PRIMES)
  t_PRIMES : ∀ H, SqT K H a_PRIMES (primes.map V.int)
end RH

set_option Elab.async false
set_option linter.all false
set_option maxRecDepth 100000
set_option maxHeartbeats 4000000
namespace RH
open PySem PySem.Spec PyProof.Rows L2 Evl
section
local macro_rules | `(tactic| walk_at "rs") => `(tactic| first
  | with_reducible refine w_seq ?_
  | with_reducible refine w_asg ?_
  | ((with_reducible refine' w_var ?h ?_); (case h => exact rfl))
  | with_reducible refine w_c ?_
  | with_reducible refine w_op ?_
  | with_reducible refine w_I0 ?_
  | with_reducible refine w_cb ?_
  | with_reducible refine w_cons ?_
  | with_reducible refine w_nil ?_
  | with_reducible refine w_ret ?_
  | with_reducible refine w_call ?_
  | with_reducible refine w_if ?_
  | with_reducible refine w_test ?_
  | with_reducible refine w_exbl ?_
  | with_reducible refine w_eqI ?_
  | with_reducible refine w_neI ?_
  | with_reducible refine w_next ?_
  | with_reducible refine w_un ?_
  | with_reducible refine w_U ?_
  | with_reducible refine w_B ?_
  | with_reducible refine w_and ?_
  | with_reducible refine w_or ?_
  | with_reducible refine w_not ?_
  | with_reducible refine w_andV ?_
  | with_reducible refine w_notV ?_
  | with_reducible refine w_tup ?_
  | with_reducible refine w_lst ?_
  | with_reducible refine w_for ?_
  | with_reducible refine w_rng1 ?_
  | with_reducible refine w_rng2 ?_
  | with_reducible refine w_rng3 ?_
  | with_reducible refine w_iList ?_
  | with_reducible refine w_iTup ?_
  | with_reducible refine w_iRevA ?_
  | with_reducible refine w_lc ?_
  | with_reducible refine w_drop ?_
  | with_reducible refine w_par ?_
  | ((with_reducible refine' w_aug ?h ?_); (case h => exact rfl))
  | with_reducible refine w_sl ?_
  | with_reducible refine w_noPart ?_
  | with_reducible refine w_part ?_
  | with_reducible refine w_exint ?_
  | with_reducible refine w_revL ?_
  | with_reducible refine w_bm ?_
  | with_reducible refine w_augS ?_
  | with_reducible refine w_ip ?_
  | with_reducible refine w_gSub ?_
  | with_reducible refine w_gName ?_
  | with_reducible refine w_gCons ?_
  | with_reducible refine w_gNil ?_
  | with_reducible refine w_chain ?_
  | with_reducible refine w_asgG ?_)
local macro_rules | `(tactic| walk_at "rr") => `(tactic| repeat walk_at "rs")
local macro_rules | `(tactic| walk_at "rn1") => `(tactic| first
  | with_reducible refine w_seq ?_
  | with_reducible refine w_asg ?_
  | ((with_reducible refine' w_var ?h ?_); (case h => exact rfl))
  | with_reducible refine w_c ?_
  | with_reducible refine w_op ?_
  | with_reducible refine w_I0 ?_
  | with_reducible refine w_cb ?_
  | with_reducible refine w_cons ?_
  | with_reducible refine w_nil ?_
  | with_reducible refine w_ret ?_
  | with_reducible refine w_call ?_
  | with_reducible refine w_if ?_
  | with_reducible refine w_test ?_
  | with_reducible refine w_exbl ?_
  | with_reducible refine w_eqI ?_
  | with_reducible refine w_neI ?_
  | with_reducible refine w_next ?_
  | with_reducible refine w_un ?_
  | with_reducible refine w_U ?_
  | with_reducible refine w_B ?_
  | with_reducible refine w_and ?_
  | with_reducible refine w_or ?_
  | with_reducible refine w_not ?_
  | with_reducible refine w_andV ?_
  | with_reducible refine w_notV ?_
  | with_reducible refine w_lst ?_
  | with_reducible refine w_for ?_
  | with_reducible refine w_rng1 ?_
  | with_reducible refine w_rng2 ?_
  | with_reducible refine w_rng3 ?_
  | with_reducible refine w_iList ?_
  | with_reducible refine w_iTup ?_
  | with_reducible refine w_iRevA ?_
  | with_reducible refine w_lc ?_
  | with_reducible refine w_drop ?_
  | with_reducible refine w_par ?_
  | ((with_reducible refine' w_aug ?h ?_); (case h => exact rfl))
  | with_reducible refine w_sl ?_
  | with_reducible refine w_noPart ?_
  | with_reducible refine w_part ?_
  | with_reducible refine w_exint ?_
  | with_reducible refine w_revL ?_
  | with_reducible refine w_bm ?_
  | with_reducible refine w_augS ?_
  | with_reducible refine w_ip ?_
  | with_reducible refine w_gSub ?_
  | with_reducible refine w_gName ?_
  | with_reducible refine w_gCons ?_
  | with_reducible refine w_gNil ?_
  | with_reducible refine w_chain ?_
  | with_reducible refine w_asgG ?_)
local macro_rules | `(tactic| walk_at "rn") => `(tactic| repeat walk_at "rn1")

variable {P : Program} {w : World} {K : PySem.W.Frag} {mg : Str → Option Value} {base : Heap}
/-! ### cut -/
def cutN (ns : List Int) : Nat → Nat
  | 0 => 0
  | m + 1 => if ns.getD m 0 = 0 then cutN ns m else m + 1
def cutM (ns : List Int) : List Int := ns.take (cutN ns ns.length)
def sp_cut (K : PySem.W.Frag) : Sp := fun vs H Q _ => ∃ p ns, vs = [.ref p] ∧ SqL K H p (ns.map V.int) ∧ ns.length ≤ 1000 ∧ Ret H Q fun H' v => IsT K H' v (cutM ns)
theorem ok_cut (T : Txt K mg) : FnOk P w K mg base CX0 1 T.cut.f T.cut.fd ["row"] (sp_cut K) := by
  refine T.cut.F.ok sc_cut (fun vs H Q E h => ?_) (fun cdv A outer s H vs Q E hr h => ?_)
  · obtain ⟨p, ns, rfl, _⟩ := h
    rfl
  · obtain ⟨p, ns, rfl, hx, hl, k⟩ := h
    refine ⟨_, (pss_cons (ps_set (i := 1) sc_cut.nd rfl (.inl rfl) (pe_callB call_len_seq (by rfl) T.n_len (by decide +kernel) (pa_cons (pv 0) pa_nil)))
      (pss_cons (ps_while PassesOwn.never (PW.pt (pw_and (pt_cmpR op_gt (pv 1) pe_int (nomark _)) (pw_and1 (pt_cmpR op_eq (pe_ix (r := rIxL K) ix_list (pv 0) (pe_op op_sub (pv 1) pe_int) (fun _ _ => rfl)) pe_int (nomark _)))))
        (pss_one (ps_set (i := 1) sc_cut.nd rfl (.inl rfl) (pe_op op_sub (pv 1) pe_int))))
      (pss_one (ps_ret (pe_callTy call_tuple_of (by rfl) T.n_tuple (by decide +kernel) (pa_cons (pe_slice (r := rSlL K) sl_list (pv 0) po_none (po_some (pv 1))) pa_nil)))))), ?_⟩
    rw [show L2.start N_cut [V.ref p] = [some (.ref p), none] from rfl]
    try dsimp only [cxOf]
    walk_at "rr"
    refine ⟨p, _, rfl, .inl hx, ?_⟩
    walk_at "rr"
    rw [List.length_map]
    refine w_while (fun m σ' H' => ∃ many : Nat, many ≤ ns.length ∧ m = many ∧ σ' = [some (.ref p), some (.int (many : Int))] ∧ Ex H H' ∧ cutN ns many = cutN ns ns.length) ns.length ⟨_, Nat.le_refl _, rfl, rfl, Ex.refl H, rfl⟩ ?_
    rintro m σ' H' ⟨many, hm, rfl, rfl, e, hc⟩
    walk_at "rr"
    have fin : cutN ns m = m → tRet (tCB (fun xs H Q => ∃ p ys, xs = [V.ref p] ∧ ((SqL K H p ys ∧ ∀ (l : Addr), H l = none → Q (V.ref l) (upd H l (HO.tup ys))) ∨ SqT K H p ys ∧ Q (V.ref p) H)) (tCons (tSl (rSlL K) (tVar 0) tNoPart (tPart (tVar 1))) tNil))
        { nx := fun x H' => Q V.non H', rt := Q } [some (V.ref p), some (V.int (m : Int))] H' := by
      intro hm2
      walk_at "rr"
      refine ⟨p, _, rfl, ex_l e hx, fun q hq => ?_⟩
      walk_at "rr"
      refine ⟨q, _, rfl, .inl ⟨.inl (.inl upd_same), fun l hl2 => ?_⟩⟩
      refine k _ _ (e.trans ((Ex.new hq).trans (Ex.new hl2))) ⟨l, rfl, .inl (.inl ?_)⟩
      rw [upd_same, cutV_to _ (by rw [List.length_map]; exact hm), ← List.map_take]
      unfold cutM
      rw [← hc, hm2]
    refine w_ite (fun h0 => ?_) (fun h0 => ?_)
    · walk_at "rr"
      obtain ⟨j, rfl⟩ : ∃ j, m = j + 1 := ⟨m - 1, by omega⟩
      refine w_ixLn (ex_l e hx) (n := ns.getD j 0) (by rw [show ((j + 1 : Nat) : Int) - 1 = (j : Int) by omega]; exact atI_getD (by omega) (by omega)) ?_
      walk_at "rr"
      refine w_ite (fun h1 => ?_) (fun h1 => ?_)
      · refine w_body ?_
        walk_at "rr"
        refine ⟨j, by omega, j, by omega, rfl, ?_, e, ?_⟩
        · show [some (V.ref p), some (V.int (((j + 1 : Nat) : Int) - 1))] = _
          rw [show ((j + 1 : Nat) : Int) - 1 = (j : Int) by omega]
        · rw [← hc, cutN, if_pos h1]
      · refine fin ?_
        rw [cutN, if_neg h1]
    · refine iteF (fin ?_)
      have : m = 0 := by omega
      subst this
      rfl
/-! ### values of polynomials -/
theorem drop_step {α : Type} {l : List α} {i : Nat} {y : α} (hi : i < l.length) (h : l[l.length - 1 - i]? = some y) : l.drop (l.length - (i + 1)) = y :: l.drop (l.length - i) := by
  have e1 : l.length - (i + 1) = l.length - 1 - i := by omega
  have e2 : l.length - i = l.length - 1 - i + 1 := by omega
  have hj : l.length - 1 - i < l.length := by omega
  rw [e1, e2, List.drop_eq_getElem_cons hj]
  rw [List.getElem?_eq_getElem hj] at h
  rw [Option.some.inj h]
def evalP (ns : List Int) (x : Int) : Int := ns.foldr (fun c acc => acc * x + c) 0
def evalM (p : Int) (ns : List Int) (x : Int) : Int := ns.foldr (fun c acc => (acc * x + c) % p) 0
theorem map_get {α : Type} {zs : List α} {G : α → V} {i : Nat} {y : V} (h : (zs.map G)[i]? = some y) : ∃ z, zs[i]? = some z ∧ y = G z := by
  rw [List.getElem?_map] at h
  cases e : zs[i]? with
  | none => rw [e] at h; cases h
  | some z => rw [e] at h; exact ⟨z, rfl, (Option.some.inj h).symm⟩
def sp_poly_at (K : PySem.W.Frag) : Sp := fun vs H Q _ => ∃ p ns x, vs = [.ref p, .int x] ∧ SqT K H p (ns.map V.int) ∧ (-(2 ^ 60) < x ∧ x < 2 ^ 60) ∧ Ret H Q fun _ v => v = .int (evalP ns x)
theorem ok_poly_at (T : Txt K mg) : FnOk P w K mg base CX0 1 T.poly_at.f T.poly_at.fd ["f", "x"] (sp_poly_at K) := by
  refine T.poly_at.F.ok sc_poly_at (fun vs H Q E h => ?_) (fun cdv A outer s H vs Q E hr h => ?_)
  · obtain ⟨p, ns, x, rfl, _⟩ := h
    rfl
  · obtain ⟨p, ns, x, rfl, hx, ⟨b1, b2⟩, k⟩ := h
    refine ⟨_, (pss_cons (ps_set (i := 2) sc_poly_at.nd rfl (.inl rfl) pe_int)
      (pss_cons (ps_for PassesOwn.never rfl (RT.pi_revA (by rfl) T.n_reversed (pv 0)) (pg_name (i := 3) sc_poly_at.nd rfl (.inl rfl))
        (pss_one (ps_set (i := 2) sc_poly_at.nd rfl (.inl rfl) (pe_op op_add (pe_op op_mul (pv 2) (pv 1)) (pv 3)))))
      (pss_one (ps_ret (pv 2))))), ?_⟩
    rw [show L2.start N_poly_at [V.ref p, .int x] = [some (.ref p), some (.int x), none, none] from rfl]
    try dsimp only [cxOf]
    walk_at "rr"
    refine f_revT hx (fun i σ' H' => ∃ y, σ' = [some (.ref p), some (.int x), some (.int (evalP (ns.drop (ns.length - i)) x)), y] ∧ Ex H H') ⟨none, by rw [Nat.sub_zero, List.drop_length]; rfl, Ex.refl H⟩ (fun i σ' H' q => ?_) (fun i y σ' H' hi hy q => ?_) (fun σ' H' q => ?_)
    · obtain ⟨_, _, e⟩ := q
      exact ex_t e hx
    · obtain ⟨y0, rfl, e⟩ := q
      rw [List.length_map] at hi hy
      obtain ⟨z, hz, rfl⟩ := map_get hy
      walk_at "rr"
      refine w_I (w_CMul2 (by omega) (by omega)) ?_
      walk_at "rr"
      refine ⟨some (.int z), ?_, e⟩
      rw [drop_step hi hz]
      rfl
    · obtain ⟨y0, rfl, e⟩ := q
      walk_at "rr"
      rw [List.length_map, Nat.sub_self, List.drop_zero]
      exact k _ _ e rfl
def sp__law_value (K : PySem.W.Frag) : Sp := sp_poly_at K
theorem ok__law_value (T : Txt K mg) : FnOk P w K mg base CX0 1 T._law_value.f T._law_value.fd ["_law_poly", "_law_r"] (sp__law_value K) := by
  refine T._law_value.F.ok sc__law_value (fun vs H Q E h => ?_) (fun cdv A outer s H vs Q E hr h => ?_)
  · obtain ⟨p, ns, x, rfl, _⟩ := h
    rfl
  · obtain ⟨p, ns, x, rfl, hx, ⟨b1, b2⟩, k⟩ := h
    refine ⟨_, (pss_cons (ps_set (i := 2) sc__law_value.nd rfl (.inl rfl) pe_int)
      (pss_cons (ps_for PassesOwn.never rfl (RT.pi_revA (by rfl) T.n_reversed (pv 0)) (pg_name (i := 3) sc__law_value.nd rfl (.inl rfl))
        (pss_one (ps_set (i := 2) sc__law_value.nd rfl (.inl rfl) (pe_op op_add (pe_op op_mul (pv 2) (pv 1)) (pv 3)))))
      (pss_one (ps_ret (pv 2))))), ?_⟩
    rw [show L2.start N__law_value [V.ref p, .int x] = [some (.ref p), some (.int x), none, none] from rfl]
    try dsimp only [cxOf]
    walk_at "rr"
    refine f_revT hx (fun i σ' H' => ∃ y, σ' = [some (.ref p), some (.int x), some (.int (evalP (ns.drop (ns.length - i)) x)), y] ∧ Ex H H') ⟨none, by rw [Nat.sub_zero, List.drop_length]; rfl, Ex.refl H⟩ (fun i σ' H' q => ?_) (fun i y σ' H' hi hy q => ?_) (fun σ' H' q => ?_)
    · obtain ⟨_, _, e⟩ := q
      exact ex_t e hx
    · obtain ⟨y0, rfl, e⟩ := q
      rw [List.length_map] at hi hy
      obtain ⟨z, hz, rfl⟩ := map_get hy
      walk_at "rr"
      refine w_I (w_CMul2 (by omega) (by omega)) ?_
      walk_at "rr"
      refine ⟨some (.int z), ?_, e⟩
      rw [drop_step hi hz]
      rfl
    · obtain ⟨y0, rfl, e⟩ := q
      walk_at "rr"
      rw [List.length_map, Nat.sub_self, List.drop_zero]
      exact k _ _ e rfl
def sp_mod_at (K : PySem.W.Frag) : Sp := fun vs H Q _ => ∃ p ns x m, vs = [.ref p, .int x, .int m] ∧ SqT K H p (ns.map V.int) ∧ (-(2 ^ 60) < x ∧ x < 2 ^ 60) ∧ 0 < m ∧ Ret H Q fun _ v => v = .int (evalM m ns x)
theorem ok_mod_at (T : Txt K mg) : FnOk P w K mg base CX0 1 T.mod_at.f T.mod_at.fd ["f", "x", "p"] (sp_mod_at K) := by
  refine T.mod_at.F.ok sc_mod_at (fun vs H Q E h => ?_) (fun cdv A outer s H vs Q E hr h => ?_)
  · obtain ⟨p, ns, x, m, rfl, _⟩ := h
    rfl
  · obtain ⟨p, ns, x, m, rfl, hx, ⟨b1, b2⟩, hm, k⟩ := h
    refine ⟨_, (pss_cons (ps_set (i := 3) sc_mod_at.nd rfl (.inl rfl) pe_int)
      (pss_cons (ps_for PassesOwn.never rfl (RT.pi_revA (by rfl) T.n_reversed (pv 0)) (pg_name (i := 4) sc_mod_at.nd rfl (.inl rfl))
        (pss_one (ps_set (i := 3) sc_mod_at.nd rfl (.inl rfl) (pe_op op_mod (pe_op op_add (pe_op op_mul (pv 3) (pv 1)) (pv 4)) (pv 2)))))
      (pss_one (ps_ret (pv 3))))), ?_⟩
    rw [show L2.start N_mod_at [V.ref p, .int x, .int m] = [some (.ref p), some (.int x), some (.int m), none, none] from rfl]
    try dsimp only [cxOf]
    walk_at "rr"
    refine f_revT hx (fun i σ' H' => ∃ y, σ' = [some (.ref p), some (.int x), some (.int m), some (.int (evalM m (ns.drop (ns.length - i)) x)), y] ∧ Ex H H') ⟨none, by rw [Nat.sub_zero, List.drop_length]; rfl, Ex.refl H⟩ (fun i σ' H' q => ?_) (fun i y σ' H' hi hy q => ?_) (fun σ' H' q => ?_)
    · obtain ⟨_, _, e⟩ := q
      exact ex_t e hx
    · obtain ⟨y0, rfl, e⟩ := q
      rw [List.length_map] at hi hy
      obtain ⟨z, hz, rfl⟩ := map_get hy
      walk_at "rr"
      refine w_I (w_CMul2 (by omega) (by omega)) ?_
      walk_at "rr"
      refine w_I hm ?_
      walk_at "rr"
      refine ⟨some (.int z), ?_, e⟩
      rw [drop_step hi hz]
      rfl
    · obtain ⟨y0, rfl, e⟩ := q
      walk_at "rr"
      rw [List.length_map, Nat.sub_self, List.drop_zero]
      exact k _ _ e rfl
/-! ### small_primes -/
def sp_small_primes (K : PySem.W.Frag) : Sp := fun vs H Q _ => vs = [] ∧ Ret H Q fun H' v => IsL K H' v primes
theorem ok_small_primes (T : Txt K mg) : FnOk P w K mg base CX0 1 T.small_primes.f T.small_primes.fd [] (sp_small_primes K) := by
  refine T.small_primes.F.ok sc_small_primes (fun vs H Q E h => ?_) (fun cdv A outer s H vs Q E hr h => ?_)
  · obtain ⟨rfl, _⟩ := h
    rfl
  · obtain ⟨rfl, k⟩ := h
    refine ⟨_, (pss_one (ps_ret (pe_callTy call_list_of (by rfl) T.n_list (by decide +kernel) (pa_cons (pe_glob (v := .ref T.a_PRIMES) rfl T.g_PRIMES rfl) pa_nil)))), ?_⟩
    try dsimp only [cxOf]
    walk_at "rr"
    refine ⟨_, _, rfl, .inr (T.t_PRIMES H), fun l hl => ?_⟩
    exact k _ _ (Ex.new hl) ⟨l, rfl, .inl (.inl upd_same)⟩
/-! ### root -/
def sp_root : Sp := fun vs H Q _ => ∃ m, vs = [.int m] ∧ 0 ≤ m ∧ m < 2 ^ 40 ∧ Ret H Q fun _ v => ∃ r : Int, v = .int r ∧ 0 ≤ r ∧ r < 2 ^ 30 ∧ r * r ≤ m ∧ m < (r + 1) * (r + 1)
theorem sq_lt {x y : Int} (h0 : 0 ≤ x) (h : x < y) : x * x < y * y := by
  have h1 : x * x ≤ x * y := Int.mul_le_mul_of_nonneg_left (Int.le_of_lt h) h0
  have h2 : x * y < y * y := Int.mul_lt_mul_of_pos_right h (by omega)
  omega
theorem sq_le {x y : Int} (h0 : 0 ≤ x) (h : x ≤ y) : x * x ≤ y * y := Int.mul_le_mul h h h0 (by omega)
theorem ok_root (T : Txt K mg) : FnOk P w K mg base CX0 1 T.root.f T.root.fd ["m"] sp_root := by
  refine T.root.F.ok sc_root (fun vs H Q E h => ?_) (fun cdv A outer s H vs Q E hr h => ?_)
  · obtain ⟨m, rfl, _⟩ := h
    rfl
  · obtain ⟨m, rfl, m0, m1, k⟩ := h
    refine ⟨_, (pss_cons (ps_set (i := 1) sc_root.nd rfl (.inl rfl) pe_int)
      (pss_cons (ps_while PassesOwn.never (pt_cmpR op_le (pe_op op_mul (pv 1) (pv 1)) (pv 0) (nomark _))
        (pss_one (ps_set (i := 1) sc_root.nd rfl (.inl rfl) (pe_op op_mul pe_int (pv 1)))))
      (pss_cons (ps_set (i := 2) sc_root.nd rfl (.inl rfl) pe_int)
      (pss_cons (ps_while PassesOwn.never (pt_cmpR op_gt (pe_op op_sub (pv 1) (pv 2)) pe_int (nomark _))
        (pss_cons (ps_set (i := 3) sc_root.nd rfl (.inl rfl) (pe_op op_fdiv (pe_op op_add (pv 2) (pv 1)) pe_int))
          (pss_one (ps_if (pt_cmpR op_le (pe_op op_mul (pv 3) (pv 3)) (pv 0) (nomark _))
            (pss_one (ps_set (i := 2) sc_root.nd rfl (.inl rfl) (pv 3)))
            (pss_one (ps_set (i := 1) sc_root.nd rfl (.inl rfl) (pv 3)))))))
      (pss_one (ps_ret (pv 2))))))), ?_⟩
    rw [show L2.start N_root [V.int m] = [some (.int m), none, none, none] from rfl]
    try dsimp only [cxOf]
    walk_at "rr"
    refine w_while (fun n σ' H' => ∃ h : Int, σ' = [some (.int m), some (.int h), none, none] ∧ Ex H H' ∧ 1 ≤ h ∧ h < 2 ^ 30 ∧ (n : Int) = 2 ^ 31 - h) (2 ^ 31 - 1) ⟨1, rfl, Ex.refl H, by omega, by omega, by omega⟩ ?_
    rintro n σ' H' ⟨h, rfl, e, h1, h2, hn⟩
    walk_at "rr"
    refine w_I (w_CMul1 (by omega) (by omega)) ?_
    walk_at "rr"
    refine w_ite (fun hh => ?_) (fun hh => ?_)
    · refine w_body ?_
      walk_at "rr"
      refine w_I (w_CMul1 (by omega) (by omega)) ?_
      have hb : h < 2 ^ 21 := by
        by_cases q : h < 2 ^ 21
        · exact q
        · have := sq_le (x := 2 ^ 21) (y := h) (by omega) (by omega)
          omega
      walk_at "rr"
      exact ⟨(2 ^ 31 - 2 * h).toNat, by omega, 2 * h, rfl, e, by omega, by omega, by omega⟩
    · walk_at "rr"
      refine w_while (fun n σ' H' => ∃ (lo hi : Int) (y : Option V), σ' = [some (.int m), some (.int hi), some (.int lo), y] ∧ Ex H H' ∧ 0 ≤ lo ∧ lo < hi ∧ hi < 2 ^ 30 ∧ lo * lo ≤ m ∧ m < hi * hi ∧ (n : Int) = hi - lo) h.toNat ⟨0, h, none, rfl, e, by omega, by omega, by omega, by omega, by omega, by omega⟩ ?_
      rintro n σ' H' ⟨lo, hi, y, rfl, e, c0, c1, c2, c3, c4, hn⟩
      walk_at "rr"
      refine w_ite (fun hh => ?_) (fun hh => ?_)
      · refine w_body ?_
        walk_at "rr"
        refine w_I (show CDiv _ _ from ⟨by decide, by decide⟩) ?_
        walk_at "rr"
        have d1 : lo < (lo + hi) / 2 := by omega
        have d2 : (lo + hi) / 2 < hi := by omega
        generalize (lo + hi) / 2 = mid at d1 d2
        refine w_I (w_CMul1 (by omega) (by omega)) ?_
        walk_at "rr"
        refine w_ite (fun h3 => ?_) (fun h3 => ?_)
        · walk_at "rr"
          exact ⟨(hi - mid).toNat, by omega, mid, hi, _, rfl, e, by omega, by omega, by omega, by omega, by omega, by omega⟩
        · walk_at "rr"
          exact ⟨(mid - lo).toNat, by omega, lo, mid, _, rfl, e, by omega, by omega, by omega, by omega, by omega, by omega⟩
      · walk_at "rr"
        have e1 : hi = lo + 1 := by omega
        subst e1
        exact k _ _ e ⟨lo, rfl, c0, by omega, c3, c4⟩
end
end RH

set_option Elab.async false
set_option linter.all false
set_option maxRecDepth 100000
set_option maxHeartbeats 4000000
namespace RH
open PySem PySem.Spec PyProof.Rows L2 Evl
section
local macro_rules | `(tactic| walk_at "rs") => `(tactic| first
  | with_reducible refine w_seq ?_
  | with_reducible refine w_asg ?_
  | ((with_reducible refine' w_var ?h ?_); (case h => exact rfl))
  | with_reducible refine w_c ?_
  | with_reducible refine w_op ?_
  | with_reducible refine w_I0 ?_
  | with_reducible refine w_cb ?_
  | with_reducible refine w_cons ?_
  | with_reducible refine w_nil ?_
  | with_reducible refine w_ret ?_
  | with_reducible refine w_call ?_
  | with_reducible refine w_if ?_
  | with_reducible refine w_test ?_
  | with_reducible refine w_exbl ?_
  | with_reducible refine w_eqI ?_
  | with_reducible refine w_neI ?_
  | with_reducible refine w_next ?_
  | with_reducible refine w_un ?_
  | with_reducible refine w_U ?_
  | with_reducible refine w_B ?_
  | with_reducible refine w_and ?_
  | with_reducible refine w_or ?_
  | with_reducible refine w_not ?_
  | with_reducible refine w_andV ?_
  | with_reducible refine w_notV ?_
  | with_reducible refine w_tup ?_
  | with_reducible refine w_lst ?_
  | with_reducible refine w_for ?_
  | with_reducible refine w_rng1 ?_
  | with_reducible refine w_rng2 ?_
  | with_reducible refine w_rng3 ?_
  | with_reducible refine w_iList ?_
  | with_reducible refine w_iTup ?_
  | with_reducible refine w_iRevA ?_
  | with_reducible refine w_lc ?_
  | with_reducible refine w_drop ?_
  | with_reducible refine w_par ?_
  | ((with_reducible refine' w_aug ?h ?_); (case h => exact rfl))
  | with_reducible refine w_sl ?_
  | with_reducible refine w_noPart ?_
  | with_reducible refine w_part ?_
  | with_reducible refine w_exint ?_
  | with_reducible refine w_revL ?_
  | with_reducible refine w_bm ?_
  | with_reducible refine w_augS ?_
  | with_reducible refine w_ip ?_
  | with_reducible refine w_gSub ?_
  | with_reducible refine w_gName ?_
  | with_reducible refine w_gCons ?_
  | with_reducible refine w_gNil ?_
  | with_reducible refine w_chain ?_
  | with_reducible refine w_asgG ?_)
local macro_rules | `(tactic| walk_at "rr") => `(tactic| repeat walk_at "rs")
local macro_rules | `(tactic| walk_at "rn1") => `(tactic| first
  | with_reducible refine w_seq ?_
  | with_reducible refine w_asg ?_
  | ((with_reducible refine' w_var ?h ?_); (case h => exact rfl))
  | with_reducible refine w_c ?_
  | with_reducible refine w_op ?_
  | with_reducible refine w_I0 ?_
  | with_reducible refine w_cb ?_
  | with_reducible refine w_cons ?_
  | with_reducible refine w_nil ?_
  | with_reducible refine w_ret ?_
  | with_reducible refine w_call ?_
  | with_reducible refine w_if ?_
  | with_reducible refine w_test ?_
  | with_reducible refine w_exbl ?_
  | with_reducible refine w_eqI ?_
  | with_reducible refine w_neI ?_
  | with_reducible refine w_next ?_
  | with_reducible refine w_un ?_
  | with_reducible refine w_U ?_
  | with_reducible refine w_B ?_
  | with_reducible refine w_and ?_
  | with_reducible refine w_or ?_
  | with_reducible refine w_not ?_
  | with_reducible refine w_andV ?_
  | with_reducible refine w_notV ?_
  | with_reducible refine w_lst ?_
  | with_reducible refine w_for ?_
  | with_reducible refine w_rng1 ?_
  | with_reducible refine w_rng2 ?_
  | with_reducible refine w_rng3 ?_
  | with_reducible refine w_iList ?_
  | with_reducible refine w_iTup ?_
  | with_reducible refine w_iRevA ?_
  | with_reducible refine w_lc ?_
  | with_reducible refine w_drop ?_
  | with_reducible refine w_par ?_
  | ((with_reducible refine' w_aug ?h ?_); (case h => exact rfl))
  | with_reducible refine w_sl ?_
  | with_reducible refine w_noPart ?_
  | with_reducible refine w_part ?_
  | with_reducible refine w_exint ?_
  | with_reducible refine w_revL ?_
  | with_reducible refine w_bm ?_
  | with_reducible refine w_augS ?_
  | with_reducible refine w_ip ?_
  | with_reducible refine w_gSub ?_
  | with_reducible refine w_gName ?_
  | with_reducible refine w_gCons ?_
  | with_reducible refine w_gNil ?_
  | with_reducible refine w_chain ?_
  | with_reducible refine w_asgG ?_)
local macro_rules | `(tactic| walk_at "rn") => `(tactic| repeat walk_at "rn1")

variable {P : Program} {w : World} {K : PySem.W.Frag} {mg : Str → Option Value} {base : Heap}
/-! ### turned -/
theorem primes_gcd0 : (primes.all fun m => (List.range m.toNat).all fun r => r == 0 || Nat.gcd r m.toNat == 1) = true := by decide +kernel
theorem primes_bd0 : (primes.all fun m => decide (2 ≤ m ∧ m ≤ 199)) = true := by decide +kernel
theorem primes_bd {m : Int} (h : m ∈ primes) : 2 ≤ m ∧ m ≤ 199 := of_decide_eq_true (List.all_eq_true.mp primes_bd0 m h)
theorem primes_cop {m r d : Int} (h : m ∈ primes) (h0 : 0 < r) (h1 : r < m) (d1 : d ∣ r) (d2 : d ∣ m) : d ∣ 1 := by
  have b := primes_bd h
  have q := List.all_eq_true.mp (List.all_eq_true.mp primes_gcd0 m h) r.toNat (List.mem_range.mpr (by omega))
  rw [Bool.or_eq_true, beq_iff_eq, beq_iff_eq] at q
  have q2 : Nat.gcd r.toNat m.toNat = 1 := by
    rcases q with q | q
    · omega
    · exact q
  have e : Int.gcd r m = 1 := by
    rw [Int.gcd_eq_natAbs_gcd_natAbs, show r.natAbs = r.toNat by omega, show m.natAbs = m.toNat by omega]
    exact q2
  have g := Int.dvd_coe_gcd d1 d2
  rw [e] at g
  exact g
def sp_turned : Sp := fun vs H Q _ => ∃ a m, vs = [.int a, .int m] ∧ m ∈ primes ∧ a % m ≠ 0 ∧ Ret H Q fun _ v => ∃ t : Int, v = .int t ∧ 0 ≤ t ∧ t < m ∧ (t * a) % m = 1
theorem ok_turned (T : Txt K mg) : FnOk P w K mg base CX0 1 T.turned.f T.turned.fd ["a", "p"] sp_turned := by
  refine T.turned.F.ok sc_turned (fun vs H Q E h => ?_) (fun cdv A outer s H vs Q E hr h => ?_)
  · obtain ⟨a, m, rfl, _⟩ := h
    rfl
  · obtain ⟨a, m, rfl, hm, ha, k⟩ := h
    have hb := primes_bd hm
    refine ⟨_, (pss_cons (ps_set (i := 2) sc_turned.nd rfl (.inl rfl) (pe_op op_mod (pv 0) (pv 1)))
      (pss_cons (ps_set (i := 3) sc_turned.nd rfl (.inl rfl) (pv 1))
      (pss_cons (ps_set (i := 4) sc_turned.nd rfl (.inl rfl) pe_int)
      (pss_cons (ps_set (i := 5) sc_turned.nd rfl (.inl rfl) pe_int)
      (pss_cons (ps_while PassesOwn.never (pt_cmpR op_gt (pv 2) pe_int (nomark _))
        (pss_cons (ps_set (i := 6) sc_turned.nd rfl (.inl rfl) (pe_op op_fdiv (pv 3) (pv 2)))
          (pss_cons (ps_par (i := 2) (j := 3) (by rfl) sc_turned.nd rfl rfl (by decide) rfl rfl (pa_cons (pe_op op_sub (pv 3) (pe_op op_mul (pv 6) (pv 2))) (pa_cons (pv 2) pa_nil)) (by rfl))
          (pss_one (ps_par (i := 4) (j := 5) (by rfl) sc_turned.nd rfl rfl (by decide) rfl rfl (pa_cons (pe_op op_sub (pv 5) (pe_op op_mul (pv 6) (pv 4))) (pa_cons (pv 4) pa_nil)) (by rfl))))))
      (pss_one (ps_ret (pe_op op_mod (pv 4) (pv 1))))))))), ?_⟩
    rw [show L2.start N_turned [V.int a, V.int m] = [some (.int a), some (.int m), none, none, none, none, none] from rfl]
    try dsimp only [cxOf]
    walk_at "rr"
    refine w_I (show (0 : Int) < m by omega) ?_
    walk_at "rr"
    have r0 : 0 ≤ a % m := Int.emod_nonneg _ (by omega)
    have r1 : a % m < m := Int.emod_lt_of_pos _ (by omega)
    refine w_while (fun n σ' H' => ∃ (one two fi se : Int) (y : Option V), σ' = [some (.int a), some (.int m), some (.int one), some (.int two), some (.int fi), some (.int se), y] ∧ Ex H H' ∧ 0 ≤ one ∧ one < two ∧ two ≤ m ∧ 2 ≤ two ∧ (n : Int) = one ∧ (∀ d : Int, d ∣ one → d ∣ two → d ∣ 1) ∧
      (∃ u, fi * a = one + u * m) ∧ (∃ u, se * a = two + u * m)) (a % m).toNat ⟨a % m, m, 1, 0, none, rfl, Ex.refl H, r0, r1, Int.le_refl _, hb.1, by omega, fun d d1 d2 => primes_cop hm (by omega) r1 d1 d2, ⟨a / m, by
        have := Int.emod_add_mul_ediv a m
        rw [Int.mul_comm] at this
        omega⟩, ⟨-1, by omega⟩⟩ ?_
    rintro n σ' H' ⟨one, two, fi, se, y, rfl, e, c0, c1, c2, c3, hn, hd, ⟨u, hu⟩, ⟨z, hz⟩⟩
    walk_at "rr"
    refine w_ite (fun hh => ?_) (fun hh => ?_)
    · refine w_body ?_
      walk_at "rr"
      refine w_I (show CDiv _ _ from ⟨by omega, by omega⟩) ?_
      have p0 : 0 ≤ two / one := Int.ediv_nonneg (by omega) (by omega)
      have p1 : two / one ≤ 199 := Int.le_trans (Int.ediv_le_self one (by omega)) (by omega)
      have em := Int.emod_add_mul_ediv two one
      have e0 := Int.emod_nonneg two (show one ≠ 0 by omega)
      have e1 := Int.emod_lt_of_pos two (show 0 < one by omega)
      generalize two / one = part at p0 p1 em
      have comm : part * one = one * part := Int.mul_comm _ _
      walk_at "rr"
      refine w_I (w_CMul1 (by omega) (by omega)) ?_
      walk_at "rr"
      refine ⟨_, _, rfl, ?_⟩
      walk_at "rr"
      refine w_I (w_CMul1 (by omega) (by omega)) ?_
      walk_at "rr"
      refine ⟨_, _, rfl, ?_⟩
      refine ⟨(two - part * one).toNat, by omega, two - part * one, one, se - part * fi, fi, some (.int part), rfl, e, by omega, by omega, by omega, by omega, by omega, fun d d1 d2 => hd d d2 ?_, ⟨z - part * u, ?_⟩, ⟨u, hu⟩⟩
      · have d3 : d ∣ part * one := Int.dvd_trans d2 (Int.dvd_mul_left _ _)
        have := Int.dvd_add d1 d3
        rw [Int.sub_add_cancel] at this
        exact this
      · have h1 : part * fi * a = part * (fi * a) := Int.mul_assoc _ _ _
        rw [Int.sub_mul, h1, hu, hz, Int.mul_add, Int.sub_mul, Int.mul_assoc]
        omega
    · walk_at "rr"
      refine w_I (show (0 : Int) < m by omega) ?_
      have e1 : one = 1 := by
        by_cases h1 : one = 0
        · have := hd two (by rw [h1]; exact Int.dvd_zero two) (Int.dvd_refl two)
          have := Int.le_of_dvd (by omega) this
          omega
        · omega
      subst e1
      refine k _ _ e ⟨_, rfl, Int.emod_nonneg _ (by omega), Int.emod_lt_of_pos _ (by omega), ?_⟩
      rw [Int.mul_emod, Int.emod_emod_of_dvd _ (Int.dvd_refl m), ← Int.mul_emod, hu, Int.add_mul_emod_self_right]
      exact Int.emod_eq_of_lt (by omega) (by omega)
/-! ### a ring's polynomial -/
structure IsPoly (ns : List Int) : Prop where
  ex : ∃ cs : List Int, ns = cs ++ [1] ∧ 2 ≤ cs.length ∧ cs.length ≤ 4 ∧ ∀ c ∈ cs, -499 ≤ c ∧ c ≤ 499
theorem IsPoly.bd {ns : List Int} (h : IsPoly ns) {c : Int} (hc : c ∈ ns) : -499 ≤ c ∧ c ≤ 499 := by
  obtain ⟨cs, rfl, _, _, b⟩ := h.ex
  rcases List.mem_append.mp hc with hc | hc
  · exact b c hc
  · rw [List.mem_singleton.mp hc]
    omega
theorem IsPoly.len {ns : List Int} (h : IsPoly ns) : 3 ≤ ns.length ∧ ns.length ≤ 5 := by
  obtain ⟨cs, rfl, _, _, _⟩ := h.ex
  rw [List.length_append, List.length_singleton]
  omega
def sp_check_poly (K : PySem.W.Frag) : Sp := fun vs H Q _ => ∃ (p : Addr) (ns : List Int), vs = [.ref p] ∧ SqT K H p (ns.map V.int) ∧ IsPoly ns ∧ Ret H Q fun _ v => v = .non
theorem ok_check_poly (T : Txt K mg) : FnOk P w K mg base CX0 1 T.check_poly.f T.check_poly.fd ["poly"] (sp_check_poly K) := by
  refine T.check_poly.F.ok sc_check_poly (fun vs H Q E h => ?_) (fun cdv A outer s H vs Q E hr h => ?_)
  · obtain ⟨p, ns, rfl, _⟩ := h
    rfl
  · obtain ⟨p, ns, rfl, hx, hp, k⟩ := h
    have hl := hp.len
    refine ⟨_, (pss_cons (ps_set (i := 1) sc_check_poly.nd rfl (.inl rfl) (pe_and (pe_chain op_le op_le pe_int (pe_callB call_len_seq (by rfl) T.n_len (by decide +kernel) (pa_cons (pv 0) pa_nil)) pe_int) (pe_one (pe_cmpR op_eq (pe_ix (r := rIxT K) ix_tup (pv 0) (pe_un un_neg pe_int) (fun _ _ => rfl)) pe_int (nomark _)))))
      (pss_cons (ps_if (pt_val (pv 1))
        (pss_one (ps_for PassesOwn.never rfl (pi_tup (pv 0)) (pg_name (i := 2) sc_check_poly.nd rfl (.inl rfl))
            (pss_one (ps_if (PW.pt (pw_or (pt_cmpR op_lt (pv 2) (pe_un un_neg (pe_glob (v := .int 499) rfl T.g_LARGEST.choose_spec ⟨_, rfl⟩)) (nomark _)) (pw_or1 (pt_cmpR op_gt (pv 2) (pe_glob (v := .int 499) rfl T.g_LARGEST.choose_spec ⟨_, rfl⟩) (nomark _)))))
                (pss_one (ps_set (i := 1) sc_check_poly.nd rfl (.inl rfl) pe_bl))
                pss_nil))))
        pss_nil)
      (pss_one (ps_if (pt_not (pt_val (pv 1)))
        (pss_one ps_never)
        pss_nil)))), ?_⟩
    rw [show L2.start N_check_poly [V.ref p] = [some (.ref p), none, none] from rfl]
    try dsimp only [cxOf]
    walk_at "rr"
    refine ⟨p, _, rfl, .inr hx, ?_⟩
    rw [List.length_map]
    walk_at "rr"
    rw [decide_eq_true (show (3 : Int) ≤ (ns.length : Int) by omega)]
    refine iteT ?_
    walk_at "rr"
    rw [decide_eq_true (show (ns.length : Int) ≤ 5 by omega)]
    refine iteT ?_
    walk_at "rr"
    refine w_ixTn hx (n := 1) ?_ ?_
    · obtain ⟨cs, rfl, _⟩ := hp.ex
      exact atI_last _ _
    walk_at "rr"
    refine iteT ?_
    walk_at "rr"
    refine f_tup hx (fun i σ' H' => ∃ y, σ' = [some (.ref p), some (.bl true), y] ∧ Ex H H') ⟨none, rfl, Ex.refl H⟩ (fun i σ' H' q => ?_) (fun i y σ' H' hy q => ?_) (fun σ' H' q => ?_)
    · obtain ⟨_, _, e⟩ := q
      exact ex_t e hx
    · obtain ⟨y0, rfl, e⟩ := q
      obtain ⟨z, hz, rfl⟩ := map_get hy
      have hb := hp.bd (List.mem_of_getElem? hz)
      walk_at "rr"
      rw [decide_eq_false (show ¬ (z < -499) by omega)]
      refine iteF ?_
      walk_at "rr"
      rw [decide_eq_false (show ¬ ((499 : Int) < z) by omega)]
      refine iteF ?_
      walk_at "rr"
      exact ⟨_, rfl, e⟩
    · obtain ⟨y0, rfl, e⟩ := q
      walk_at "rr"
      refine iteF ?_
      walk_at "rr"
      exact k _ _ e rfl
/-! ### mod_poly, divides_all, square_primes -/
def sp_mod_poly (K : PySem.W.Frag) : Sp := fun vs H Q _ => ∃ (p : Addr) (ns : List Int) (m : Int), vs = [.ref p, .int m] ∧ SqT K H p (ns.map V.int) ∧ ns.length ≤ 1000 ∧ 0 < m ∧ Ret H Q fun H' v => IsT K H' v (cutM (ns.map (· % m)))
theorem lcAcc_all {α : Type} {F : α → V} {l : List α} : lcAcc (fun _ => true) F l = l.map F := by
  unfold lcAcc
  rw [List.filter_eq_self.mpr (fun _ _ => rfl)]
theorem ok_mod_poly (T : Txt K mg) (G_cut : FnOk P w K mg base CX0 1 T.cut.f T.cut.fd ["row"] (sp_cut K)) : FnOk P w K mg base CX0 2 T.mod_poly.f T.mod_poly.fd ["row", "p"] (sp_mod_poly K) := by
  refine T.mod_poly.F.ok sc_mod_poly (fun vs H Q E h => ?_) (fun cdv A outer s H vs Q E hr h => ?_)
  · obtain ⟨p, ns, m, rfl, _⟩ := h
    rfl
  · obtain ⟨p, ns, m, rfl, hx, hl, hm, k⟩ := h
    refine ⟨_, (pss_one (ps_ret (pe_call G_cut (hr.mono (by omega)) (by rfl) T.cut.g T.cut.F.kp T.cut.b .nil pass0 (pa_cons (pe_lc (own := [("place", 2)]) (g := gName 2) (by rfl) sc_mod_poly.nd (pi_tup (pv 0)) (blkOk_by (own := [("place", 2)]) (N := N_mod_poly) (sc := defScope s_mod_poly) (by decide +kernel)) (fun _ _ _ _ _ => pg_name (i := 2) sc_mod_poly.nd rfl (Or.inl rfl)) (fun _ _ _ _ _ => pts_nil) (fun _ _ _ _ _ => (pe_op op_mod (pv 2) (pv 1)))) pa_nil)))), ?_⟩
    rw [show L2.start N_mod_poly [V.ref p, .int m] = [some (.ref p), some (.int m), none] from rfl]
    try dsimp only [cxOf]
    walk_at "rr"
    refine c_tup (zs := ns) (G := V.int) (fun _ => true) (fun z => .int (z % m)) hx (by omega) (fun _ => rfl) (fun z _ => gives_yes) (fun z _ _ H1 e Q q => ?_) (fun D H' hD e hacc => ?_)
    · walk_at "rr"
      exact w_I hm (q H1 (Ex.refl H1))
    · walk_at "rr"
      rw [lcAcc_all] at hacc
      refine ⟨D, ns.map (· % m), rfl, .inl (.inl (by rw [hacc, List.map_map] <;> rfl)), by rw [List.length_map]; exact hl, fun v H2 e2 r => k v H2 (e.trans e2) r⟩
def sp_divides_all (K : PySem.W.Frag) : Sp := fun vs H Q _ => ∃ (p : Addr) (ns : List Int) (m : Int), vs = [.int m, .ref p] ∧ SqT K H p (ns.map V.int) ∧ ns.length ≤ 1000 ∧ 0 < m ∧ Ret H Q fun _ v => ∃ b : Bool, v = .bl b ∧ (b = true ↔ ∀ c ∈ ns, m ∣ c)
theorem ok_divides_all (T : Txt K mg) : FnOk P w K mg base CX0 1 T.divides_all.f T.divides_all.fd ["m", "row"] (sp_divides_all K) := by
  refine T.divides_all.F.ok sc_divides_all (fun vs H Q E h => ?_) (fun cdv A outer s H vs Q E hr h => ?_)
  · obtain ⟨p, ns, m, rfl, _⟩ := h
    rfl
  · obtain ⟨p, ns, m, rfl, hx, hl, hm, k⟩ := h
    refine ⟨_, (pss_one (ps_ret (pe_callB (cr_all rfl) (by rfl) T.n_all (by decide +kernel) (pa_cons (pe_lc (own := [("place", 2)]) (g := gName 2) (by rfl) sc_divides_all.nd (pi_tup (pv 1)) (blkOk_by (own := [("place", 2)]) (N := N_divides_all) (sc := defScope s_divides_all) (by decide +kernel)) (fun _ _ _ _ _ => pg_name (i := 2) sc_divides_all.nd rfl (Or.inl rfl)) (fun _ _ _ _ _ => pts_nil) (fun _ _ _ _ _ => (pe_cmpR op_eq (pe_op op_mod (pv 2) (pv 0)) pe_int (nomark _)))) pa_nil)))), ?_⟩
    rw [show L2.start N_divides_all [V.int m, .ref p] = [some (.int m), some (.ref p), none] from rfl]
    try dsimp only [cxOf]
    walk_at "rr"
    refine c_tup (zs := ns) (G := V.int) (fun _ => true) (fun z => .bl (decide (z % m = 0))) hx (by omega) (fun _ => rfl) (fun z _ => gives_yes) (fun z _ _ H1 e Q q => ?_) (fun D H' hD e hacc => ?_)
    · walk_at "rr"
      refine w_I hm ?_
      walk_at "rr"
      exact q H1 (Ex.refl H1)
    · walk_at "rr"
      rw [lcAcc_all] at hacc
      refine ⟨D, ns.map (fun z => decide (z % m = 0)), rfl, .inl (.inl (by rw [hacc, List.map_map] <;> rfl)), k _ _ e ⟨_, rfl, ?_⟩⟩
      rw [List.all_eq_true]
      constructor
      · intro h c hc
        have := h _ (List.mem_map.mpr ⟨c, hc, rfl⟩)
        exact Int.dvd_of_emod_eq_zero (of_decide_eq_true this)
      · intro h b hb
        obtain ⟨c, hc, rfl⟩ := List.mem_map.mp hb
        exact decide_eq_true (Int.emod_eq_zero_of_dvd (h c hc))
def sp_square_primes (K : PySem.W.Frag) : Sp := fun vs H Q _ => ∃ (n : Int), vs = [.int n] ∧ Ret H Q fun H' v => IsL K H' v (primes.filter fun p => decide (n % (p * p) = 0))
theorem ok_square_primes (T : Txt K mg) (G_small_primes : FnOk P w K mg base CX0 1 T.small_primes.f T.small_primes.fd [] (sp_small_primes K)) : FnOk P w K mg base CX0 2 T.square_primes.f T.square_primes.fd ["size"] (sp_square_primes K) := by
  refine T.square_primes.F.ok sc_square_primes (fun vs H Q E h => ?_) (fun cdv A outer s H vs Q E hr h => ?_)
  · obtain ⟨n, rfl, _⟩ := h
    rfl
  · obtain ⟨n, rfl, k⟩ := h
    refine ⟨_, (pss_one (ps_ret (pe_lc (own := [("p", 1)]) (g := gName 1) (by rfl) sc_square_primes.nd (pi_list (pe_call0 G_small_primes (hr.mono (by omega)) (by rfl) T.small_primes.g T.small_primes.F.kp T.small_primes.b .nil pass0)) (blkOk_by (own := [("p", 1)]) (N := N_square_primes) (sc := defScope s_square_primes) (by decide +kernel)) (fun _ _ _ _ _ => pg_name (i := 1) sc_square_primes.nd rfl (Or.inl rfl)) (fun _ _ _ _ _ => (pts_one (pt_cmpR op_eq (pe_op op_mod (pv 0) (pe_op op_mul (pv 1) (pv 1))) pe_int (nomark _)))) (fun _ _ _ _ _ => (pv 1))))), ?_⟩
    rw [show L2.start N_square_primes [V.int n] = [some (.int n), none] from rfl]
    try dsimp only [cxOf]
    walk_at "rr"
    refine ⟨rfl, fun v H1 e1 r => ?_⟩
    obtain ⟨q, rfl, hq⟩ := r
    refine c_list (zs := primes) (G := V.int) (fun p => decide (n % (p * p) = 0)) V.int hq (by decide) (fun _ => rfl) (fun z hz H1 e Q q => ?_) (fun z _ _ H1 e Q q => ?_) (fun D H' hD e hacc => ?_)
    · have hb := primes_bd hz
      walk_at "rr"
      refine w_I (w_CMul1 (by omega) (by omega)) ?_
      walk_at "rr"
      refine w_I (show (0 : Int) < z * z from Int.mul_pos (by omega) (by omega)) ?_
      walk_at "rr"
      exact q H1 (Ex.refl H1)
    · walk_at "rr"
      exact q H1 (Ex.refl H1)
    · exact k _ _ (e1.trans e) ⟨D, rfl, .inl (.inl hacc)⟩
end
end RH

set_option Elab.async false
set_option linter.all false
set_option maxRecDepth 100000
set_option maxHeartbeats 4000000
namespace RH
open PySem PySem.Spec PyProof.Rows L2 Evl
section
local macro_rules | `(tactic| walk_at "rs") => `(tactic| first
  | with_reducible refine w_seq ?_
  | with_reducible refine w_asg ?_
  | ((with_reducible refine' w_var ?h ?_); (case h => exact rfl))
  | with_reducible refine w_c ?_
  | with_reducible refine w_op ?_
  | with_reducible refine w_I0 ?_
  | with_reducible refine w_cb ?_
  | with_reducible refine w_cons ?_
  | with_reducible refine w_nil ?_
  | with_reducible refine w_ret ?_
  | with_reducible refine w_call ?_
  | with_reducible refine w_if ?_
  | with_reducible refine w_test ?_
  | with_reducible refine w_exbl ?_
  | with_reducible refine w_eqI ?_
  | with_reducible refine w_neI ?_
  | with_reducible refine w_next ?_
  | with_reducible refine w_un ?_
  | with_reducible refine w_U ?_
  | with_reducible refine w_B ?_
  | with_reducible refine w_and ?_
  | with_reducible refine w_or ?_
  | with_reducible refine w_not ?_
  | with_reducible refine w_andV ?_
  | with_reducible refine w_notV ?_
  | with_reducible refine w_tup ?_
  | with_reducible refine w_lst ?_
  | with_reducible refine w_for ?_
  | with_reducible refine w_rng1 ?_
  | with_reducible refine w_rng2 ?_
  | with_reducible refine w_rng3 ?_
  | with_reducible refine w_iList ?_
  | with_reducible refine w_iTup ?_
  | with_reducible refine w_iRevA ?_
  | with_reducible refine w_lc ?_
  | with_reducible refine w_drop ?_
  | with_reducible refine w_par ?_
  | ((with_reducible refine' w_aug ?h ?_); (case h => exact rfl))
  | with_reducible refine w_sl ?_
  | with_reducible refine w_noPart ?_
  | with_reducible refine w_part ?_
  | with_reducible refine w_exint ?_
  | with_reducible refine w_revL ?_
  | with_reducible refine w_bm ?_
  | with_reducible refine w_augS ?_
  | with_reducible refine w_ip ?_
  | with_reducible refine w_gSub ?_
  | with_reducible refine w_gName ?_
  | with_reducible refine w_gCons ?_
  | with_reducible refine w_gNil ?_
  | with_reducible refine w_chain ?_
  | with_reducible refine w_asgG ?_)
local macro_rules | `(tactic| walk_at "rr") => `(tactic| repeat walk_at "rs")
local macro_rules | `(tactic| walk_at "rn1") => `(tactic| first
  | with_reducible refine w_seq ?_
  | with_reducible refine w_asg ?_
  | ((with_reducible refine' w_var ?h ?_); (case h => exact rfl))
  | with_reducible refine w_c ?_
  | with_reducible refine w_op ?_
  | with_reducible refine w_I0 ?_
  | with_reducible refine w_cb ?_
  | with_reducible refine w_cons ?_
  | with_reducible refine w_nil ?_
  | with_reducible refine w_ret ?_
  | with_reducible refine w_call ?_
  | with_reducible refine w_if ?_
  | with_reducible refine w_test ?_
  | with_reducible refine w_exbl ?_
  | with_reducible refine w_eqI ?_
  | with_reducible refine w_neI ?_
  | with_reducible refine w_next ?_
  | with_reducible refine w_un ?_
  | with_reducible refine w_U ?_
  | with_reducible refine w_B ?_
  | with_reducible refine w_and ?_
  | with_reducible refine w_or ?_
  | with_reducible refine w_not ?_
  | with_reducible refine w_andV ?_
  | with_reducible refine w_notV ?_
  | with_reducible refine w_lst ?_
  | with_reducible refine w_for ?_
  | with_reducible refine w_rng1 ?_
  | with_reducible refine w_rng2 ?_
  | with_reducible refine w_rng3 ?_
  | with_reducible refine w_iList ?_
  | with_reducible refine w_iTup ?_
  | with_reducible refine w_iRevA ?_
  | with_reducible refine w_lc ?_
  | with_reducible refine w_drop ?_
  | with_reducible refine w_par ?_
  | ((with_reducible refine' w_aug ?h ?_); (case h => exact rfl))
  | with_reducible refine w_sl ?_
  | with_reducible refine w_noPart ?_
  | with_reducible refine w_part ?_
  | with_reducible refine w_exint ?_
  | with_reducible refine w_revL ?_
  | with_reducible refine w_bm ?_
  | with_reducible refine w_augS ?_
  | with_reducible refine w_ip ?_
  | with_reducible refine w_gSub ?_
  | with_reducible refine w_gName ?_
  | with_reducible refine w_gCons ?_
  | with_reducible refine w_gNil ?_
  | with_reducible refine w_chain ?_
  | with_reducible refine w_asgG ?_)
local macro_rules | `(tactic| walk_at "rn") => `(tactic| repeat walk_at "rn1")

variable {P : Program} {w : World} {K : PySem.W.Frag} {mg : Str → Option Value} {base : Heap}
/-! ### poly_parted -/
def subAt (g : List Int) (pt : Int) (k : Nat) (l : List Int) : Nat → List Int
  | 0 => l
  | j + 1 => (subAt g pt k l j).set (k + j) ((subAt g pt k l j).getD (k + j) 0 - pt * g.getD j 0)
theorem subAt_len {g : List Int} {pt : Int} {k : Nat} {l : List Int} : ∀ j, (subAt g pt k l j).length = l.length
  | 0 => rfl
  | j + 1 => by rw [subAt, List.length_set, subAt_len j]
def divRun (f g : List Int) : Nat → List Int × List Int
  | 0 => (f, [])
  | i + 1 => (subAt g ((divRun f g i).1.getD (f.length - g.length - i + (g.length - 1)) 0) (f.length - g.length - i) (divRun f g i).1 g.length, (divRun f g i).2 ++ [(divRun f g i).1.getD (f.length - g.length - i + (g.length - 1)) 0])
theorem divRun_len1 {f g : List Int} : ∀ i, (divRun f g i).1.length = f.length
  | 0 => rfl
  | i + 1 => by rw [divRun, subAt_len, divRun_len1 i]
theorem divRun_len2 {f g : List Int} : ∀ i, (divRun f g i).2.length = i
  | 0 => rfl
  | i + 1 => by rw [divRun, List.length_append, divRun_len2 i] <;> rfl
def divM (f g : List Int) : List Int × List Int := (cutM (divRun f g (f.length + 1 - g.length)).2.reverse, cutM ((divRun f g (f.length + 1 - g.length)).1.take (g.length - 1)))
/-- a pair -/
def IsPr (K : PySem.W.Frag) (H : Hp) (v : V) (R1 R2 : V → Prop) : Prop := ∃ p x y, v = .ref p ∧ SqT K H p [x, y] ∧ R1 x ∧ R2 y
theorem getD_get {l : List Int} {i : Nat} (h : i < l.length) : l[i]? = some (l.getD i 0) := by
  rw [List.getD_eq_getElem?_getD, List.getElem?_eq_getElem h]
  rfl
theorem map_at {l : List Int} {i : Nat} (h : i < l.length) : (l.map V.int)[i]? = some (.int (l.getD i 0)) := by
  rw [List.getElem?_map, getD_get h]
  rfl
def sp_poly_parted (K : PySem.W.Frag) : Sp := fun vs H Q _ => ∃ (p q : Addr) (f g : List Int), vs = [.ref p, .ref q] ∧ SqT K H p (f.map V.int) ∧ SqT K H q (g.map V.int) ∧ f.length ≤ 100 ∧ g.length ≤ f.length ∧ 1 ≤ g.length ∧ (∀ c ∈ g, -(2 ^ 60) < c ∧ c < 2 ^ 60) ∧
  Ret H Q fun H' v => IsPr K H' v (fun x => IsT K H' x (divM f g).1) (fun y => IsT K H' y (divM f g).2)
theorem ok_poly_parted (T : Txt K mg) (G_cut : FnOk P w K mg base CX0 1 T.cut.f T.cut.fd ["row"] (sp_cut K)) : FnOk P w K mg base CX0 2 T.poly_parted.f T.poly_parted.fd ["f", "g"] (sp_poly_parted K) := by
  refine T.poly_parted.F.ok sc_poly_parted (fun vs H Q E h => ?_) (fun cdv A outer s H vs Q E hr h => ?_)
  · obtain ⟨p, q, f, g, rfl, _⟩ := h
    rfl
  · obtain ⟨p, q, f, g, rfl, hf, hg, lf, lg, lg1, bg, k⟩ := h
    refine ⟨_, (pss_cons (ps_set (i := 2) sc_poly_parted.nd rfl (.inl rfl) (pe_op op_sub (pe_callB call_len_seq (by rfl) T.n_len (by decide +kernel) (pa_cons (pv 1) pa_nil)) pe_int))
      (pss_cons (ps_set (i := 3) sc_poly_parted.nd rfl (.inl rfl) (pe_callTy call_list_of (by rfl) T.n_list (by decide +kernel) (pa_cons (pv 0) pa_nil)))
      (pss_cons (ps_set (i := 4) sc_poly_parted.nd rfl (.inl rfl) (pe_lst pa_nil))
      (pss_cons (ps_for PassesOwn.never rfl (pi_range3 (by rfl) T.n_range (pa_cons (pe_op op_sub (pe_op op_sub (pe_callB call_len_seq (by rfl) T.n_len (by decide +kernel) (pa_cons (pv 0) pa_nil)) pe_int) (pv 2)) (pa_cons (pe_un un_neg pe_int) (pa_cons (pe_un un_neg pe_int) pa_nil)))) (pg_name (i := 5) sc_poly_parted.nd rfl (.inl rfl))
        (pss_cons (ps_set (i := 6) sc_poly_parted.nd rfl (.inl rfl) (pe_ix (r := rIxL K) ix_list (pv 3) (pe_op op_add (pv 5) (pv 2)) (fun _ _ => rfl)))
          (pss_cons (ps_expr (pe_bm PySem.F.plainAttrs_list PySem.F.slot_list_append PySem.F.type_list_append mt_append (pv 4) (pa_cons (pv 6) pa_nil)))
          (pss_one (ps_for PassesOwn.never rfl (pi_range1 (by rfl) T.n_range (pa_cons (pe_op op_add (pv 2) pe_int) pa_nil)) (pg_name (i := 7) sc_poly_parted.nd rfl (.inl rfl))
            (pss_one (ps_augS (pv 3) (pe_op op_add (pv 5) (pv 7)) get_listP (pe_op op_mul (pv 6) (pe_ix (r := rIxT K) ix_tup (pv 1) (pv 7) (fun _ _ => rfl))) ip_sub set_list)))))))
      (pss_one (ps_ret (pe_tup (pa_cons (pe_call G_cut (hr.mono (by omega)) (by rfl) T.cut.g T.cut.F.kp T.cut.b .nil pass0 (pa_cons (pe_revL (pv 4)) pa_nil)) (pa_cons (pe_call G_cut (hr.mono (by omega)) (by rfl) T.cut.g T.cut.F.kp T.cut.b .nil pass0 (pa_cons (pe_slice (r := rSlL K) sl_list (pv 3) po_none (po_some (pv 2))) pa_nil)) pa_nil))))))))), ?_⟩
    rw [show L2.start N_poly_parted [V.ref p, .ref q] = [some (.ref p), some (.ref q), none, none, none, none, none, none] from rfl]
    try dsimp only [cxOf]
    walk_at "rr"
    refine ⟨q, _, rfl, .inr hg, ?_⟩
    rw [List.length_map]
    walk_at "rr"
    refine ⟨p, _, rfl, .inr hf, fun L hL => ?_⟩
    have e1 : Ex H (upd H L (.lst (f.map V.int))) := Ex.new hL
    have hL1 : (upd H L (.lst (f.map V.int))) L = some (.lst (f.map V.int)) := upd_same
    generalize upd H L (.lst (f.map V.int)) = H1 at e1 hL1
    walk_at "rr"
    refine ⟨Nat.zero_le _, fun M hM => ?_⟩
    have hM0 : H M = none := fresh_back e1 hM
    have nLM : M ≠ L := fun z => by rw [z, hL1] at hM; cases hM
    have e2 : Ex H1 (upd H1 M (.lst [])) := Ex.new hM
    have hL2 := e2 L _ hL1
    have hM2 : (upd H1 M (.lst [])) M = some (.lst []) := upd_same
    generalize upd H1 M (.lst []) = H2 at e2 hL2 hM2
    walk_at "rr"
    refine ⟨p, _, rfl, .inr (ex_t (e1.trans e2) hf), ?_⟩
    rw [List.length_map]
    walk_at "rr"
    refine f_r3 (by omega) (by omega) (by omega) (by omega) (fun i σ' H' => ∃ y5 y6 y7, σ' = [some (.ref p), some (.ref q), some (.int ((g.length : Int) - 1)), some (.ref L), some (.ref M), y5, y6, y7] ∧ Ex H H' ∧ H' L = some (.lst ((divRun f g i).1.map V.int)) ∧ H' M = some (.lst ((divRun f g i).2.map V.int)))
      ⟨none, none, none, rfl, e1.trans e2, hL2, hM2⟩ (fun i σ' H' hi hq => ?_) (fun σ' H' hq => ?_)
    · obtain ⟨y5, y6, y7, rfl, e, h1, h2⟩ := hq
      have l1 := divRun_len1 (f := f) (g := g) i
      have l2 := divRun_len2 (f := f) (g := g) i
      have eat : (f.length : Int) - 1 - ((g.length : Int) - 1) - (i : Int) = ((f.length - g.length - i : Nat) : Int) := by omega
      rw [eat]
      have eat2 : ((f.length - g.length - i : Nat) : Int) + ((g.length : Int) - 1) = ((f.length - g.length - i + (g.length - 1) : Nat) : Int) := by omega
      have hb : f.length - g.length - i + g.length ≤ f.length := by omega
      walk_at "rr"
      rw [eat2]
      refine w_ixLn (.inl (.inl h1)) (atI_nat (getD_get (by omega))) ?_
      have en : (divRun f g (i + 1)) = (subAt g ((divRun f g i).1.getD (f.length - g.length - i + (g.length - 1)) 0) (f.length - g.length - i) (divRun f g i).1 g.length, (divRun f g i).2 ++ [(divRun f g i).1.getD (f.length - g.length - i + (g.length - 1)) 0]) := rfl
      generalize (divRun f g i).1.getD (f.length - g.length - i + (g.length - 1)) 0 = pt at en
      generalize f.length - g.length - i = at' at en hb
      generalize (divRun f g i).1 = lft at en h1 l1
      generalize (divRun f g i).2 = quo at en h2 l2
      walk_at "rr"
      refine w_tyL h2 ?_
      walk_at "rr"
      refine w_append h2 (by rw [List.length_map]; omega) ?_
      have e3 : Ex H (upd H' M (.lst (quo.map V.int ++ [.int pt]))) := Ex.mut e hM0
      have h3 : (upd H' M (.lst (quo.map V.int ++ [.int pt]))) L = some (.lst (lft.map V.int)) := by rw [upd_ne nLM.symm]; exact h1
      have h4 : (upd H' M (.lst (quo.map V.int ++ [.int pt]))) M = some (.lst ((quo ++ [pt]).map V.int)) := by rw [upd_same, List.map_append]; rfl
      generalize upd H' M (.lst (quo.map V.int ++ [.int pt])) = H3 at e3 h3 h4
      walk_at "rr"
      refine f_r1 (by omega) (by omega) (fun j σ' H' => ∃ y7, σ' = [some (.ref p), some (.ref q), some (.int ((g.length : Int) - 1)), some (.ref L), some (.ref M), some (.int (at' : Int)), some (.int pt), y7] ∧ Ex H H' ∧ H' L = some (.lst ((subAt g pt at' lft j).map V.int)) ∧ H' M = some (.lst ((quo ++ [pt]).map V.int)))
        ⟨y7, rfl, e3, h3, h4⟩ (fun j σ' H' hj hq => ?_) (fun σ' H' hq => ?_)
      · obtain ⟨y7, rfl, e, h1, h2⟩ := hq
        have l3 := subAt_len (g := g) (pt := pt) (k := at') (l := lft) j
        walk_at "rr"
        rw [show (at' : Int) + (j : Int) = ((at' + j : Nat) : Int) by omega]
        refine w_getL (.inl (.inl h1)) (map_at (by omega)) ?_
        walk_at "rr"
        have bgj : -(2 ^ 60) < g.getD j 0 ∧ g.getD j 0 < 2 ^ 60 := bg _ (List.mem_of_getElem? (getD_get (show j < g.length by omega)))
        refine w_ixTn (ex_t e hg) (atI_nat (getD_get (show j < g.length by omega))) ?_
        refine w_I (w_CMul2 (by omega) (by omega)) ?_
        walk_at "rr"
        refine w_setL h1 (by rw [List.length_map]; omega) ?_
        refine ⟨some (.int j), rfl, Ex.mut e hL, ?_, ?_⟩
        · rw [upd_same, subAt, List.map_set]
        · rw [upd_ne nLM]
          exact h2
      · obtain ⟨y7, rfl, e, h1, h2⟩ := hq
        rw [show ((g.length : Int) - 1 + 1).toNat = g.length by omega] at h1
        refine ⟨_, _, _, rfl, e, ?_, ?_⟩
        · rw [en]
          exact h1
        · rw [en]
          exact h2
    · obtain ⟨y5, y6, y7, rfl, e, h1, h2⟩ := hq
      rw [show ((f.length : Int) - 1 - ((g.length : Int) - 1) - -1).toNat = f.length + 1 - g.length by omega] at h1 h2
      have l1 := divRun_len1 (f := f) (g := g) (f.length + 1 - g.length)
      have l2 := divRun_len2 (f := f) (g := g) (f.length + 1 - g.length)
      walk_at "rr"
      refine ⟨M, _, rfl, .inl (.inl h2), fun N hN => ?_⟩
      walk_at "rr"
      refine ⟨N, (divRun f g (f.length + 1 - g.length)).2.reverse, rfl, .inl (.inl (by rw [upd_same, List.map_reverse])), by rw [List.length_reverse]; omega, fun v1 H3 e3 r1 => ?_⟩
      walk_at "rr"
      refine ⟨L, _, rfl, ex_l ((Ex.new hN).trans e3) (.inl (.inl h1)), fun N2 hN2 => ?_⟩
      rw [show (g.length : Int) - 1 = ((g.length - 1 : Nat) : Int) by omega]
      rw [cutV_to _ (by rw [List.length_map]; omega), ← List.map_take]
      refine ⟨N2, (divRun f g (f.length + 1 - g.length)).1.take (g.length - 1), rfl, .inl (.inl upd_same), by rw [List.length_take]; omega, fun v2 H4 e4 r2 => ?_⟩
      walk_at "rr"
      refine ⟨by show 2 ≤ sizeLine; decide, fun N3 hN3 => ?_⟩
      exact k _ _ (e.trans ((Ex.new hN).trans (e3.trans ((Ex.new hN2).trans (e4.trans (Ex.new hN3)))))) ⟨N3, v1, v2, rfl, .inl (.inl upd_same), r1.ex ((Ex.new hN2).trans (e4.trans (Ex.new hN3))), r2.ex (Ex.new hN3)⟩
end
end RH

set_option Elab.async false
set_option linter.all false
set_option maxRecDepth 100000
set_option maxHeartbeats 4000000
namespace RH
open PySem PySem.Spec PyProof.Rows L2 Evl
section
local macro_rules | `(tactic| walk_at "rs") => `(tactic| first
  | with_reducible refine w_seq ?_
  | with_reducible refine w_asg ?_
  | ((with_reducible refine' w_var ?h ?_); (case h => exact rfl))
  | with_reducible refine w_c ?_
  | with_reducible refine w_op ?_
  | with_reducible refine w_I0 ?_
  | with_reducible refine w_cb ?_
  | with_reducible refine w_cons ?_
  | with_reducible refine w_nil ?_
  | with_reducible refine w_ret ?_
  | with_reducible refine w_call ?_
  | with_reducible refine w_if ?_
  | with_reducible refine w_test ?_
  | with_reducible refine w_exbl ?_
  | with_reducible refine w_eqI ?_
  | with_reducible refine w_neI ?_
  | with_reducible refine w_next ?_
  | with_reducible refine w_un ?_
  | with_reducible refine w_U ?_
  | with_reducible refine w_B ?_
  | with_reducible refine w_and ?_
  | with_reducible refine w_or ?_
  | with_reducible refine w_not ?_
  | with_reducible refine w_andV ?_
  | with_reducible refine w_notV ?_
  | with_reducible refine w_tup ?_
  | with_reducible refine w_lst ?_
  | with_reducible refine w_for ?_
  | with_reducible refine w_rng1 ?_
  | with_reducible refine w_rng2 ?_
  | with_reducible refine w_rng3 ?_
  | with_reducible refine w_iList ?_
  | with_reducible refine w_iTup ?_
  | with_reducible refine w_iRevA ?_
  | with_reducible refine w_lc ?_
  | with_reducible refine w_drop ?_
  | with_reducible refine w_par ?_
  | ((with_reducible refine' w_aug ?h ?_); (case h => exact rfl))
  | with_reducible refine w_sl ?_
  | with_reducible refine w_noPart ?_
  | with_reducible refine w_part ?_
  | with_reducible refine w_exint ?_
  | with_reducible refine w_revL ?_
  | with_reducible refine w_bm ?_
  | with_reducible refine w_augS ?_
  | with_reducible refine w_ip ?_
  | with_reducible refine w_gSub ?_
  | with_reducible refine w_gName ?_
  | with_reducible refine w_gCons ?_
  | with_reducible refine w_gNil ?_
  | with_reducible refine w_chain ?_
  | with_reducible refine w_asgG ?_)
local macro_rules | `(tactic| walk_at "rr") => `(tactic| repeat walk_at "rs")
local macro_rules | `(tactic| walk_at "rn1") => `(tactic| first
  | with_reducible refine w_seq ?_
  | with_reducible refine w_asg ?_
  | ((with_reducible refine' w_var ?h ?_); (case h => exact rfl))
  | with_reducible refine w_c ?_
  | with_reducible refine w_op ?_
  | with_reducible refine w_I0 ?_
  | with_reducible refine w_cb ?_
  | with_reducible refine w_cons ?_
  | with_reducible refine w_nil ?_
  | with_reducible refine w_ret ?_
  | with_reducible refine w_call ?_
  | with_reducible refine w_if ?_
  | with_reducible refine w_test ?_
  | with_reducible refine w_exbl ?_
  | with_reducible refine w_eqI ?_
  | with_reducible refine w_neI ?_
  | with_reducible refine w_next ?_
  | with_reducible refine w_un ?_
  | with_reducible refine w_U ?_
  | with_reducible refine w_B ?_
  | with_reducible refine w_and ?_
  | with_reducible refine w_or ?_
  | with_reducible refine w_not ?_
  | with_reducible refine w_andV ?_
  | with_reducible refine w_notV ?_
  | with_reducible refine w_lst ?_
  | with_reducible refine w_for ?_
  | with_reducible refine w_rng1 ?_
  | with_reducible refine w_rng2 ?_
  | with_reducible refine w_rng3 ?_
  | with_reducible refine w_iList ?_
  | with_reducible refine w_iTup ?_
  | with_reducible refine w_iRevA ?_
  | with_reducible refine w_lc ?_
  | with_reducible refine w_drop ?_
  | with_reducible refine w_par ?_
  | ((with_reducible refine' w_aug ?h ?_); (case h => exact rfl))
  | with_reducible refine w_sl ?_
  | with_reducible refine w_noPart ?_
  | with_reducible refine w_part ?_
  | with_reducible refine w_exint ?_
  | with_reducible refine w_revL ?_
  | with_reducible refine w_bm ?_
  | with_reducible refine w_augS ?_
  | with_reducible refine w_ip ?_
  | with_reducible refine w_gSub ?_
  | with_reducible refine w_gName ?_
  | with_reducible refine w_gCons ?_
  | with_reducible refine w_gNil ?_
  | with_reducible refine w_chain ?_
  | with_reducible refine w_asgG ?_)
local macro_rules | `(tactic| walk_at "rn") => `(tactic| repeat walk_at "rn1")

variable {P : Program} {w : World} {K : PySem.W.Frag} {mg : Str → Option Value} {base : Heap}
/-! ### whole_root -/
theorem evalP_cons (c : Int) (cs : List Int) (x : Int) : evalP (c :: cs) x = evalP cs x * x + c := rfl
theorem root_dvd {c : Int} {cs : List Int} {r : Int} (h : evalP (c :: cs) r = 0) : r ∣ c := by
  rw [evalP_cons] at h
  exact ⟨-(evalP cs r), by rw [Int.mul_neg, Int.mul_comm]; omega⟩
theorem dvd_bound {r c : Int} (h : r ∣ c) (h0 : c ≠ 0) : r.natAbs ≤ c.natAbs := Nat.le_of_dvd (by omega) (Int.natAbs_dvd_natAbs.mpr h)
def sp_whole_root (K : PySem.W.Frag) : Sp := fun vs H Q _ => ∃ (p : Addr) (c : Int) (cs : List Int), vs = [.ref p] ∧ SqT K H p ((c :: cs).map V.int) ∧ -499 ≤ c ∧ c ≤ 499 ∧
  Ret H Q fun _ v => (v = .non ∧ ∀ r, evalP (c :: cs) r ≠ 0) ∨ ∃ r : Int, v = .int r ∧ -499 ≤ r ∧ r ≤ 499 ∧ evalP (c :: cs) r = 0
theorem ok_whole_root (T : Txt K mg) (G_poly_at : FnOk P w K mg base CX0 1 T.poly_at.f T.poly_at.fd ["f", "x"] (sp_poly_at K)) : FnOk P w K mg base CX0 2 T.whole_root.f T.whole_root.fd ["poly"] (sp_whole_root K) := by
  refine T.whole_root.F.ok sc_whole_root (fun vs H Q E h => ?_) (fun cdv A outer s H vs Q E hr h => ?_)
  · obtain ⟨p, c, cs, rfl, _⟩ := h
    rfl
  · obtain ⟨p, c, cs, rfl, hx, b1, b2, k⟩ := h
    refine ⟨_, (pss_cons (ps_set (i := 1) sc_whole_root.nd rfl (.inl rfl) (pe_callB call_abs (by rfl) T.n_abs (by decide +kernel) (pa_cons (pe_ix (r := rIxT K) ix_tup (pv 0) pe_int (fun _ _ => rfl)) pa_nil)))
      (pss_cons (ps_if (pt_cmpR op_eq (pv 1) pe_int (nomark _))
        (pss_one (ps_ret pe_int))
        pss_nil)
      (pss_cons (ps_for PassesOwn.never rfl (pi_range2 (by rfl) T.n_range (pa_cons pe_int (pa_cons (pe_op op_add (pv 1) pe_int) pa_nil))) (pg_name (i := 2) sc_whole_root.nd rfl (.inl rfl))
        (pss_one (ps_if (pt_cmpR op_eq (pe_op op_mod (pv 1) (pv 2)) pe_int (nomark _))
            (pss_cons (ps_if (pt_cmpR op_eq (pe_call G_poly_at (hr.mono (by omega)) (by rfl) T.poly_at.g T.poly_at.F.kp T.poly_at.b .nil pass0 (pa_cons (pv 0) (pa_cons (pv 2) pa_nil))) pe_int (nomark _))
                (pss_one (ps_ret (pv 2)))
                pss_nil)
              (pss_one (ps_if (pt_cmpR op_eq (pe_call G_poly_at (hr.mono (by omega)) (by rfl) T.poly_at.g T.poly_at.F.kp T.poly_at.b .nil pass0 (pa_cons (pv 0) (pa_cons (pe_un un_neg (pv 2)) pa_nil))) pe_int (nomark _))
                (pss_one (ps_ret (pe_un un_neg (pv 2))))
                pss_nil)))
            pss_nil)))
      (pss_one (ps_ret pe_non))))), ?_⟩
    rw [show L2.start N_whole_root [V.ref p] = [some (.ref p), none, none] from rfl]
    try dsimp only [cxOf]
    walk_at "rr"
    refine w_ixTn hx (atI_nat (j := 0) rfl) ?_
    walk_at "rr"
    refine ⟨_, rfl, ?_⟩
    rw [show (if c < 0 then -c else c) = ((c.natAbs : Nat) : Int) by split <;> omega]
    walk_at "rr"
    refine w_ite (fun h0 => ?_) (fun h0 => ?_)
    · walk_at "rr"
      refine k _ _ (Ex.refl H) (.inr ⟨0, rfl, by omega, by omega, ?_⟩)
      rw [evalP_cons]
      omega
    · walk_at "rr"
      refine f_r2 (by omega) (by omega) (by omega) (by omega) (fun i σ' H' => ∃ y, σ' = [some (.ref p), some (.int ((c.natAbs : Nat) : Int)), y] ∧ Ex H H' ∧ ∀ r : Int, r.natAbs ≤ i → evalP (c :: cs) r ≠ 0)
        ⟨none, rfl, Ex.refl H, fun r hr h => ?_⟩ (fun i σ' H' hi hq => ?_) (fun σ' H' hq => ?_)
      · have e : r = 0 := by omega
        subst e
        rw [evalP_cons] at h
        omega
      · obtain ⟨y, rfl, e, hn⟩ := hq
        have hno : ¬ ((1 + (i : Int)) ∣ c) ∨ (evalP (c :: cs) (1 + (i : Int)) ≠ 0 ∧ evalP (c :: cs) (-(1 + (i : Int))) ≠ 0) → ∀ r : Int, r.natAbs ≤ i + 1 → evalP (c :: cs) r ≠ 0 := by
          intro hh r hr h
          by_cases hri : r.natAbs ≤ i
          · exact hn r hri h
          · have e2 : r = 1 + (i : Int) ∨ r = -(1 + (i : Int)) := by omega
            have hd := root_dvd h
            rcases hh with hh | hh
            · rcases e2 with e2 | e2
              · rw [e2] at hd; exact hh hd
              · rw [e2] at hd; exact hh (Int.neg_dvd.mp hd)
            · rcases e2 with e2 | e2
              · rw [e2] at h; exact hh.1 h
              · rw [e2] at h; exact hh.2 h
        walk_at "rr"
        refine w_I (show (0 : Int) < 1 + (i : Int) by omega) ?_
        walk_at "rr"
        refine w_ite (fun hd => ?_) (fun hd => ?_)
        · walk_at "rr"
          refine ⟨p, c :: cs, 1 + (i : Int), rfl, ex_t e hx, ⟨by omega, by omega⟩, fun v H1 e1 r1 => ?_⟩
          subst r1
          walk_at "rr"
          refine w_ite (fun h1 => ?_) (fun h1 => ?_)
          · walk_at "rr"
            exact k _ _ (e.trans e1) (.inr ⟨_, rfl, by omega, by omega, h1⟩)
          · walk_at "rr"
            refine ⟨p, c :: cs, -(1 + (i : Int)), rfl, ex_t (e.trans e1) hx, ⟨by omega, by omega⟩, fun v H2 e2 r2 => ?_⟩
            subst r2
            walk_at "rr"
            refine w_ite (fun h2 => ?_) (fun h2 => ?_)
            · walk_at "rr"
              exact k _ _ (e.trans (e1.trans e2)) (.inr ⟨_, rfl, by omega, by omega, h2⟩)
            · walk_at "rr"
              exact ⟨_, rfl, e.trans (e1.trans e2), hno (.inr ⟨h1, h2⟩)⟩
        · walk_at "rr"
          refine ⟨_, rfl, e, hno (.inl fun z => hd ?_)⟩
          exact Int.emod_eq_zero_of_dvd (Int.dvd_natAbs.mpr z)
      · obtain ⟨y, rfl, e, hn⟩ := hq
        walk_at "rr"
        refine k _ _ e (.inl ⟨rfl, fun r h => ?_⟩)
        refine hn r ?_ h
        have := dvd_bound (root_dvd h) (by omega)
        omega
/-! ### pair_by -/
/-- x^4 + c3 x^3 + .. is (x^2 + a x + b)(x^2 + c x + d) -/
structure Fact (c0 c1 c2 c3 a b c d : Int) : Prop where
  f0 : c0 = b * d
  f1 : c1 = a * d + c * b
  f2 : c2 = b + d + a * c
  f3 : c3 = a + c
theorem mul_bound {a b A B : Int} (ha : -A ≤ a ∧ a ≤ A) (hb : -B ≤ b ∧ b ≤ B) : -(A * B) ≤ a * b ∧ a * b ≤ A * B := by
  have h1 : (a * b).natAbs = a.natAbs * b.natAbs := Int.natAbs_mul a b
  have h2 : a.natAbs * b.natAbs ≤ A.toNat * B.toNat := Nat.mul_le_mul (by omega) (by omega)
  have h3 : ((A.toNat * B.toNat : Nat) : Int) = A * B := by
    rw [Int.natCast_mul, Int.toNat_of_nonneg (by omega), Int.toNat_of_nonneg (by omega)]
  omega
def sp_pair_by (K : PySem.W.Frag) : Sp := fun vs H Q _ => ∃ (p : Addr) (c0 c1 c2 c3 b d : Int), vs = [.ref p, .int b] ∧ SqT K H p ([c0, c1, c2, c3, 1].map V.int) ∧ (-499 ≤ c0 ∧ c0 ≤ 499) ∧ (-499 ≤ c1 ∧ c1 ≤ 499) ∧ (-499 ≤ c2 ∧ c2 ≤ 499) ∧ (-499 ≤ c3 ∧ c3 ≤ 499) ∧ c0 = b * d ∧ c0 ≠ 0 ∧
  Ret H Q fun H' v => (v = .non ∧ ∀ a c d, ¬ Fact c0 c1 c2 c3 a b c d) ∨ (IsPr K H' v (fun _ => True) (fun _ => True) ∧ ∃ a c d, Fact c0 c1 c2 c3 a b c d)
theorem fmod_zero {x y : Int} (h : y ∣ x) : x.fmod y = 0 := Int.fmod_eq_zero_of_dvd h
theorem fdiv_at {x y k : Int} (hy : y ≠ 0) (h : x = k * y) : x.fdiv y = k := by rw [h]; exact Int.mul_fdiv_cancel k hy
theorem ok_pair_by (T : Txt K mg) (G_root : FnOk P w K mg base CX0 1 T.root.f T.root.fd ["m"] sp_root) : FnOk P w K mg base CX0 2 T.pair_by.f T.pair_by.fd ["poly", "b"] (sp_pair_by K) := by
  refine T.pair_by.F.ok sc_pair_by (fun vs H Q E h => ?_) (fun cdv A outer s H vs Q E hr h => ?_)
  · obtain ⟨p, c0, c1, c2, c3, b, d, rfl, _⟩ := h
    rfl
  · obtain ⟨p, c0, c1, c2, c3, b, d, rfl, hx, b0, b1, b2, b3, h0, hn0, k⟩ := h
    have hb0 : b ≠ 0 := fun z => by rw [z, Int.zero_mul] at h0; exact hn0 h0
    have hd0 : d ≠ 0 := fun z => by rw [z, Int.mul_zero] at h0; exact hn0 h0
    have lb : b.natAbs ≤ c0.natAbs := dvd_bound ⟨d, h0⟩ hn0
    have ld : d.natAbs ≤ c0.natAbs := dvd_bound ⟨b, by rw [Int.mul_comm]; exact h0⟩ hn0
    have hdu : ∀ a c d', Fact c0 c1 c2 c3 a b c d' → d' = d := fun a c d' F => Int.eq_of_mul_eq_mul_left hb0 (F.f0.symm.trans h0)
    have m1 := mul_bound (a := b) (b := c3) (A := 499) (B := 499) (by omega) (by omega)
    refine ⟨_, (pss_cons (ps_set (i := 2) sc_pair_by.nd rfl (.inl rfl) (pe_op op_fdivN (pe_ix (r := rIxT K) ix_tup (pv 0) pe_int (fun _ _ => rfl)) (pv 1)))
      (pss_cons (ps_set (i := 3) sc_pair_by.nd rfl (.inl rfl) (pe_op op_sub (pe_op op_sub (pe_ix (r := rIxT K) ix_tup (pv 0) pe_int (fun _ _ => rfl)) (pv 1)) (pv 2)))
      (pss_cons (ps_if (pt_cmpR op_ne (pv 1) (pv 2) (nomark _))
        (pss_cons (ps_set (i := 4) sc_pair_by.nd rfl (.inl rfl) (pe_op op_sub (pe_ix (r := rIxT K) ix_tup (pv 0) pe_int (fun _ _ => rfl)) (pe_op op_mul (pv 1) (pe_ix (r := rIxT K) ix_tup (pv 0) pe_int (fun _ _ => rfl)))))
          (pss_cons (ps_if (pt_cmpR op_ne (pe_op op_modN (pv 4) (pe_op op_sub (pv 2) (pv 1))) pe_int (nomark _))
            (pss_one (ps_ret pe_non))
            pss_nil)
          (pss_cons (ps_set (i := 5) sc_pair_by.nd rfl (.inl rfl) (pe_op op_fdivN (pv 4) (pe_op op_sub (pv 2) (pv 1))))
          (pss_cons (ps_if (pt_cmpR op_ne (pe_op op_mul (pv 5) (pe_op op_sub (pe_ix (r := rIxT K) ix_tup (pv 0) pe_int (fun _ _ => rfl)) (pv 5))) (pv 3) (nomark _))
            (pss_one (ps_ret pe_non))
            pss_nil)
          (pss_one (ps_ret (pe_tup (pa_cons (pe_tup (pa_cons (pv 1) (pa_cons (pv 5) (pa_cons pe_int pa_nil)))) (pa_cons (pe_tup (pa_cons (pv 2) (pa_cons (pe_op op_sub (pe_ix (r := rIxT K) ix_tup (pv 0) pe_int (fun _ _ => rfl)) (pv 5)) (pa_cons pe_int pa_nil)))) pa_nil)))))))))
        pss_nil)
      (pss_cons (ps_if (pt_cmpR op_ne (pe_ix (r := rIxT K) ix_tup (pv 0) pe_int (fun _ _ => rfl)) (pe_op op_mul (pv 1) (pe_ix (r := rIxT K) ix_tup (pv 0) pe_int (fun _ _ => rfl))) (nomark _))
        (pss_one (ps_ret pe_non))
        pss_nil)
      (pss_cons (ps_set (i := 6) sc_pair_by.nd rfl (.inl rfl) (pe_op op_sub (pe_op op_mul (pe_ix (r := rIxT K) ix_tup (pv 0) pe_int (fun _ _ => rfl)) (pe_ix (r := rIxT K) ix_tup (pv 0) pe_int (fun _ _ => rfl))) (pe_op op_mul pe_int (pv 3))))
      (pss_cons (ps_if (PW.pt (pw_or (pt_cmpR op_lt (pv 6) pe_int (nomark _)) (pw_or1 (pt_cmpR op_ne (pe_op op_mul (pe_call G_root (hr.mono (by omega)) (by rfl) T.root.g T.root.F.kp T.root.b .nil pass0 (pa_cons (pv 6) pa_nil)) (pe_call G_root (hr.mono (by omega)) (by rfl) T.root.g T.root.F.kp T.root.b .nil pass0 (pa_cons (pv 6) pa_nil))) (pv 6) (nomark _)))))
        (pss_one (ps_ret pe_non))
        pss_nil)
      (pss_cons (ps_set (i := 5) sc_pair_by.nd rfl (.inl rfl) (pe_op op_fdiv (pe_op op_add (pe_ix (r := rIxT K) ix_tup (pv 0) pe_int (fun _ _ => rfl)) (pe_call G_root (hr.mono (by omega)) (by rfl) T.root.g T.root.F.kp T.root.b .nil pass0 (pa_cons (pv 6) pa_nil))) pe_int))
      (pss_one (ps_ret (pe_tup (pa_cons (pe_tup (pa_cons (pv 1) (pa_cons (pv 5) (pa_cons pe_int pa_nil)))) (pa_cons (pe_tup (pa_cons (pv 2) (pa_cons (pe_op op_sub (pe_ix (r := rIxT K) ix_tup (pv 0) pe_int (fun _ _ => rfl)) (pv 5)) (pa_cons pe_int pa_nil)))) pa_nil)))))))))))), ?_⟩
    rw [show L2.start N_pair_by [V.ref p, .int b] = [some (.ref p), some (.int b), none, none, none, none, none] from rfl]
    try dsimp only [cxOf]
    have i0 : atI [c0, c1, c2, c3, 1] 0 = some c0 := rfl
    have i1 : atI [c0, c1, c2, c3, 1] 1 = some c1 := rfl
    have i2 : atI [c0, c1, c2, c3, 1] 2 = some c2 := rfl
    have i3 : atI [c0, c1, c2, c3, 1] 3 = some c3 := rfl
    walk_at "rr"
    refine w_ixTn hx i0 ?_
    walk_at "rr"
    refine w_I (show CDivN _ _ from ⟨hb0, by omega⟩) ?_
    rw [fdiv_at hb0 (by rw [Int.mul_comm]; exact h0)]
    walk_at "rr"
    refine w_ixTn hx i2 ?_
    walk_at "rr"
    refine w_iteN (fun hne => ?_) (fun he => ?_)
    · walk_at "rr"
      refine w_ixTn hx i1 ?_
      walk_at "rr"
      refine w_ixTn hx i3 ?_
      refine w_I (w_CMul2 (by omega) (by omega)) ?_
      walk_at "rr"
      refine w_I (show d - b ≠ 0 by omega) ?_
      walk_at "rr"
      refine w_iteN (fun hm => ?_) (fun hm => ?_)
      · walk_at "rr"
        refine k _ _ (Ex.refl H) (.inl ⟨rfl, fun a c d' F => hm ?_⟩)
        have ed := hdu a c d' F
        subst ed
        refine fmod_zero ⟨a, ?_⟩
        rw [F.f1, F.f3, Int.mul_add, Int.sub_mul, Int.mul_comm c b, Int.mul_comm a d', Int.mul_comm b a]
        omega
      · walk_at "rr"
        refine w_I (show CDivN _ _ from ⟨by omega, by omega⟩) ?_
        obtain ⟨a, ha⟩ := Int.dvd_of_fmod_eq_zero hm
        rw [fdiv_at (k := a) (by omega) (by rw [ha, Int.mul_comm])]
        have la : a.natAbs ≤ 300000 := by
          by_cases hz : c1 - b * c3 = 0
          · rw [hz] at ha
            rcases Int.mul_eq_zero.mp ha.symm with q | q
            · omega
            · omega
          · have := dvd_bound (r := a) (c := c1 - b * c3) ⟨d - b, by rw [ha, Int.mul_comm]⟩ hz
            omega
        walk_at "rr"
        refine w_ixTn hx i3 ?_
        walk_at "rr"
        refine w_I (w_CMul1 (by omega) (by omega)) ?_
        walk_at "rr"
        have hau : ∀ a' c' , Fact c0 c1 c2 c3 a' b c' d → a' = a ∧ c' = c3 - a := by
          intro a' c' F
          have e1 : (d - b) * a' = (d - b) * a := by
            rw [← ha, F.f1, F.f3, Int.mul_add, Int.sub_mul, Int.mul_comm c' b, Int.mul_comm a' d, Int.mul_comm b a']
            omega
          have e2 : a' = a := Int.eq_of_mul_eq_mul_left (by omega) e1
          exact ⟨e2, by rw [← e2, F.f3]; omega⟩
        refine w_iteN (fun h2 => ?_) (fun h2 => ?_)
        · walk_at "rr"
          refine k _ _ (Ex.refl H) (.inl ⟨rfl, fun a' c' d' F => h2 ?_⟩)
          have ed := hdu a' c' d' F
          subst ed
          obtain ⟨rfl, rfl⟩ := hau a' c' F
          rw [F.f2]
          omega
        · walk_at "rr"
          refine ⟨by show 3 ≤ sizeLine; decide, fun q1 n1 => ?_⟩
          walk_at "rr"
          refine w_ixTn (ex_t (Ex.new n1) hx) i3 ?_
          walk_at "rr"
          refine ⟨by show 3 ≤ sizeLine; decide, fun q2 n2 => ?_⟩
          walk_at "rr"
          refine ⟨by show 2 ≤ sizeLine; decide, fun q3 n3 => ?_⟩
          refine k _ _ ((Ex.new n1).trans ((Ex.new n2).trans (Ex.new n3))) (.inr ⟨⟨q3, _, _, rfl, .inl (.inl upd_same), trivial, trivial⟩, a, c3 - a, d, h0, ?_, by omega, by omega⟩)
          rw [Int.sub_mul] at ha
          rw [Int.sub_mul, Int.mul_comm a d, Int.mul_comm c3 b, Int.mul_comm a b]
          omega
    · walk_at "rr"
      refine w_ixTn hx i1 ?_
      walk_at "rr"
      refine w_ixTn hx i3 ?_
      refine w_I (w_CMul2 (by omega) (by omega)) ?_
      walk_at "rr"
      subst he
      refine w_iteN (fun h1 => ?_) (fun h1 => ?_)
      · walk_at "rr"
        refine k _ _ (Ex.refl H) (.inl ⟨rfl, fun a c d' F => h1 ?_⟩)
        have ed := hdu a c d' F
        subst ed
        rw [F.f1, F.f3, Int.mul_add, Int.mul_comm a d', Int.mul_comm c d']
      · walk_at "rr"
        refine w_ixTn hx i3 ?_
        walk_at "rr"
        refine w_ixTn hx i3 ?_
        refine w_I (w_CMul2 (by omega) (by omega)) ?_
        walk_at "rr"
        refine w_I (w_CMul1 (by omega) (by omega)) ?_
        walk_at "rr"
        have m2 := mul_bound (a := c3) (b := c3) (A := 499) (B := 499) (by omega) (by omega)
        have hF : ∀ a c, Fact c0 c1 c2 c3 a b c b → c3 * c3 - 4 * (c2 - b - b) = (a - c) * (a - c) := by
          intro a c F
          rw [F.f2, F.f3]
          grind
        refine w_ite (fun h2 => ?_) (fun h2 => ?_)
        · refine iteT ?_
          walk_at "rr"
          refine k _ _ (Ex.refl H) (.inl ⟨rfl, fun a c d' F => ?_⟩)
          have ed := hdu a c d' F
          subst ed
          rw [hF a c F] at h2
          have : 0 ≤ (a - c) * (a - c) := by
            rcases Int.le_total 0 (a - c) with q | q
            · exact Int.mul_nonneg q q
            · exact Int.mul_nonneg_of_nonpos_of_nonpos q q
          omega
        · walk_at "rr"
          refine ⟨_, rfl, by omega, by omega, fun v1 H1 e1 r1 => ?_⟩
          obtain ⟨r, rfl, r0, r1, r2, r3⟩ := r1
          walk_at "rr"
          refine ⟨_, rfl, by omega, by omega, fun v1 H2 e2 r1 => ?_⟩
          obtain ⟨r', rfl, s0, s1, s2, s3⟩ := r1
          have er : r' = r := by
            rcases Int.lt_trichotomy r r' with q | q | q
            · have := sq_le (x := r + 1) (y := r') (by omega) (by omega)
              omega
            · exact q.symm
            · have := sq_le (x := r' + 1) (y := r) (by omega) (by omega)
              omega
          subst er
          walk_at "rr"
          refine w_I (w_CMul1 (by omega) (by omega)) ?_
          walk_at "rr"
          refine w_iteN (fun h3 => ?_) (fun h3 => ?_)
          · walk_at "rr"
            refine k _ _ (e1.trans e2) (.inl ⟨rfl, fun a c d' F => h3 ?_⟩)
            have ed := hdu a c d' F
            subst ed
            have q := hF a c F
            rw [q] at r2 r3 ⊢
            have q2 : (a - c) * (a - c) = ((a - c).natAbs : Int) * ((a - c).natAbs : Int) := by
              rcases Int.le_total 0 (a - c) with z | z
              · rw [show ((a - c).natAbs : Int) = a - c by omega]
              · rw [show ((a - c).natAbs : Int) = -(a - c) by omega, Int.neg_mul_neg]
            rw [q2] at r2 r3 ⊢
            have er : ((a - c).natAbs : Int) = r' := by
              rcases Int.lt_trichotomy r' ((a - c).natAbs : Int) with q | q | q
              · have := sq_le (x := r' + 1) (y := ((a - c).natAbs : Int)) (by omega) (by omega)
                omega
              · exact q.symm
              · have := sq_lt (x := ((a - c).natAbs : Int)) (y := r') (by omega) (by omega)
                omega
            rw [er]
          · walk_at "rr"
            refine w_ixTn (ex_t (e1.trans e2) hx) i3 ?_
            walk_at "rr"
            refine ⟨_, rfl, by omega, by omega, fun v1 H3 e3 r1 => ?_⟩
            obtain ⟨r, rfl, t0, t1, t2, t3⟩ := r1
            have er : r = r' := by
              rcases Int.lt_trichotomy r r' with q | q | q
              · have := sq_le (x := r + 1) (y := r') (by omega) (by omega)
                omega
              · exact q
              · have := sq_le (x := r' + 1) (y := r) (by omega) (by omega)
                omega
            subst er
            walk_at "rr"
            refine w_I (show CDiv _ _ from ⟨by decide, by decide⟩) ?_
            walk_at "rr"
            refine ⟨by show 3 ≤ sizeLine; decide, fun q1 n1 => ?_⟩
            walk_at "rr"
            refine w_ixTn (ex_t (e1.trans (e2.trans (e3.trans (Ex.new n1)))) hx) i3 ?_
            walk_at "rr"
            refine ⟨by show 3 ≤ sizeLine; decide, fun q2 n2 => ?_⟩
            walk_at "rr"
            refine ⟨by show 2 ≤ sizeLine; decide, fun q3 n3 => ?_⟩
            have par : ∃ u, c3 + r = 2 * u := by
              have h4 : (c3 + r) * (c3 - r) = 4 * (c2 - b - b) := by
                rw [Int.mul_sub, Int.add_mul, Int.add_mul, Int.mul_comm r c3]
                omega
              by_cases hp : (c3 + r) % 2 = 0
              · exact ⟨(c3 + r) / 2, by omega⟩
              · exfalso
                obtain ⟨u, hu⟩ : ∃ u, c3 + r = 2 * u + 1 := ⟨(c3 + r) / 2, by omega⟩
                have hu2 : c3 - r = 2 * (u - r) + 1 := by omega
                rw [hu, hu2, Int.mul_add, Int.add_mul, Int.mul_assoc] at h4
                omega
            obtain ⟨u, hu⟩ := par
            have eu : (c3 + r) / 2 = u := by omega
            refine k _ _ (e1.trans (e2.trans (e3.trans ((Ex.new n1).trans ((Ex.new n2).trans (Ex.new n3)))))) (.inr ⟨⟨q3, _, _, rfl, .inl (.inl upd_same), trivial, trivial⟩, u, c3 - u, b, h0, ?_, ?_, by omega⟩)
            · grind
            · grind
end
end RH

set_option Elab.async false
set_option linter.all false
set_option maxRecDepth 100000
set_option maxHeartbeats 4000000
namespace RH
open PySem PySem.Spec PyProof.Rows L2 Evl
section
local macro_rules | `(tactic| walk_at "rs") => `(tactic| first
  | with_reducible refine w_seq ?_
  | with_reducible refine w_asg ?_
  | ((with_reducible refine' w_var ?h ?_); (case h => exact rfl))
  | with_reducible refine w_c ?_
  | with_reducible refine w_op ?_
  | with_reducible refine w_I0 ?_
  | with_reducible refine w_cb ?_
  | with_reducible refine w_cons ?_
  | with_reducible refine w_nil ?_
  | with_reducible refine w_ret ?_
  | with_reducible refine w_call ?_
  | with_reducible refine w_if ?_
  | with_reducible refine w_test ?_
  | with_reducible refine w_exbl ?_
  | with_reducible refine w_eqI ?_
  | with_reducible refine w_neI ?_
  | with_reducible refine w_next ?_
  | with_reducible refine w_un ?_
  | with_reducible refine w_U ?_
  | with_reducible refine w_B ?_
  | with_reducible refine w_and ?_
  | with_reducible refine w_or ?_
  | with_reducible refine w_not ?_
  | with_reducible refine w_andV ?_
  | with_reducible refine w_notV ?_
  | with_reducible refine w_tup ?_
  | with_reducible refine w_lst ?_
  | with_reducible refine w_for ?_
  | with_reducible refine w_rng1 ?_
  | with_reducible refine w_rng2 ?_
  | with_reducible refine w_rng3 ?_
  | with_reducible refine w_iList ?_
  | with_reducible refine w_iTup ?_
  | with_reducible refine w_iRevA ?_
  | with_reducible refine w_lc ?_
  | with_reducible refine w_drop ?_
  | with_reducible refine w_par ?_
  | ((with_reducible refine' w_aug ?h ?_); (case h => exact rfl))
  | with_reducible refine w_sl ?_
  | with_reducible refine w_noPart ?_
  | with_reducible refine w_part ?_
  | with_reducible refine w_exint ?_
  | with_reducible refine w_revL ?_
  | with_reducible refine w_bm ?_
  | with_reducible refine w_augS ?_
  | with_reducible refine w_ip ?_
  | with_reducible refine w_gSub ?_
  | with_reducible refine w_gName ?_
  | with_reducible refine w_gCons ?_
  | with_reducible refine w_gNil ?_
  | with_reducible refine w_chain ?_
  | with_reducible refine w_asgG ?_)
local macro_rules | `(tactic| walk_at "rr") => `(tactic| repeat walk_at "rs")
local macro_rules | `(tactic| walk_at "rn1") => `(tactic| first
  | with_reducible refine w_seq ?_
  | with_reducible refine w_asg ?_
  | ((with_reducible refine' w_var ?h ?_); (case h => exact rfl))
  | with_reducible refine w_c ?_
  | with_reducible refine w_op ?_
  | with_reducible refine w_I0 ?_
  | with_reducible refine w_cb ?_
  | with_reducible refine w_cons ?_
  | with_reducible refine w_nil ?_
  | with_reducible refine w_ret ?_
  | with_reducible refine w_call ?_
  | with_reducible refine w_if ?_
  | with_reducible refine w_test ?_
  | with_reducible refine w_exbl ?_
  | with_reducible refine w_eqI ?_
  | with_reducible refine w_neI ?_
  | with_reducible refine w_next ?_
  | with_reducible refine w_un ?_
  | with_reducible refine w_U ?_
  | with_reducible refine w_B ?_
  | with_reducible refine w_and ?_
  | with_reducible refine w_or ?_
  | with_reducible refine w_not ?_
  | with_reducible refine w_andV ?_
  | with_reducible refine w_notV ?_
  | with_reducible refine w_lst ?_
  | with_reducible refine w_for ?_
  | with_reducible refine w_rng1 ?_
  | with_reducible refine w_rng2 ?_
  | with_reducible refine w_rng3 ?_
  | with_reducible refine w_iList ?_
  | with_reducible refine w_iTup ?_
  | with_reducible refine w_iRevA ?_
  | with_reducible refine w_lc ?_
  | with_reducible refine w_drop ?_
  | with_reducible refine w_par ?_
  | ((with_reducible refine' w_aug ?h ?_); (case h => exact rfl))
  | with_reducible refine w_sl ?_
  | with_reducible refine w_noPart ?_
  | with_reducible refine w_part ?_
  | with_reducible refine w_exint ?_
  | with_reducible refine w_revL ?_
  | with_reducible refine w_bm ?_
  | with_reducible refine w_augS ?_
  | with_reducible refine w_ip ?_
  | with_reducible refine w_gSub ?_
  | with_reducible refine w_gName ?_
  | with_reducible refine w_gCons ?_
  | with_reducible refine w_gNil ?_
  | with_reducible refine w_chain ?_
  | with_reducible refine w_asgG ?_)
local macro_rules | `(tactic| walk_at "rn") => `(tactic| repeat walk_at "rn1")

variable {P : Program} {w : World} {K : PySem.W.Frag} {mg : Str → Option Value} {base : Heap}
/-! ### apart -/
def Red (ns : List Int) : Prop := (∃ r, evalP ns r = 0) ∨ ∃ c0 c1 c2 c3 a b c d, ns = [c0, c1, c2, c3, 1] ∧ Fact c0 c1 c2 c3 a b c d
theorem IsPoly.five {ns : List Int} (h : IsPoly ns) (hl : ns.length = 5) : ∃ c0 c1 c2 c3, ns = [c0, c1, c2, c3, 1] := by
  obtain ⟨cs, rfl, _, _, _⟩ := h.ex
  rw [List.length_append, List.length_singleton] at hl
  match cs, hl with
  | [c0, c1, c2, c3], _ => exact ⟨c0, c1, c2, c3, rfl⟩
theorem IsPoly.four {ns : List Int} (h : IsPoly ns) (hl : ns.length = 4) : ∃ c0 c1 c2, ns = [c0, c1, c2, 1] := by
  obtain ⟨cs, rfl, _, _, _⟩ := h.ex
  rw [List.length_append, List.length_singleton] at hl
  match cs, hl with
  | [c0, c1, c2], _ => exact ⟨c0, c1, c2, rfl⟩
theorem IsPoly.three {ns : List Int} (h : IsPoly ns) (hl : ns.length = 3) : ∃ c0 c1, ns = [c0, c1, 1] := by
  obtain ⟨cs, rfl, _, _, _⟩ := h.ex
  rw [List.length_append, List.length_singleton] at hl
  match cs, hl with
  | [c0, c1], _ => exact ⟨c0, c1, rfl⟩
theorem IsPoly.cons {ns : List Int} (h : IsPoly ns) : ∃ c cs, ns = c :: cs := by
  have := h.len.1
  match ns, this with
  | c :: cs, _ => exact ⟨c, cs, rfl⟩
def sp_apart (K : PySem.W.Frag) : Sp := fun vs H Q _ => ∃ (p : Addr) (ns : List Int), vs = [.ref p] ∧ SqT K H p (ns.map V.int) ∧ IsPoly ns ∧
  Ret H Q fun H' v => (v = .non ∧ ¬ Red ns) ∨ (IsPr K H' v (fun _ => True) (fun _ => True) ∧ Red ns)
theorem ok_apart (T : Txt K mg) (G_check_poly : FnOk P w K mg base CX0 1 T.check_poly.f T.check_poly.fd ["poly"] (sp_check_poly K)) (G_whole_root : FnOk P w K mg base CX0 2 T.whole_root.f T.whole_root.fd ["poly"] (sp_whole_root K))
    (G_poly_parted : FnOk P w K mg base CX0 2 T.poly_parted.f T.poly_parted.fd ["f", "g"] (sp_poly_parted K)) (G_pair_by : FnOk P w K mg base CX0 2 T.pair_by.f T.pair_by.fd ["poly", "b"] (sp_pair_by K)) :
    FnOk P w K mg base CX0 3 T.apart.f T.apart.fd ["poly"] (sp_apart K) := by
  refine T.apart.F.ok sc_apart (fun vs H Q E h => ?_) (fun cdv A outer s H vs Q E hr h => ?_)
  · obtain ⟨p, ns, rfl, _⟩ := h
    rfl
  · obtain ⟨p, ns, rfl, hx, hp, k⟩ := h
    have hl := hp.len
    refine ⟨_, (pss_cons (ps_expr (pe_call G_check_poly (hr.mono (by omega)) (by rfl) T.check_poly.g T.check_poly.F.kp T.check_poly.b .nil pass0 (pa_cons (pv 0) pa_nil)))
      (pss_cons (ps_set (i := 1) sc_apart.nd rfl (.inl rfl) (pe_call G_whole_root (hr.mono (by omega)) (by rfl) T.whole_root.g T.whole_root.F.kp T.whole_root.b .nil pass0 (pa_cons (pv 0) pa_nil)))
      (pss_cons (ps_if (pt_cmpR op_notN (pv 1) pe_non (nomark _))
        (pss_one (ps_ret (pe_tup (pa_cons (pe_tup (pa_cons (pe_un un_neg (pv 1)) (pa_cons pe_int pa_nil))) (pa_cons (pe_ix (r := rIxT K) ix_tup (pe_call G_poly_parted (hr.mono (by omega)) (by rfl) T.poly_parted.g T.poly_parted.F.kp T.poly_parted.b .nil pass0 (pa_cons (pv 0) (pa_cons (pe_tup (pa_cons (pe_un un_neg (pv 1)) (pa_cons pe_int pa_nil))) pa_nil))) pe_int (fun _ _ => rfl)) pa_nil)))))
        pss_nil)
      (pss_cons (ps_if (pt_cmpR op_eq (pe_callB call_len_seq (by rfl) T.n_len (by decide +kernel) (pa_cons (pv 0) pa_nil)) pe_int (nomark _))
        (pss_cons (ps_set (i := 2) sc_apart.nd rfl (.inl rfl) (pe_callB call_abs (by rfl) T.n_abs (by decide +kernel) (pa_cons (pe_ix (r := rIxT K) ix_tup (pv 0) pe_int (fun _ _ => rfl)) pa_nil)))
          (pss_one (ps_for PassesOwn.never rfl (pi_range2 (by rfl) T.n_range (pa_cons pe_int (pa_cons (pe_op op_add (pv 2) pe_int) pa_nil))) (pg_name (i := 3) sc_apart.nd rfl (.inl rfl))
            (pss_one (ps_if (pt_cmpR op_eq (pe_op op_mod (pv 2) (pv 3)) pe_int (nomark _))
                (pss_one (ps_for PassesOwn.never rfl (pi_tup (pe_tup (pa_cons (pv 3) (pa_cons (pe_un un_neg (pv 3)) pa_nil)))) (pg_name (i := 4) sc_apart.nd rfl (.inl rfl))
                    (pss_cons (ps_set (i := 5) sc_apart.nd rfl (.inl rfl) (pe_call G_pair_by (hr.mono (by omega)) (by rfl) T.pair_by.g T.pair_by.F.kp T.pair_by.b .nil pass0 (pa_cons (pv 0) (pa_cons (pv 4) pa_nil))))
                      (pss_one (ps_if (pt_cmpR op_notN (pv 5) pe_non (nomark _))
                        (pss_one (ps_ret (pv 5)))
                        pss_nil)))))
                pss_nil)))))
        pss_nil)
      (pss_one (ps_ret pe_non)))))), ?_⟩
    rw [show L2.start N_apart [V.ref p] = [some (.ref p), none, none, none, none, none] from rfl]
    try dsimp only [cxOf]
    walk_at "rr"
    refine ⟨p, ns, rfl, hx, hp, fun v H1 e1 r1 => ?_⟩
    walk_at "rr"
    obtain ⟨c, cs, ens⟩ := hp.cons
    have hc : -499 ≤ c ∧ c ≤ 499 := hp.bd (by rw [ens]; exact List.mem_cons_self ..)
    refine ⟨p, c, cs, rfl, ex_t e1 (ens ▸ hx), hc.1, hc.2, fun v H2 e2 r2 => ?_⟩
    rw [← ens] at r2
    walk_at "rr"
    rcases r2 with ⟨rfl, hno⟩ | ⟨r, rfl, r0, r1', hroot⟩
    · -- no whole root
      refine ⟨rfl, ?_⟩
      walk_at "rr"
      refine iteF ?_
      walk_at "rr"
      refine ⟨p, _, rfl, .inr (ex_t (e1.trans e2) hx), ?_⟩
      rw [List.length_map]
      walk_at "rr"
      refine w_ite (fun h5 => ?_) (fun h5 => ?_)
      · obtain ⟨c0, c1, c2, c3, rfl⟩ := hp.five (by omega)
        have bc : ∀ x ∈ [c0, c1, c2, c3, 1], -499 ≤ x ∧ x ≤ 499 := fun x hx => hp.bd hx
        have n0 : c0 ≠ 0 := fun z => hno 0 (by rw [z]; show _ * (0 : Int) + 0 = 0; omega)
        have b0 := bc c0 (by simp)
        have b1 := bc c1 (by simp)
        have b2 := bc c2 (by simp)
        have b3 := bc c3 (by simp)
        have hx2 := ex_t (e1.trans e2) hx
        walk_at "rr"
        refine w_ixTn hx2 (atI_nat (j := 0) rfl) ?_
        walk_at "rr"
        refine ⟨_, rfl, ?_⟩
        rw [show (if c0 < 0 then -c0 else c0) = ((c0.natAbs : Nat) : Int) by split <;> omega]
        walk_at "rr"
        refine f_r2 (by omega) (by omega) (by omega) (by omega) (fun i σ' H' => ∃ y3 y4 y5, σ' = [some (.ref p), some .non, some (.int ((c0.natAbs : Nat) : Int)), y3, y4, y5] ∧ Ex H2 H' ∧ ∀ b : Int, 1 ≤ b.natAbs → b.natAbs ≤ i → ∀ a c d, ¬ Fact c0 c1 c2 c3 a b c d)
          ⟨none, none, none, rfl, Ex.refl H2, fun b hb1 hb2 => by omega⟩ (fun i σ' H' hi hq => ?_) (fun σ' H' hq => ?_)
        · obtain ⟨y3, y4, y5, rfl, e, hn⟩ := hq
          walk_at "rr"
          refine w_I (show (0 : Int) < 1 + (i : Int) by omega) ?_
          walk_at "rr"
          refine w_ite (fun hd => ?_) (fun hd => ?_)
          · have hdv : (1 + (i : Int)) ∣ c0 := Int.dvd_natAbs.mp (Int.dvd_of_emod_eq_zero hd)
            obtain ⟨dd, hdd⟩ := hdv
            walk_at "rr"
            refine ⟨by show 2 ≤ sizeLine; decide, fun q1 n1 => ?_⟩
            have e3 : Ex H2 (upd H' q1 (.tup [.int (1 + (i : Int)), .int (-(1 + (i : Int)))])) := e.trans (Ex.new n1)
            have hq1 : (upd H' q1 (.tup [.int (1 + (i : Int)), .int (-(1 + (i : Int)))])) q1 = some (.tup [.int (1 + (i : Int)), .int (-(1 + (i : Int)))]) := upd_same
            generalize upd H' q1 (.tup [.int (1 + (i : Int)), .int (-(1 + (i : Int)))]) = H3 at e3 hq1
            refine f_tup (.inl (.inl hq1)) (fun j σ' H' => ∃ y4 y5, σ' = [some (.ref p), some .non, some (.int ((c0.natAbs : Nat) : Int)), some (.int (1 + (i : Int))), y4, y5] ∧ Ex H2 H' ∧ Ex H3 H' ∧ (1 ≤ j → ∀ a c d, ¬ Fact c0 c1 c2 c3 a (1 + (i : Int)) c d) ∧ (2 ≤ j → ∀ a c d, ¬ Fact c0 c1 c2 c3 a (-(1 + (i : Int))) c d))
              ⟨y4, y5, rfl, e3, Ex.refl H3, fun z => by omega, fun z => by omega⟩ (fun j σ' H' hq => ?_) (fun j y σ' H' hy hq => ?_) (fun σ' H' hq => ?_)
            · obtain ⟨_, _, _, _, e4, _⟩ := hq
              exact .inl (.inl (e4 _ _ hq1))
            · obtain ⟨y4, y5, rfl, e5, e4, f1, f2⟩ := hq
              obtain ⟨b, d, rfl, hbd, hbj⟩ : ∃ b d : Int, y = .int b ∧ c0 = b * d ∧ ((b = 1 + (i : Int) ∧ j = 0) ∨ (b = -(1 + (i : Int)) ∧ j = 1)) := by
                match j, hy with
                | 0, hy => exact ⟨_, dd, (Option.some.inj hy).symm, hdd, .inl ⟨rfl, rfl⟩⟩
                | 1, hy => exact ⟨_, -dd, (Option.some.inj hy).symm, by rw [Int.neg_mul_neg]; exact hdd, .inr ⟨rfl, rfl⟩⟩
              walk_at "rr"
              refine ⟨p, c0, c1, c2, c3, b, d, rfl, ex_t e5 hx2, b0, b1, b2, b3, hbd, n0, fun v H4 e6 r6 => ?_⟩
              walk_at "rr"
              rcases r6 with ⟨rfl, hF⟩ | ⟨⟨q5, x, y, rfl, h5', _⟩, a, c, d, F⟩
              · refine ⟨rfl, ?_⟩
                walk_at "rr"
                refine iteF ?_
                walk_at "rr"
                refine ⟨_, _, rfl, e5.trans e6, e4.trans e6, fun _ => ?_, fun z => ?_⟩
                · rcases hbj with ⟨rfl, rfl⟩ | ⟨rfl, rfl⟩
                  · exact hF
                  · exact f1 (by omega)
                · rcases hbj with ⟨rfl, rfl⟩ | ⟨rfl, rfl⟩
                  · omega
                  · exact hF
              · refine ⟨rfl, ?_⟩
                walk_at "rr"
                refine iteT ?_
                walk_at "rr"
                exact k _ _ (e1.trans (e2.trans (e5.trans e6))) (.inr ⟨⟨q5, x, y, rfl, h5', trivial, trivial⟩, .inr ⟨_, _, _, _, _, _, _, _, rfl, F⟩⟩)
            · obtain ⟨y4, y5, rfl, e5, e4, f1, f2⟩ := hq
              walk_at "rr"
              refine ⟨_, y4, y5, rfl, e5, fun b hb1 hb2 => ?_⟩
              by_cases hbi : b.natAbs ≤ i
              · exact hn b hb1 hbi
              · have e2 : b = 1 + (i : Int) ∨ b = -(1 + (i : Int)) := by omega
                rcases e2 with rfl | rfl
                · exact f1 (by show 1 ≤ 2; omega)
                · exact f2 (by show 2 ≤ 2; omega)
          · walk_at "rr"
            refine ⟨_, y4, y5, rfl, e, fun b hb1 hb2 => ?_⟩
            by_cases hbi : b.natAbs ≤ i
            · exact hn b hb1 hbi
            · intro a c d F
              have e2 : b = 1 + (i : Int) ∨ b = -(1 + (i : Int)) := by omega
              refine hd (Int.emod_eq_zero_of_dvd (Int.dvd_natAbs.mpr ?_))
              have hd2 : b ∣ c0 := ⟨d, F.f0⟩
              rcases e2 with e2 | e2
              · rw [e2] at hd2; exact hd2
              · rw [e2] at hd2; exact Int.neg_dvd.mp hd2
        · obtain ⟨y3, y4, y5, rfl, e, hn⟩ := hq
          walk_at "rr"
          refine k _ _ (e1.trans (e2.trans e)) (.inl ⟨rfl, ?_⟩)
          rintro (⟨r, hr0⟩ | ⟨x0, x1, x2, x3, a, b, c, d, ex, F⟩)
          · exact hno r hr0
          · cases ex
            have hb0 : b ≠ 0 := fun z => n0 (by rw [F.f0, z, Int.zero_mul])
            have hb1 := dvd_bound (r := b) (c := c0) ⟨d, F.f0⟩ n0
            exact hn b (by omega) (by omega) a c d F
      · walk_at "rr"
        refine k _ _ (e1.trans e2) (.inl ⟨rfl, ?_⟩)
        rintro (⟨r, hr0⟩ | ⟨x0, x1, x2, x3, a, b, c, d, ex, F⟩)
        · exact hno r hr0
        · rw [ex] at h5
          exact h5 rfl
    · refine ⟨rfl, ?_⟩
      walk_at "rr"
      refine iteT ?_
      walk_at "rr"
      refine ⟨by show 2 ≤ sizeLine; decide, fun q1 n1 => ?_⟩
      walk_at "rr"
      refine ⟨by show 2 ≤ sizeLine; decide, fun q2 n2 => ?_⟩
      walk_at "rr"
      refine ⟨p, q2, ns, [-r, 1], rfl, ex_t (e1.trans (e2.trans ((Ex.new n1).trans (Ex.new n2)))) hx, .inl (.inl upd_same), by omega, by show 2 ≤ ns.length; omega, by show 1 ≤ 2; omega, fun z hz => ?_, fun v H3 e3 r3 => ?_⟩
      · rcases List.mem_cons.mp hz with rfl | hz
        · omega
        · rw [List.mem_singleton.mp hz]
          omega
      · obtain ⟨q3, x, y, rfl, h3, hx3, hy3⟩ := r3
        walk_at "rr"
        refine w_ixT h3 (atI_nat (j := 0) rfl) ?_
        walk_at "rr"
        refine ⟨by show 2 ≤ sizeLine; decide, fun q4 n4 => ?_⟩
        exact k _ _ (e1.trans (e2.trans ((Ex.new n1).trans ((Ex.new n2).trans (e3.trans (Ex.new n4)))))) (.inr ⟨⟨q4, _, _, rfl, .inl (.inl upd_same), trivial, trivial⟩, .inl ⟨r, hroot⟩⟩)
end
end RH

set_option Elab.async false
set_option linter.all false
set_option maxRecDepth 100000
set_option maxHeartbeats 4000000
namespace RH
open PySem PySem.Spec PyProof.Rows L2 Evl
/-! ### rows told one by one -/
def AllR {α : Type} (R : V → α → Prop) (xs : List V) (zs : List α) : Prop := xs.length = zs.length ∧ ∀ (i : Nat) (x : V) (z : α), xs[i]? = some x → zs[i]? = some z → R x z
section
variable {α β : Type} {R R' : V → α → Prop} {xs ys : List V} {zs ws : List α}
theorem AllR.nil : AllR R [] [] := ⟨rfl, fun i x z h => by cases h⟩
theorem AllR.mono (h : AllR R xs zs) (f : ∀ x z, R x z → R' x z) : AllR R' xs zs := ⟨h.1, fun i x z a b => f _ _ (h.2 i x z a b)⟩
theorem AllR.get (h : AllR R xs zs) {i : Nat} {z : α} (hz : zs[i]? = some z) : ∃ x, xs[i]? = some x ∧ R x z := by
  have hi : i < zs.length := (List.getElem?_eq_some_iff.mp hz).1
  have hx : xs[i]? = some (xs[i]'(by rw [h.1]; exact hi)) := List.getElem?_eq_getElem _
  exact ⟨_, hx, h.2 i _ z hx hz⟩
theorem AllR.getx (h : AllR R xs zs) {i : Nat} {x : V} (hx : xs[i]? = some x) : ∃ z, zs[i]? = some z ∧ R x z := by
  have hi : i < xs.length := (List.getElem?_eq_some_iff.mp hx).1
  have hz : zs[i]? = some (zs[i]'(by rw [← h.1]; exact hi)) := List.getElem?_eq_getElem _
  exact ⟨_, hz, h.2 i x _ hx hz⟩
theorem AllR.snoc {x : V} {z : α} (h : AllR R xs zs) (r : R x z) : AllR R (xs ++ [x]) (zs ++ [z]) := by
  refine ⟨by simp [h.1], fun i y u a b => ?_⟩
  by_cases hi : i < xs.length
  · rw [List.getElem?_append_left hi] at a
    rw [List.getElem?_append_left (by rw [← h.1]; exact hi)] at b
    exact h.2 i y u a b
  · rw [List.getElem?_append_right (by omega)] at a
    rw [List.getElem?_append_right (by rw [← h.1]; omega)] at b
    have e : i - xs.length = 0 := by
      have := (List.getElem?_eq_some_iff.mp a).1
      simp at this
      omega
    rw [e] at a
    rw [← h.1, e] at b
    cases a
    cases b
    exact r
theorem AllR.append (h : AllR R xs zs) (h' : AllR R ys ws) : AllR R (xs ++ ys) (zs ++ ws) := by
  refine ⟨by rw [List.length_append, List.length_append, h.1, h'.1], fun i y u a b => ?_⟩
  by_cases hi : i < xs.length
  · rw [List.getElem?_append_left hi] at a
    rw [List.getElem?_append_left (by rw [← h.1]; exact hi)] at b
    exact h.2 i y u a b
  · rw [List.getElem?_append_right (by omega)] at a
    rw [List.getElem?_append_right (by rw [← h.1]; omega)] at b
    rw [← h.1] at b
    exact h'.2 _ y u a b
theorem AllR.take (h : AllR R xs zs) (n : Nat) : AllR R (xs.take n) (zs.take n) := by
  refine ⟨by rw [List.length_take, List.length_take, h.1], fun i y u a b => ?_⟩
  rw [List.getElem?_take] at a b
  split at a
  · rename_i hi
    rw [if_pos hi] at b
    exact h.2 i y u a b
  · cases a
theorem AllR.drop (h : AllR R xs zs) (n : Nat) : AllR R (xs.drop n) (zs.drop n) := by
  refine ⟨by rw [List.length_drop, List.length_drop, h.1], fun i y u a b => ?_⟩
  rw [List.getElem?_drop] at a b
  exact h.2 _ y u a b
end
def GivesR (te : TE) (σ : L2.St) (H : Hp) (S : Hp → V → Prop) : Prop := ∀ H1, Ex H H1 → ∀ Q : VK, (∀ v H2, Ex H1 H2 → S H2 v → Q v H2) → te σ H1 Q
section
variable {K : PySem.W.Frag} {σ : L2.St} {H : Hp} {Q : VK} {te : TE}
theorem c_tupR {α β : Type} {Rin : V → α → Prop} {Rout : Hp → V → β → Prop} (mono : ∀ H1 H2 v y, Ex H1 H2 → Rout H1 v y → Rout H2 v y) {p : Addr} {xs : List V} {zs : List α} {j : Nat} {vs : List Nat} (F : α → β) (hx : SqT K H p xs) (ha : AllR Rin xs zs) (hz : zs.length ≤ 50000) (hw : ∀ y, wipe ((wipe σ vs).set j (some y)) vs = wipe σ vs)
    (hmu : ∀ D H2 v z o, H D = none → Rout H2 v z → (∃ l, H2 D = some (.lst l)) → Rout (upd H2 D (.lst o)) v z)
    (he : ∀ x z, z ∈ zs → Rin x z → GivesR te ((wipe σ vs).set j (some x)) H (fun H2 v => Rout H2 v (F z)))
    (hd : ∀ D H' out, H D = none → Ex H H' → H' D = some (.lst out) → AllR (Rout H') out (zs.map F) → Q (.ref D) H') :
    ∃ p', V.ref p = V.ref p' ∧ (∃ xs, SqT K H p' xs) ∧ lcR (gName j) tYes te vs σ Q (Itt K p') H := by
  refine ⟨p, rfl, ⟨_, hx⟩, fun D hD => lc_tup (xs := xs) (fun i H' => Ex H H' ∧ ∃ out, H' D = some (.lst out) ∧ AllR (Rout H') out ((zs.take i).map F)) ⟨Ex.new hD, [], upd_same, AllR.nil⟩ (fun i H' _ q => ex_t q.1 hx) (fun i y H' hi q => ?_) (fun H' q => ?_)⟩
  · obtain ⟨e, out, h1, h2⟩ := q
    obtain ⟨z, hz', rz⟩ := ha.getx hi
    have hm : z ∈ zs := List.mem_of_getElem? hz'
    have hlen : out.length < 100000 := by
      rw [h2.1, List.length_map, List.length_take]
      omega
    refine ⟨hw y, ?_⟩
    show te ((wipe σ vs).set j (some y)) H' fun y H4 => ∃ acc, H4 D = some (.lst acc) ∧ acc.length < sizeLine ∧ (Ex H (upd H4 D (.lst (acc ++ [y]))) ∧ ∃ out, (upd H4 D (.lst (acc ++ [y]))) D = some (.lst out) ∧ AllR (Rout (upd H4 D (.lst (acc ++ [y])))) out ((zs.take (i + 1)).map F))
    refine he y z hm rz H' e _ fun v H4 e4 r4 => ⟨out, e4 D _ h1, Nat.lt_of_lt_of_le hlen (by decide), Ex.mut (e.trans e4) hD, out ++ [v], upd_same, ?_⟩
    rw [take_snoc hz', List.map_append]
    have hD4 : ∃ l, H4 D = some (.lst l) := ⟨_, e4 D _ h1⟩
    exact (h2.mono fun x z r => hmu D _ _ _ _ hD (mono _ _ _ _ e4 r) hD4).snoc (hmu D _ _ _ _ hD r4 hD4)
  · obtain ⟨e, out, h1, h2⟩ := q
    rw [ha.1, List.take_length] at h2
    exact hd D H' out hD e h1 h2
theorem c_listR {α β : Type} {Rin : V → α → Prop} {Rout : Hp → V → β → Prop} (mono : ∀ H1 H2 v y, Ex H1 H2 → Rout H1 v y → Rout H2 v y) {p : Addr} {xs : List V} {zs : List α} {j : Nat} {vs : List Nat} (F : α → β) (hx : SqL K H p xs) (ha : AllR Rin xs zs) (hz : zs.length ≤ 50000) (hw : ∀ y, wipe ((wipe σ vs).set j (some y)) vs = wipe σ vs)
    (hmu : ∀ D H2 v z o, H D = none → Rout H2 v z → (∃ l, H2 D = some (.lst l)) → Rout (upd H2 D (.lst o)) v z)
    (he : ∀ x z, z ∈ zs → Rin x z → GivesR te ((wipe σ vs).set j (some x)) H (fun H2 v => Rout H2 v (F z)))
    (hd : ∀ D H' out, H D = none → Ex H H' → H' D = some (.lst out) → AllR (Rout H') out (zs.map F) → Q (.ref D) H') :
    ∃ p', V.ref p = V.ref p' ∧ (∃ xs, SqL K H p' xs) ∧ lcR (gName j) tYes te vs σ Q (Itl K p') H := by
  refine ⟨p, rfl, ⟨_, hx⟩, fun D hD => lc_list (xs := xs) (fun i H' => Ex H H' ∧ ∃ out, H' D = some (.lst out) ∧ AllR (Rout H') out ((zs.take i).map F)) ⟨Ex.new hD, [], upd_same, AllR.nil⟩ (fun i H' _ q => ex_l q.1 hx) (fun i y H' hi q => ?_) (fun H' q => ?_)⟩
  · obtain ⟨e, out, h1, h2⟩ := q
    obtain ⟨z, hz', rz⟩ := ha.getx hi
    have hm : z ∈ zs := List.mem_of_getElem? hz'
    have hlen : out.length < 100000 := by
      rw [h2.1, List.length_map, List.length_take]
      omega
    refine ⟨hw y, ?_⟩
    show te ((wipe σ vs).set j (some y)) H' fun y H4 => ∃ acc, H4 D = some (.lst acc) ∧ acc.length < sizeLine ∧ (Ex H (upd H4 D (.lst (acc ++ [y]))) ∧ ∃ out, (upd H4 D (.lst (acc ++ [y]))) D = some (.lst out) ∧ AllR (Rout (upd H4 D (.lst (acc ++ [y])))) out ((zs.take (i + 1)).map F))
    refine he y z hm rz H' e _ fun v H4 e4 r4 => ⟨out, e4 D _ h1, Nat.lt_of_lt_of_le hlen (by decide), Ex.mut (e.trans e4) hD, out ++ [v], upd_same, ?_⟩
    rw [take_snoc hz', List.map_append]
    have hD4 : ∃ l, H4 D = some (.lst l) := ⟨_, e4 D _ h1⟩
    exact (h2.mono fun x z r => hmu D _ _ _ _ hD (mono _ _ _ _ e4 r) hD4).snoc (hmu D _ _ _ _ hD r4 hD4)
  · obtain ⟨e, out, h1, h2⟩ := q
    rw [ha.1, List.take_length] at h2
    exact hd D H' out hD e h1 h2
/-- a tuple of ints stays when a list is written -/
theorem IsT.mut {H : Hp} {v : V} {ns : List Int} {D : Addr} {o : HO} (h : IsT K H v ns) (hD : ∃ l, H D = some (.lst l)) : IsT K (upd H D o) v ns := by
  obtain ⟨p, rfl, s⟩ := h
  obtain ⟨l, hl⟩ := hD
  refine ⟨p, rfl, ?_⟩
  rcases s with (s | ⟨ob, s⟩) | s
  · exact .inl (.inl (by rw [upd_ne (ne_of s hl (by intro z; cases z))]; exact s))
  · exact .inl (.inr ⟨ob, by rw [upd_ne (ne_of s hl (by intro z; cases z))]; exact s⟩)
  · exact .inr s
/-- a list of ints other than the one that is written -/
theorem IsL.mut {H : Hp} {v : V} {ns : List Int} {D : Addr} {o : HO} (h : IsL K H v ns) (hne : v ≠ .ref D) : IsL K (upd H D o) v ns := by
  obtain ⟨p, rfl, s⟩ := h
  have hn : p ≠ D := fun z => hne (by rw [z])
  refine ⟨p, rfl, ?_⟩
  rcases s with (s | ⟨ob, s⟩) | s
  · exact .inl (.inl (by rw [upd_ne hn]; exact s))
  · exact .inl (.inr ⟨ob, by rw [upd_ne hn]; exact s⟩)
  · exact .inr s
theorem w_catA {a b : Addr} {xs ys : List V} (h1 : SqT K H a xs) (h2 : SqT K H b ys) (hl : xs.length + ys.length ≤ 1000) (q : ∀ p H', Ex H H' → SqT K H' p (xs ++ ys) → Q (.ref p) H') : rCatA K (.ref a) (.ref b) H Q :=
  ⟨a, b, xs, ys, rfl, rfl, h1, h2, Nat.le_of_lt (small1000 hl), fun e => q b H (Ex.refl H) (by rw [e]; exact h2), fun _ e => q a H (Ex.refl H) (by rw [e, List.append_nil]; exact h1), fun _ _ p hp => q p _ (Ex.new hp) (.inl (.inl upd_same))⟩
/-- a tuple's part -/
theorem w_slA {a : Addr} {xs : List V} {lo hi : Option Int} (h : SqT K H a xs) (q : ∀ p H', Ex H H' → SqT K H' p (cutV xs lo hi) → Q (.ref p) H') : rSlA K (.ref a) lo hi H Q :=
  ⟨a, xs, rfl, h, fun ⟨e1, e2⟩ => q a H (Ex.refl H) (by
    have : cutV xs lo hi = xs := by
      unfold cutV
      rw [e1, e2, Nat.sub_zero, List.drop_zero, List.take_length]
    rw [this]
    exact h), fun _ p hp => q p _ (Ex.new hp) (.inl (.inl upd_same))⟩
end
/-! ### det -/
def minorL (rows : List (List Int)) (i : Nat) : List (List Int) := (rows.take i ++ rows.drop (i + 1)).map (·.drop 1)
def detS (f : List (List Int) → Int) (rows : List (List Int)) : Nat → Int
  | 0 => 0
  | i + 1 => detS f rows i + (if i % 2 = 1 then -((rows.getD i []).getD 0 0 * f (minorL rows i)) else (rows.getD i []).getD 0 0 * f (minorL rows i))
def detL : Nat → List (List Int) → Int
  | 0, _ => 0
  | 1, rows => (rows.getD 0 []).getD 0 0
  | k + 2, rows => detS (detL (k + 1)) rows (k + 2)
/-- k rows of k places, none too great -/
structure Sq (k : Nat) (rows : List (List Int)) : Prop where
  len : rows.length = k
  wid : ∀ r ∈ rows, r.length = k
  bd : ∀ r ∈ rows, ∀ c ∈ r, -(2 ^ 62) < c ∧ c < 2 ^ 62
theorem Sq.minor {k : Nat} {rows : List (List Int)} (h : Sq (k + 1) rows) {i : Nat} (hi : i < k + 1) : Sq k (minorL rows i) where
  len := by
    unfold minorL
    rw [List.length_map, List.length_append, List.length_take, List.length_drop, h.len]
    omega
  wid := fun r hr => by
    obtain ⟨r', hr', rfl⟩ := List.mem_map.mp hr
    have hm : r' ∈ rows := (List.mem_append.mp hr').elim List.mem_of_mem_take List.mem_of_mem_drop
    rw [List.length_drop, h.wid r' hm]
    rfl
  bd := fun r hr c hc => by
    obtain ⟨r', hr', rfl⟩ := List.mem_map.mp hr
    have hm : r' ∈ rows := (List.mem_append.mp hr').elim List.mem_of_mem_take List.mem_of_mem_drop
    exact h.bd r' hm c (List.mem_of_mem_drop hc)
theorem Sq.at {k : Nat} {rows : List (List Int)} (h : Sq (k + 1) rows) {i : Nat} (hi : i < k + 1) : ∃ r, rows[i]? = some r ∧ r.length = k + 1 ∧ (rows.getD i []) = r ∧ r[0]? = some (r.getD 0 0) ∧ -(2 ^ 62) < r.getD 0 0 ∧ r.getD 0 0 < 2 ^ 62 := by
  have hl : i < rows.length := by rw [h.len]; exact hi
  have hr : rows[i]? = some rows[i] := List.getElem?_eq_getElem hl
  have hm := List.mem_of_getElem? hr
  have h0 : (rows[i])[0]? = some ((rows[i]).getD 0 0) := getD_get (by rw [h.wid _ hm]; omega)
  refine ⟨rows[i], hr, h.wid _ hm, ?_, h0, h.bd _ hm _ (List.mem_of_getElem? h0)⟩
  rw [List.getD_eq_getElem?_getD, hr]
  rfl
section
local macro_rules | `(tactic| walk_at "rs") => `(tactic| first
  | with_reducible refine w_seq ?_
  | with_reducible refine w_asg ?_
  | ((with_reducible refine' w_var ?h ?_); (case h => exact rfl))
  | with_reducible refine w_c ?_
  | with_reducible refine w_op ?_
  | with_reducible refine w_I0 ?_
  | with_reducible refine w_cb ?_
  | with_reducible refine w_cons ?_
  | with_reducible refine w_nil ?_
  | with_reducible refine w_ret ?_
  | with_reducible refine w_call ?_
  | with_reducible refine w_if ?_
  | with_reducible refine w_test ?_
  | with_reducible refine w_exbl ?_
  | with_reducible refine w_eqI ?_
  | with_reducible refine w_neI ?_
  | with_reducible refine w_next ?_
  | with_reducible refine w_un ?_
  | with_reducible refine w_U ?_
  | with_reducible refine w_B ?_
  | with_reducible refine w_and ?_
  | with_reducible refine w_or ?_
  | with_reducible refine w_not ?_
  | with_reducible refine w_andV ?_
  | with_reducible refine w_notV ?_
  | with_reducible refine w_tup ?_
  | with_reducible refine w_lst ?_
  | with_reducible refine w_for ?_
  | with_reducible refine w_rng1 ?_
  | with_reducible refine w_rng2 ?_
  | with_reducible refine w_rng3 ?_
  | with_reducible refine w_iList ?_
  | with_reducible refine w_iTup ?_
  | with_reducible refine w_iRevA ?_
  | with_reducible refine w_lc ?_
  | with_reducible refine w_drop ?_
  | with_reducible refine w_par ?_
  | ((with_reducible refine' w_aug ?h ?_); (case h => exact rfl))
  | with_reducible refine w_sl ?_
  | with_reducible refine w_noPart ?_
  | with_reducible refine w_part ?_
  | with_reducible refine w_exint ?_
  | with_reducible refine w_revL ?_
  | with_reducible refine w_bm ?_
  | with_reducible refine w_augS ?_
  | with_reducible refine w_ip ?_
  | with_reducible refine w_gSub ?_
  | with_reducible refine w_gName ?_
  | with_reducible refine w_gCons ?_
  | with_reducible refine w_gNil ?_
  | with_reducible refine w_chain ?_
  | with_reducible refine w_asgG ?_)
local macro_rules | `(tactic| walk_at "rr") => `(tactic| repeat walk_at "rs")
local macro_rules | `(tactic| walk_at "rn1") => `(tactic| first
  | with_reducible refine w_seq ?_
  | with_reducible refine w_asg ?_
  | ((with_reducible refine' w_var ?h ?_); (case h => exact rfl))
  | with_reducible refine w_c ?_
  | with_reducible refine w_op ?_
  | with_reducible refine w_I0 ?_
  | with_reducible refine w_cb ?_
  | with_reducible refine w_cons ?_
  | with_reducible refine w_nil ?_
  | with_reducible refine w_ret ?_
  | with_reducible refine w_call ?_
  | with_reducible refine w_if ?_
  | with_reducible refine w_test ?_
  | with_reducible refine w_exbl ?_
  | with_reducible refine w_eqI ?_
  | with_reducible refine w_neI ?_
  | with_reducible refine w_next ?_
  | with_reducible refine w_un ?_
  | with_reducible refine w_U ?_
  | with_reducible refine w_B ?_
  | with_reducible refine w_and ?_
  | with_reducible refine w_or ?_
  | with_reducible refine w_not ?_
  | with_reducible refine w_andV ?_
  | with_reducible refine w_notV ?_
  | with_reducible refine w_lst ?_
  | with_reducible refine w_for ?_
  | with_reducible refine w_rng1 ?_
  | with_reducible refine w_rng2 ?_
  | with_reducible refine w_rng3 ?_
  | with_reducible refine w_iList ?_
  | with_reducible refine w_iTup ?_
  | with_reducible refine w_iRevA ?_
  | with_reducible refine w_lc ?_
  | with_reducible refine w_drop ?_
  | with_reducible refine w_par ?_
  | ((with_reducible refine' w_aug ?h ?_); (case h => exact rfl))
  | with_reducible refine w_sl ?_
  | with_reducible refine w_noPart ?_
  | with_reducible refine w_part ?_
  | with_reducible refine w_exint ?_
  | with_reducible refine w_revL ?_
  | with_reducible refine w_bm ?_
  | with_reducible refine w_augS ?_
  | with_reducible refine w_ip ?_
  | with_reducible refine w_gSub ?_
  | with_reducible refine w_gName ?_
  | with_reducible refine w_gCons ?_
  | with_reducible refine w_gNil ?_
  | with_reducible refine w_chain ?_
  | with_reducible refine w_asgG ?_)
local macro_rules | `(tactic| walk_at "rn") => `(tactic| repeat walk_at "rn1")

variable {P : Program} {w : World} {K : PySem.W.Frag} {mg : Str → Option Value} {base : Heap}
def sp_det (K : PySem.W.Frag) (k : Nat) : Sp := fun vs H Q _ => ∃ (p : Addr) (rs : List V) (rows : List (List Int)), vs = [.ref p] ∧ (SqT K H p rs ∨ SqL K H p rs) ∧ AllR (IsT K H) rs rows ∧ Sq (k + 1) rows ∧ k ≤ 3 ∧ Ret H Q fun _ v => v = .int (detL (k + 1) rows)
theorem ok_det (T : Txt K mg) : ∀ k, FnOk P w K mg base CX0 (k + 1) T.det.f T.det.fd ["table"] (sp_det K k)
  | 0 => by
    refine T.det.F.ok sc_det (fun vs H Q E h => ?_) (fun cdv A outer s H vs Q E hr h => ?_)
    · obtain ⟨p, rs, rows, rfl, _⟩ := h
      rfl
    · obtain ⟨p, rs, rows, rfl, hx, ha, hs, hk, k⟩ := h
      obtain ⟨r, hr0, hr1, hr2, hr3, hb⟩ := hs.at (i := 0) (by omega)
      obtain ⟨x, hx0, hxT⟩ := ha.get hr0
      obtain ⟨px, rfl, hpx⟩ := hxT
      have hl : rs.length = 1 := by rw [ha.1, hs.len]
      rcases hx with hx | hx
      · refine ⟨_, pss_cons (ps_if (pt_cmpR op_eq (pe_callB call_len_seq (by rfl) T.n_len (by decide +kernel) (pa_cons (pv 0) pa_nil)) pe_int (nomark _)) (pss_one (ps_ret (pe_ix ix_tup (pe_ix ix_tup (pv 0) pe_int (fun _ _ => rfl)) pe_int (fun _ _ => rfl)))) pss_nil) pss_never, ?_⟩
        rw [show L2.start N_det [V.ref p] = [some (.ref p), none, none, none, none, none] from rfl]
        try dsimp only [cxOf]
        walk_at "rr"
        refine ⟨p, _, rfl, .inr hx, ?_⟩
        rw [hl]
        walk_at "rr"
        refine iteT ?_
        walk_at "rr"
        refine w_ixT hx (atI_nat (j := 0) hx0) ?_
        walk_at "rr"
        refine w_ixTn hpx (atI_nat (j := 0) hr3) ?_
        refine k _ _ (Ex.refl H) ?_
        rw [detL, hr2]
      · refine ⟨_, pss_cons (ps_if (pt_cmpR op_eq (pe_callB call_len_seq (by rfl) T.n_len (by decide +kernel) (pa_cons (pv 0) pa_nil)) pe_int (nomark _)) (pss_one (ps_ret (pe_ix ix_tup (pe_ix ix_list (pv 0) pe_int (fun _ _ => rfl)) pe_int (fun _ _ => rfl)))) pss_nil) pss_never, ?_⟩
        rw [show L2.start N_det [V.ref p] = [some (.ref p), none, none, none, none, none] from rfl]
        try dsimp only [cxOf]
        walk_at "rr"
        refine ⟨p, _, rfl, .inl hx, ?_⟩
        rw [hl]
        walk_at "rr"
        refine iteT ?_
        walk_at "rr"
        refine w_ixL hx (atI_nat (j := 0) hx0) ?_
        walk_at "rr"
        refine w_ixTn hpx (atI_nat (j := 0) hr3) ?_
        refine k _ _ (Ex.refl H) ?_
        rw [detL, hr2]
  | n + 1 => by
    have G_det : FnOk P w K mg base CX0 (n + 1) T.det.f T.det.fd ["table"] (sp_det K n) := ok_det T n
    refine T.det.F.ok sc_det (fun vs H Q E h => ?_) (fun cdv A outer s H vs Q E hr h => ?_)
    · obtain ⟨p, rs, rows, rfl, _⟩ := h
      rfl
    · obtain ⟨p, rs, rows, rfl, hx, ha, hs, hk, k⟩ := h
      have hl : rs.length = n + 2 := by rw [ha.1, hs.len]
      rcases hx with hx | hx
      · refine ⟨_, (pss_cons (ps_if (pt_cmpR op_eq (pe_callB call_len_seq (by rfl) T.n_len (by decide +kernel) (pa_cons (pv 0) pa_nil)) pe_int (nomark _))
        (pss_one (ps_ret (pe_ix (r := rIxT K) ix_tup (pe_ix (r := rIxT K) ix_tup (pv 0) pe_int (fun _ _ => rfl)) pe_int (fun _ _ => rfl))))
        pss_nil)
      (pss_cons (ps_set (i := 1) sc_det.nd rfl (.inl rfl) pe_int)
      (pss_cons (ps_for PassesOwn.never rfl (pi_range1 (by rfl) T.n_range (pa_cons (pe_callB call_len_seq (by rfl) T.n_len (by decide +kernel) (pa_cons (pv 0) pa_nil)) pa_nil)) (pg_name (i := 2) sc_det.nd rfl (.inl rfl))
        (pss_one (ps_if (pt_cmpR op_ne (pe_ix (r := rIxT K) ix_tup (pe_ix (r := rIxT K) ix_tup (pv 0) (pv 2) (fun _ _ => rfl)) pe_int (fun _ _ => rfl)) pe_int (nomark _))
            (pss_cons (ps_setLc (i := 3) (own := [("row", 5)]) (g := gName 5) (by rfl) sc_det.nd rfl rfl (sw_true rfl rfl rfl (by decide +kernel)) (pi_tup (pe_op op_catA (pe_slice (r := rSlA K) sl_tupA (pv 0) po_none (po_some (pv 2))) (pe_slice (r := rSlA K) sl_tupA (pv 0) (po_some (pe_op op_add (pv 2) pe_int)) po_none))) (blkOk_by (own := [("row", 5)]) (N := N_det) (sc := defScope s_det) (by decide +kernel)) (fun _ _ _ _ _ => pg_name (i := 5) sc_det.nd rfl (Or.inl rfl)) (fun _ _ _ _ _ => pts_nil) (fun _ _ _ _ _ => (pe_slice (r := rSlA K) sl_tupA (pv 5) (po_some pe_int) po_none)))
              (pss_cons (ps_set (i := 4) sc_det.nd rfl (.inl rfl) (pe_op op_mul (pe_ix (r := rIxT K) ix_tup (pe_ix (r := rIxT K) ix_tup (pv 0) (pv 2) (fun _ _ => rfl)) pe_int (fun _ _ => rfl)) (pe_call G_det (hr.mono (by omega)) (by rfl) T.det.g T.det.F.kp T.det.b .nil pass0 (pa_cons (pv 3) pa_nil))))
              (pss_cons (ps_if (pt_cmpR op_eq (pe_op op_mod (pv 2) pe_int) pe_int (nomark _))
                (pss_one (ps_set (i := 4) sc_det.nd rfl (.inl rfl) (pe_un un_neg (pv 4))))
                pss_nil)
              (pss_one (ps_aug (i := 1) sc_det.nd rfl (.inl rfl) (pv 4) ip_add)))))
            pss_nil)))
      (pss_one (ps_ret (pv 1)))))), ?_⟩
        rw [show L2.start N_det [V.ref p] = [some (.ref p), none, none, none, none, none] from rfl]
        try dsimp only [cxOf]
        walk_at "rr"
        refine ⟨p, _, rfl, .inr hx, ?_⟩
        rw [hl]
        walk_at "rr"
        refine w_ite (fun h => by omega) (fun _ => ?_)
        walk_at "rr"
        refine ⟨p, _, rfl, .inr hx, ?_⟩
        rw [hl]
        walk_at "rr"
        refine f_r1 (by omega) (by omega) (fun i σ' H' => ∃ y2 y3 y4 y5, σ' = [some (.ref p), some (.int (detS (detL (n + 1)) rows i)), y2, y3, y4, y5] ∧ Ex H H') ⟨none, none, none, none, rfl, Ex.refl H⟩ (fun i σ' H' hi hq => ?_) (fun σ' H' hq => ?_)
        · obtain ⟨y2, y3, y4, y5, rfl, e⟩ := hq
          have hi' : i < n + 2 := by omega
          obtain ⟨r, hr0, hr1, hr2, hr3, hb⟩ := hs.at hi'
          obtain ⟨x, hx0, hxT⟩ := ha.get hr0
          obtain ⟨px, rfl, hpx⟩ := hxT
          walk_at "rr"
          refine w_ixT (ex_t e hx) (atI_nat hx0) ?_
          walk_at "rr"
          refine w_ixTn (ex_t e hpx) (atI_nat (j := 0) hr3) ?_
          walk_at "rr"
          refine w_iteN (fun hne => ?_) (fun h0 => ?_)
          · walk_at "rr"
            refine w_slA (ex_t e hx) fun q1 H1 e1 h1 => ?_
            walk_at "rr"
            refine w_slA (ex_t (e.trans e1) hx) fun q2 H2 e2 h2 => ?_
            rw [cutV_to _ (by omega)] at h1
            rw [show (i : Int) + 1 = ((i + 1 : Nat) : Int) by omega, cutV_from _ (by omega)] at h2
            refine w_catA (ex_t e2 h1) h2 (by rw [List.length_take, List.length_drop]; omega) fun q3 H3 e3 h3 => ?_
            have e03 : Ex H H3 := e.trans (e1.trans (e2.trans e3))
            refine c_tupR (Rin := IsT K H3) (Rout := fun H2 v (z : List Int) => IsT K H2 v z) (fun _ _ _ _ e r => r.ex e) (zs := rows.take i ++ rows.drop (i + 1)) (fun z : List Int => z.drop 1) h3 (((ha.take i).append (ha.drop (i + 1))).mono fun x z r => r.ex e03) (by rw [List.length_append, List.length_take, List.length_drop, hs.len]; omega) (fun _ => rfl) (fun D H2 v z o _ r hD => r.mut hD) (fun x z hz r H4 e4 Q' q' => ?_) (fun D H4 out hD e4 h4 ha4 => ?_)
            · obtain ⟨px, rfl, hpx⟩ := r
              have hzl : z.length = n + 2 := hs.wid z ((List.mem_append.mp hz).elim List.mem_of_mem_take List.mem_of_mem_drop)
              walk_at "rr"
              refine w_slA (ex_t e4 hpx) fun q5 H5 e5 h5 => ?_
              rw [show (1 : Int) = ((1 : Nat) : Int) from rfl, cutV_from _ (by rw [List.length_map]; omega), ← List.map_drop] at h5
              exact q' _ H5 e5 ⟨q5, rfl, h5⟩
            · walk_at "rr"
              refine w_ixT (ex_t (e03.trans e4) hx) (atI_nat hx0) ?_
              walk_at "rr"
              refine w_ixTn (ex_t (e03.trans e4) hpx) (atI_nat (j := 0) hr3) ?_
              walk_at "rr"
              refine ⟨D, out, minorL rows i, rfl, .inr (.inl (.inl h4)), ha4, hs.minor hi', by omega, fun v H5 e5 r5 => ?_⟩
              subst r5
              refine w_I (w_CMul1 (by omega) (by omega)) ?_
              walk_at "rr"
              refine w_I (show (0 : Int) < 2 by decide) ?_
              walk_at "rr"
              refine w_ite (fun hodd => ?_) (fun hev => ?_)
              · walk_at "rr"
                refine ⟨some (.int i), some (.ref D), some (.int (-(r.getD 0 0 * detL (n + 1) (minorL rows i)))), y5, ?_, e03.trans (e4.trans e5)⟩
                rw [detS, hr2, if_pos (by omega)]
                rfl
              · walk_at "rr"
                refine ⟨some (.int i), some (.ref D), some (.int (r.getD 0 0 * detL (n + 1) (minorL rows i))), y5, ?_, e03.trans (e4.trans e5)⟩
                rw [detS, hr2, if_neg (by omega)]
                rfl
          · walk_at "rr"
            refine ⟨some (.int i), y3, y4, y5, ?_, e⟩
            rw [detS, hr2, h0, Int.zero_mul]
            rw [show (if i % 2 = 1 then -(0 : Int) else 0) = 0 by split <;> rfl, Int.add_zero]
            rfl
        · obtain ⟨y2, y3, y4, y5, rfl, e⟩ := hq
          walk_at "rr"
          exact k _ _ e rfl
      · refine ⟨_, (pss_cons (ps_if (pt_cmpR op_eq (pe_callB call_len_seq (by rfl) T.n_len (by decide +kernel) (pa_cons (pv 0) pa_nil)) pe_int (nomark _))
        (pss_one (ps_ret (pe_ix (r := rIxT K) ix_tup (pe_ix (r := rIxL K) ix_list (pv 0) pe_int (fun _ _ => rfl)) pe_int (fun _ _ => rfl))))
        pss_nil)
      (pss_cons (ps_set (i := 1) sc_det.nd rfl (.inl rfl) pe_int)
      (pss_cons (ps_for PassesOwn.never rfl (pi_range1 (by rfl) T.n_range (pa_cons (pe_callB call_len_seq (by rfl) T.n_len (by decide +kernel) (pa_cons (pv 0) pa_nil)) pa_nil)) (pg_name (i := 2) sc_det.nd rfl (.inl rfl))
        (pss_one (ps_if (pt_cmpR op_ne (pe_ix (r := rIxT K) ix_tup (pe_ix (r := rIxL K) ix_list (pv 0) (pv 2) (fun _ _ => rfl)) pe_int (fun _ _ => rfl)) pe_int (nomark _))
            (pss_cons (ps_setLc (i := 3) (own := [("row", 5)]) (g := gName 5) (by rfl) sc_det.nd rfl rfl (sw_true rfl rfl rfl (by decide +kernel)) (pi_list (pe_op op_cat (pe_slice (r := rSlL K) sl_list (pv 0) po_none (po_some (pv 2))) (pe_slice (r := rSlL K) sl_list (pv 0) (po_some (pe_op op_add (pv 2) pe_int)) po_none))) (blkOk_by (own := [("row", 5)]) (N := N_det) (sc := defScope s_det) (by decide +kernel)) (fun _ _ _ _ _ => pg_name (i := 5) sc_det.nd rfl (Or.inl rfl)) (fun _ _ _ _ _ => pts_nil) (fun _ _ _ _ _ => (pe_slice (r := rSlA K) sl_tupA (pv 5) (po_some pe_int) po_none)))
              (pss_cons (ps_set (i := 4) sc_det.nd rfl (.inl rfl) (pe_op op_mul (pe_ix (r := rIxT K) ix_tup (pe_ix (r := rIxL K) ix_list (pv 0) (pv 2) (fun _ _ => rfl)) pe_int (fun _ _ => rfl)) (pe_call G_det (hr.mono (by omega)) (by rfl) T.det.g T.det.F.kp T.det.b .nil pass0 (pa_cons (pv 3) pa_nil))))
              (pss_cons (ps_if (pt_cmpR op_eq (pe_op op_mod (pv 2) pe_int) pe_int (nomark _))
                (pss_one (ps_set (i := 4) sc_det.nd rfl (.inl rfl) (pe_un un_neg (pv 4))))
                pss_nil)
              (pss_one (ps_aug (i := 1) sc_det.nd rfl (.inl rfl) (pv 4) ip_add)))))
            pss_nil)))
      (pss_one (ps_ret (pv 1)))))), ?_⟩
        rw [show L2.start N_det [V.ref p] = [some (.ref p), none, none, none, none, none] from rfl]
        try dsimp only [cxOf]
        walk_at "rr"
        refine ⟨p, _, rfl, .inl hx, ?_⟩
        rw [hl]
        walk_at "rr"
        refine w_ite (fun h => by omega) (fun _ => ?_)
        walk_at "rr"
        refine ⟨p, _, rfl, .inl hx, ?_⟩
        rw [hl]
        walk_at "rr"
        refine f_r1 (by omega) (by omega) (fun i σ' H' => ∃ y2 y3 y4 y5, σ' = [some (.ref p), some (.int (detS (detL (n + 1)) rows i)), y2, y3, y4, y5] ∧ Ex H H') ⟨none, none, none, none, rfl, Ex.refl H⟩ (fun i σ' H' hi hq => ?_) (fun σ' H' hq => ?_)
        · obtain ⟨y2, y3, y4, y5, rfl, e⟩ := hq
          have hi' : i < n + 2 := by omega
          obtain ⟨r, hr0, hr1, hr2, hr3, hb⟩ := hs.at hi'
          obtain ⟨x, hx0, hxT⟩ := ha.get hr0
          obtain ⟨px, rfl, hpx⟩ := hxT
          walk_at "rr"
          refine w_ixL (ex_l e hx) (atI_nat hx0) ?_
          walk_at "rr"
          refine w_ixTn (ex_t e hpx) (atI_nat (j := 0) hr3) ?_
          walk_at "rr"
          refine w_iteN (fun hne => ?_) (fun h0 => ?_)
          · walk_at "rr"
            refine ⟨p, _, rfl, ex_l e hx, fun q1 n1 => ?_⟩
            walk_at "rr"
            refine ⟨p, _, rfl, ex_l (e.trans (Ex.new n1)) hx, fun q2 n2 => ?_⟩
            have n12 : q1 ≠ q2 := fun z => by rw [← z, upd_same] at n2; cases n2
            have h1 : (upd (upd H' q1 (.lst (cutV rs none (some (i : Int))))) q2 (.lst (cutV rs (some ((i : Int) + 1)) none))) q1 = some (.lst (rs.take i)) := by
              rw [upd_ne n12, upd_same, cutV_to _ (by omega)]
            have h2 : (upd (upd H' q1 (.lst (cutV rs none (some (i : Int))))) q2 (.lst (cutV rs (some ((i : Int) + 1)) none))) q2 = some (.lst (rs.drop (i + 1))) := by
              rw [upd_same, show (i : Int) + 1 = ((i + 1 : Nat) : Int) by omega, cutV_from _ (by omega)]
            have e2 : Ex H' (upd (upd H' q1 (.lst (cutV rs none (some (i : Int))))) q2 (.lst (cutV rs (some ((i : Int) + 1)) none))) := (Ex.new n1).trans (Ex.new n2)
            generalize (upd (upd H' q1 (.lst (cutV rs none (some (i : Int))))) q2 (.lst (cutV rs (some ((i : Int) + 1)) none))) = H2 at h1 h2 e2
            refine ⟨q1, q2, _, _, rfl, rfl, h1, h2, Nat.le_of_lt (small1000 (by rw [List.length_take, List.length_drop]; omega)), fun q3 n3 => ?_⟩
            have h3 : SqL K (upd H2 q3 (.lst (rs.take i ++ rs.drop (i + 1)))) q3 (rs.take i ++ rs.drop (i + 1)) := .inl (.inl upd_same)
            have e3 : Ex H2 (upd H2 q3 (.lst (rs.take i ++ rs.drop (i + 1)))) := Ex.new n3
            generalize upd H2 q3 (.lst (rs.take i ++ rs.drop (i + 1))) = H3 at h3 e3
            have e03 : Ex H H3 := e.trans (e2.trans e3)
            refine c_listR (Rin := IsT K H3) (Rout := fun H2 v (z : List Int) => IsT K H2 v z) (fun _ _ _ _ e r => r.ex e) (zs := rows.take i ++ rows.drop (i + 1)) (fun z : List Int => z.drop 1) h3 (((ha.take i).append (ha.drop (i + 1))).mono fun x z r => r.ex e03) (by rw [List.length_append, List.length_take, List.length_drop, hs.len]; omega) (fun _ => rfl) (fun D H2 v z o _ r hD => r.mut hD) (fun x z hz r H4 e4 Q' q' => ?_) (fun D H4 out hD e4 h4 ha4 => ?_)
            · obtain ⟨px, rfl, hpx⟩ := r
              have hzl : z.length = n + 2 := hs.wid z ((List.mem_append.mp hz).elim List.mem_of_mem_take List.mem_of_mem_drop)
              walk_at "rr"
              refine w_slA (ex_t e4 hpx) fun q5 H5 e5 h5 => ?_
              rw [show (1 : Int) = ((1 : Nat) : Int) from rfl, cutV_from _ (by rw [List.length_map]; omega), ← List.map_drop] at h5
              exact q' _ H5 e5 ⟨q5, rfl, h5⟩
            · walk_at "rr"
              refine w_ixL (ex_l (e03.trans e4) hx) (atI_nat hx0) ?_
              walk_at "rr"
              refine w_ixTn (ex_t (e03.trans e4) hpx) (atI_nat (j := 0) hr3) ?_
              walk_at "rr"
              refine ⟨D, out, minorL rows i, rfl, .inr (.inl (.inl h4)), ha4, hs.minor hi', by omega, fun v H5 e5 r5 => ?_⟩
              subst r5
              refine w_I (w_CMul1 (by omega) (by omega)) ?_
              walk_at "rr"
              refine w_I (show (0 : Int) < 2 by decide) ?_
              walk_at "rr"
              refine w_ite (fun hodd => ?_) (fun hev => ?_)
              · walk_at "rr"
                refine ⟨some (.int i), some (.ref D), some (.int (-(r.getD 0 0 * detL (n + 1) (minorL rows i)))), y5, ?_, e03.trans (e4.trans e5)⟩
                rw [detS, hr2, if_pos (by omega)]
                rfl
              · walk_at "rr"
                refine ⟨some (.int i), some (.ref D), some (.int (r.getD 0 0 * detL (n + 1) (minorL rows i))), y5, ?_, e03.trans (e4.trans e5)⟩
                rw [detS, hr2, if_neg (by omega)]
                rfl
          · walk_at "rr"
            refine ⟨some (.int i), y3, y4, y5, ?_, e⟩
            rw [detS, hr2, h0, Int.zero_mul]
            rw [show (if i % 2 = 1 then -(0 : Int) else 0) = 0 by split <;> rfl, Int.add_zero]
            rfl
        · obtain ⟨y2, y3, y4, y5, rfl, e⟩ := hq
          walk_at "rr"
          exact k _ _ e rfl
end
end RH

set_option Elab.async false
set_option linter.all false
set_option maxRecDepth 100000
set_option maxHeartbeats 4000000
namespace RH
open PySem PySem.Spec PyProof.Rows L2 Evl
/-! ### Newton's sums -/
def psIn (ns S : List Int) (k : Nat) : Nat → Int
  | 0 => 0
  | i + 1 => psIn ns S k i - ns.getD (ns.length - 1 - (i + 1)) 0 * S.getD (k - (i + 1)) 0
def psStep (ns S : List Int) (k : Nat) : Int :=
  if k ≤ ns.length - 1 then psIn ns S k (min k ns.length - 1) - (k : Int) * ns.getD (ns.length - 1 - k) 0 else psIn ns S k (min k ns.length - 1)
def psRun (ns : List Int) : Nat → List Int
  | 0 => [((ns.length - 1 : Nat) : Int)]
  | j + 1 => psRun ns j ++ [psStep ns (psRun ns j) (j + 1)]
theorem psRun_len (ns : List Int) : ∀ j, (psRun ns j).length = j + 1
  | 0 => rfl
  | j + 1 => by rw [psRun, List.length_append, psRun_len ns j] <;> rfl
theorem abs_mul {x y A B : Int} (h1 : -A ≤ x ∧ x ≤ A) (h2 : -B ≤ y ∧ y ≤ B) : -(A * B) ≤ x * y ∧ x * y ≤ A * B := mul_bound h1 h2
theorem psIn_bd {ns S : List Int} (hp : IsPoly ns) {k : Nat} (hS : ∀ i, i < k → -(4 * 500 ^ i) ≤ S.getD i 0 ∧ S.getD i 0 ≤ 4 * 500 ^ i) : ∀ m, m < k → m < ns.length → -(4 * (500 ^ k - 500 ^ (k - m))) ≤ psIn ns S k m ∧ psIn ns S k m ≤ 4 * (500 ^ k - 500 ^ (k - m))
  | 0, _, _ => by rw [Nat.sub_zero, psIn]; omega
  | m + 1, h, h' => by
    have ih := psIn_bd hp hS m (by omega) (by omega)
    rw [psIn]
    have hb : -499 ≤ ns.getD (ns.length - 1 - (m + 1)) 0 ∧ ns.getD (ns.length - 1 - (m + 1)) 0 ≤ 499 := hp.bd (List.mem_of_getElem? (getD_get (by omega)))
    have hs := hS (k - (m + 1)) (by omega)
    have hm := abs_mul hb hs
    have e : (500 : Int) ^ (k - m) = 500 * 500 ^ (k - (m + 1)) := by
      rw [show k - m = (k - (m + 1)) + 1 by omega, Int.pow_succ, Int.mul_comm]
    have e2 : (499 : Int) * (4 * 500 ^ (k - (m + 1))) = 4 * (500 * 500 ^ (k - (m + 1)) - 500 ^ (k - (m + 1))) := by omega
    rw [e2] at hm
    rw [e] at ih
    omega
theorem getD_snoc_lt {l : List Int} {x : Int} {i : Nat} (h : i < l.length) : (l ++ [x]).getD i 0 = l.getD i 0 := by
  rw [List.getD_eq_getElem?_getD, List.getD_eq_getElem?_getD, List.getElem?_append_left h]
theorem getD_snoc_eq {l : List Int} {x : Int} {i : Nat} (h : i = l.length) : (l ++ [x]).getD i 0 = x := by
  rw [List.getD_eq_getElem?_getD, List.getElem?_append_right (by omega), h, Nat.sub_self]
  rfl
theorem psRun_bd {ns : List Int} (hp : IsPoly ns) : ∀ j i, i ≤ j → -(4 * 500 ^ i) ≤ (psRun ns j).getD i 0 ∧ (psRun ns j).getD i 0 ≤ 4 * 500 ^ i
  | 0, i, h => by
    have e : i = 0 := by omega
    subst e
    have := hp.len
    show -(4 * 500 ^ 0) ≤ ((ns.length - 1 : Nat) : Int) ∧ ((ns.length - 1 : Nat) : Int) ≤ 4 * 500 ^ 0
    omega
  | j + 1, i, h => by
    have hl := psRun_len ns j
    have hn := hp.len
    by_cases hi : i ≤ j
    · rw [psRun, getD_snoc_lt (by omega)]
      exact psRun_bd hp j i hi
    · have e : i = j + 1 := by omega
      subst e
      rw [psRun, getD_snoc_eq (by omega)]
      have ih := psIn_bd hp (S := psRun ns j) (k := j + 1) (fun i hi => psRun_bd hp j i (by omega)) (min (j + 1) ns.length - 1) (by omega) (by omega)
      have pos : (0 : Int) < 500 ^ (j + 1 - (min (j + 1) ns.length - 1)) := Int.pow_pos (by decide)
      unfold psStep
      split
      · rename_i hk
        have hb : -499 ≤ ns.getD (ns.length - 1 - (j + 1)) 0 ∧ ns.getD (ns.length - 1 - (j + 1)) 0 ≤ 499 := hp.bd (List.mem_of_getElem? (getD_get (by omega)))
        have hm := abs_mul (x := ((j + 1 : Nat) : Int)) (A := 4) (by omega) hb
        rw [show min (j + 1) ns.length - 1 = j by omega, show j + 1 - j = 1 by omega] at ih
        rw [show min (j + 1) ns.length - 1 = j by omega]
        rw [show (500 : Int) ^ 1 = 500 from rfl] at ih
        omega
      · omega
section
local macro_rules | `(tactic| walk_at "rs") => `(tactic| first
  | with_reducible refine w_seq ?_
  | with_reducible refine w_asg ?_
  | ((with_reducible refine' w_var ?h ?_); (case h => exact rfl))
  | with_reducible refine w_c ?_
  | with_reducible refine w_op ?_
  | with_reducible refine w_I0 ?_
  | with_reducible refine w_cb ?_
  | with_reducible refine w_cons ?_
  | with_reducible refine w_nil ?_
  | with_reducible refine w_ret ?_
  | with_reducible refine w_call ?_
  | with_reducible refine w_if ?_
  | with_reducible refine w_test ?_
  | with_reducible refine w_exbl ?_
  | with_reducible refine w_eqI ?_
  | with_reducible refine w_neI ?_
  | with_reducible refine w_next ?_
  | with_reducible refine w_un ?_
  | with_reducible refine w_U ?_
  | with_reducible refine w_B ?_
  | with_reducible refine w_and ?_
  | with_reducible refine w_or ?_
  | with_reducible refine w_not ?_
  | with_reducible refine w_andV ?_
  | with_reducible refine w_notV ?_
  | with_reducible refine w_tup ?_
  | with_reducible refine w_lst ?_
  | with_reducible refine w_for ?_
  | with_reducible refine w_rng1 ?_
  | with_reducible refine w_rng2 ?_
  | with_reducible refine w_rng3 ?_
  | with_reducible refine w_iList ?_
  | with_reducible refine w_iTup ?_
  | with_reducible refine w_iRevA ?_
  | with_reducible refine w_lc ?_
  | with_reducible refine w_drop ?_
  | with_reducible refine w_par ?_
  | ((with_reducible refine' w_aug ?h ?_); (case h => exact rfl))
  | with_reducible refine w_sl ?_
  | with_reducible refine w_noPart ?_
  | with_reducible refine w_part ?_
  | with_reducible refine w_exint ?_
  | with_reducible refine w_revL ?_
  | with_reducible refine w_bm ?_
  | with_reducible refine w_augS ?_
  | with_reducible refine w_ip ?_
  | with_reducible refine w_gSub ?_
  | with_reducible refine w_gName ?_
  | with_reducible refine w_gCons ?_
  | with_reducible refine w_gNil ?_
  | with_reducible refine w_chain ?_
  | with_reducible refine w_asgG ?_)
local macro_rules | `(tactic| walk_at "rr") => `(tactic| repeat walk_at "rs")
local macro_rules | `(tactic| walk_at "rn1") => `(tactic| first
  | with_reducible refine w_seq ?_
  | with_reducible refine w_asg ?_
  | ((with_reducible refine' w_var ?h ?_); (case h => exact rfl))
  | with_reducible refine w_c ?_
  | with_reducible refine w_op ?_
  | with_reducible refine w_I0 ?_
  | with_reducible refine w_cb ?_
  | with_reducible refine w_cons ?_
  | with_reducible refine w_nil ?_
  | with_reducible refine w_ret ?_
  | with_reducible refine w_call ?_
  | with_reducible refine w_if ?_
  | with_reducible refine w_test ?_
  | with_reducible refine w_exbl ?_
  | with_reducible refine w_eqI ?_
  | with_reducible refine w_neI ?_
  | with_reducible refine w_next ?_
  | with_reducible refine w_un ?_
  | with_reducible refine w_U ?_
  | with_reducible refine w_B ?_
  | with_reducible refine w_and ?_
  | with_reducible refine w_or ?_
  | with_reducible refine w_not ?_
  | with_reducible refine w_andV ?_
  | with_reducible refine w_notV ?_
  | with_reducible refine w_lst ?_
  | with_reducible refine w_for ?_
  | with_reducible refine w_rng1 ?_
  | with_reducible refine w_rng2 ?_
  | with_reducible refine w_rng3 ?_
  | with_reducible refine w_iList ?_
  | with_reducible refine w_iTup ?_
  | with_reducible refine w_iRevA ?_
  | with_reducible refine w_lc ?_
  | with_reducible refine w_drop ?_
  | with_reducible refine w_par ?_
  | ((with_reducible refine' w_aug ?h ?_); (case h => exact rfl))
  | with_reducible refine w_sl ?_
  | with_reducible refine w_noPart ?_
  | with_reducible refine w_part ?_
  | with_reducible refine w_exint ?_
  | with_reducible refine w_revL ?_
  | with_reducible refine w_bm ?_
  | with_reducible refine w_augS ?_
  | with_reducible refine w_ip ?_
  | with_reducible refine w_gSub ?_
  | with_reducible refine w_gName ?_
  | with_reducible refine w_gCons ?_
  | with_reducible refine w_gNil ?_
  | with_reducible refine w_chain ?_
  | with_reducible refine w_asgG ?_)
local macro_rules | `(tactic| walk_at "rn") => `(tactic| repeat walk_at "rn1")

variable {P : Program} {w : World} {K : PySem.W.Frag} {mg : Str → Option Value} {base : Heap}
def sp_power_sums (K : PySem.W.Frag) : Sp := fun vs H Q _ => ∃ (p : Addr) (ns : List Int) (m : Nat), vs = [.ref p, .int ((m + 1 : Nat) : Int)] ∧ SqT K H p (ns.map V.int) ∧ IsPoly ns ∧ m ≤ 100 ∧ Ret H Q fun H' v => IsL K H' v (psRun ns m)
theorem ok_power_sums (T : Txt K mg) : FnOk P w K mg base CX0 1 T.power_sums.f T.power_sums.fd ["poly", "many"] (sp_power_sums K) := by
  refine T.power_sums.F.ok sc_power_sums (fun vs H Q E h => ?_) (fun cdv A outer s H vs Q E hr h => ?_)
  · obtain ⟨p, ns, m, rfl, _⟩ := h
    rfl
  · obtain ⟨p, ns, m, rfl, hx, hp, hm, k⟩ := h
    have hl := hp.len
    refine ⟨_, (pss_cons (ps_set (i := 2) sc_power_sums.nd rfl (.inl rfl) (pe_op op_sub (pe_callB call_len_seq (by rfl) T.n_len (by decide +kernel) (pa_cons (pv 0) pa_nil)) pe_int))
      (pss_cons (ps_set (i := 3) sc_power_sums.nd rfl (.inl rfl) (pe_lst (pa_cons (pv 2) pa_nil)))
      (pss_cons (ps_for PassesOwn.never rfl (pi_range2 (by rfl) T.n_range (pa_cons pe_int (pa_cons (pv 1) pa_nil))) (pg_name (i := 4) sc_power_sums.nd rfl (.inl rfl))
        (pss_cons (ps_set (i := 5) sc_power_sums.nd rfl (.inl rfl) pe_int)
          (pss_cons (ps_for PassesOwn.never rfl (pi_range2 (by rfl) T.n_range (pa_cons pe_int (pa_cons (pe_callB (call_min2 rfl) (by rfl) T.n_min (by decide +kernel) (pa_cons (pv 4) (pa_cons (pe_op op_add (pv 2) pe_int) pa_nil))) pa_nil))) (pg_name (i := 6) sc_power_sums.nd rfl (.inl rfl))
            (pss_one (ps_set (i := 5) sc_power_sums.nd rfl (.inl rfl) (pe_op op_sub (pv 5) (pe_op op_mul (pe_ix (r := rIxT K) ix_tup (pv 0) (pe_op op_sub (pv 2) (pv 6)) (fun _ _ => rfl)) (pe_ix (r := rIxL K) ix_list (pv 3) (pe_op op_sub (pv 4) (pv 6)) (fun _ _ => rfl)))))))
          (pss_cons (ps_if (pt_cmpR op_le (pv 4) (pv 2) (nomark _))
            (pss_one (ps_set (i := 5) sc_power_sums.nd rfl (.inl rfl) (pe_op op_sub (pv 5) (pe_op op_mul (pv 4) (pe_ix (r := rIxT K) ix_tup (pv 0) (pe_op op_sub (pv 2) (pv 4)) (fun _ _ => rfl))))))
            pss_nil)
          (pss_one (ps_expr (pe_bm PySem.F.plainAttrs_list PySem.F.slot_list_append PySem.F.type_list_append mt_append (pv 3) (pa_cons (pv 5) pa_nil))))))))
      (pss_one (ps_ret (pv 3)))))), ?_⟩
    rw [show L2.start N_power_sums [V.ref p, .int ((m + 1 : Nat) : Int)] = [some (.ref p), some (.int ((m + 1 : Nat) : Int)), none, none, none, none, none] from rfl]
    try dsimp only [cxOf]
    walk_at "rr"
    refine ⟨p, _, rfl, .inr hx, ?_⟩
    rw [List.length_map]
    walk_at "rr"
    rw [show (ns.length : Int) - 1 = ((ns.length - 1 : Nat) : Int) by omega]
    refine ⟨by show 1 ≤ sizeLine; decide, fun L hL => ?_⟩
    have e1 : Ex H (upd H L (.lst [.int ((ns.length - 1 : Nat) : Int)])) := Ex.new hL
    have h1 : (upd H L (.lst [.int ((ns.length - 1 : Nat) : Int)])) L = some (.lst ((psRun ns 0).map V.int)) := upd_same
    generalize upd H L (.lst [.int ((ns.length - 1 : Nat) : Int)]) = H1 at e1 h1
    walk_at "rr"
    refine f_r2 (by omega) (by omega) (by omega) (by omega) (fun j σ' H' => ∃ y4 y5 y6, σ' = [some (.ref p), some (.int ((m + 1 : Nat) : Int)), some (.int ((ns.length - 1 : Nat) : Int)), some (.ref L), y4, y5, y6] ∧ Ex H H' ∧ H' L = some (.lst ((psRun ns j).map V.int)))
      ⟨none, none, none, rfl, e1, h1⟩ (fun j σ' H' hj hq => ?_) (fun σ' H' hq => ?_)
    · obtain ⟨y4, y5, y6, rfl, e, h1⟩ := hq
      have sl := psRun_len ns j
      rw [show (1 : Int) + (j : Int) = ((j + 1 : Nat) : Int) by omega]
      walk_at "rr"
      refine ⟨_, _, rfl, ?_⟩
      rw [show (if ((ns.length - 1 : Nat) : Int) + 1 < ((j + 1 : Nat) : Int) then ((ns.length - 1 : Nat) : Int) + 1 else ((j + 1 : Nat) : Int)) = ((min (j + 1) ns.length : Nat) : Int) by split <;> omega]
      walk_at "rr"
      refine f_r2 (by omega) (by omega) (by omega) (by omega) (fun i σ' H' => ∃ y6, σ' = [some (.ref p), some (.int ((m + 1 : Nat) : Int)), some (.int ((ns.length - 1 : Nat) : Int)), some (.ref L), some (.int ((j + 1 : Nat) : Int)), some (.int (psIn ns (psRun ns j) (j + 1) i)), y6] ∧ Ex H H' ∧ H' L = some (.lst ((psRun ns j).map V.int)))
        ⟨y6, rfl, e, h1⟩ (fun i σ' H' hi hq => ?_) (fun σ' H' hq => ?_)
      · obtain ⟨y6, rfl, e, h1⟩ := hq
        walk_at "rr"
        rw [show ((ns.length - 1 : Nat) : Int) - (1 + (i : Int)) = ((ns.length - 1 - (i + 1) : Nat) : Int) by omega]
        refine w_ixTn (ex_t e hx) (atI_nat (getD_get (show ns.length - 1 - (i + 1) < ns.length by omega))) ?_
        walk_at "rr"
        rw [show ((j + 1 : Nat) : Int) - (1 + (i : Int)) = ((j + 1 - (i + 1) : Nat) : Int) by omega]
        refine w_ixLn (.inl (.inl h1)) (atI_nat (getD_get (show j + 1 - (i + 1) < (psRun ns j).length by omega))) ?_
        have hb : -499 ≤ ns.getD (ns.length - 1 - (i + 1)) 0 ∧ ns.getD (ns.length - 1 - (i + 1)) 0 ≤ 499 := hp.bd (List.mem_of_getElem? (getD_get (by omega)))
        refine w_I (w_CMul1 (by omega) (by omega)) ?_
        walk_at "rr"
        exact ⟨some (.int (1 + (i : Int))), rfl, e, h1⟩
      · obtain ⟨y6, rfl, e, h1⟩ := hq
        rw [show (((min (j + 1) ns.length : Nat) : Int) - 1).toNat = min (j + 1) ns.length - 1 by omega]
        have fin : ∀ t, t = psStep ns (psRun ns j) (j + 1) → ∀ y4 y6, tDrop (tBM K "list" rAppend (tVar 3) (tCons (tVar 5) tNil)) ⟨fun σ' H' => ∃ y4 y5 y6, σ' = [some (.ref p), some (.int ((m + 1 : Nat) : Int)), some (.int ((ns.length - 1 : Nat) : Int)), some (.ref L), y4, y5, y6] ∧ Ex H H' ∧ H' L = some (.lst ((psRun ns (j + 1)).map V.int)), Q, tRet (tVar 3) ⟨fun x H' => Q V.non H', Q, fun _ _ => False, fun _ _ => False⟩, fun σ' H' => ∃ y4 y5 y6, σ' = [some (.ref p), some (.int ((m + 1 : Nat) : Int)), some (.int ((ns.length - 1 : Nat) : Int)), some (.ref L), y4, y5, y6] ∧ Ex H H' ∧ H' L = some (.lst ((psRun ns (j + 1)).map V.int))⟩
            [some (.ref p), some (.int ((m + 1 : Nat) : Int)), some (.int ((ns.length - 1 : Nat) : Int)), some (.ref L), y4, some (.int t), y6] H' := by
          rintro t rfl y4 y6
          walk_at "rr"
          refine w_tyL h1 ?_
          walk_at "rr"
          refine w_append h1 (by rw [List.length_map]; omega) ?_
          refine ⟨_, _, _, rfl, Ex.mut e hL, ?_⟩
          rw [upd_same, psRun, List.map_append]
          rfl
        walk_at "rr"
        refine w_ite (fun hk => ?_) (fun hk => ?_)
        · walk_at "rr"
          rw [show ((ns.length - 1 : Nat) : Int) - ((j + 1 : Nat) : Int) = ((ns.length - 1 - (j + 1) : Nat) : Int) by omega]
          refine w_ixTn (ex_t e hx) (atI_nat (getD_get (show ns.length - 1 - (j + 1) < ns.length by omega))) ?_
          refine w_I (w_CMul1 (by omega) (by omega)) ?_
          walk_at "rr"
          refine w_tyL h1 ?_
          walk_at "rr"
          refine w_append h1 (by rw [List.length_map]; omega) ?_
          refine ⟨_, _, _, rfl, Ex.mut e hL, ?_⟩
          rw [upd_same, psRun, List.map_append, psStep, if_pos (by omega)]
          rfl
        · walk_at "rr"
          refine w_tyL h1 ?_
          walk_at "rr"
          refine w_append h1 (by rw [List.length_map]; omega) ?_
          refine ⟨_, _, _, rfl, Ex.mut e hL, ?_⟩
          rw [upd_same, psRun, List.map_append, psStep, if_neg (by omega)]
          rfl
    · obtain ⟨y4, y5, y6, rfl, e, h1⟩ := hq
      rw [show (((m + 1 : Nat) : Int) - 1).toNat = m by omega] at h1
      walk_at "rr"
      exact k _ _ e ⟨L, rfl, .inl (.inl h1)⟩
/-! ### measure -/
def rowsM (S : List Int) (d : Nat) : List (List Int) := (List.range d).map fun i => (List.range d).map fun j => S.getD (i + j) 0
def measM (ns : List Int) : Int := detL (ns.length - 1) (rowsM (psRun ns (2 * (ns.length - 1) - 2)) (ns.length - 1))
def sp_measure (K : PySem.W.Frag) : Sp := fun vs H Q _ => ∃ (p : Addr) (ns : List Int), vs = [.ref p] ∧ SqT K H p (ns.map V.int) ∧ IsPoly ns ∧ Ret H Q fun _ v => v = .int (measM ns)
theorem pow500 {i : Nat} (h : i ≤ 6) : (4 * 500 ^ i : Int) < 2 ^ 60 := by
  have : i = 0 ∨ i = 1 ∨ i = 2 ∨ i = 3 ∨ i = 4 ∨ i = 5 ∨ i = 6 := by omega
  rcases this with rfl | rfl | rfl | rfl | rfl | rfl | rfl <;> decide
theorem rowsM_sq {ns : List Int} (hp : IsPoly ns) : Sq (ns.length - 1) (rowsM (psRun ns (2 * (ns.length - 1) - 2)) (ns.length - 1)) where
  len := by unfold rowsM; rw [List.length_map, List.length_range]
  wid := fun r hr => by
    obtain ⟨i, _, rfl⟩ := List.mem_map.mp hr
    rw [List.length_map, List.length_range]
  bd := fun r hr c hc => by
    obtain ⟨i, hi, rfl⟩ := List.mem_map.mp hr
    obtain ⟨j, hj, rfl⟩ := List.mem_map.mp hc
    rw [List.mem_range] at hi hj
    have hl := hp.len
    have := psRun_bd hp (2 * (ns.length - 1) - 2) (i + j) (by omega)
    have := pow500 (i := i + j) (by omega)
    omega
theorem ok_measure (T : Txt K mg) (G_check_poly : FnOk P w K mg base CX0 1 T.check_poly.f T.check_poly.fd ["poly"] (sp_check_poly K)) (G_power_sums : FnOk P w K mg base CX0 1 T.power_sums.f T.power_sums.fd ["poly", "many"] (sp_power_sums K))
    (G_det0 : ∀ k, FnOk P w K mg base CX0 (k + 1) T.det.f T.det.fd ["table"] (sp_det K k)) : FnOk P w K mg base CX0 5 T.measure.f T.measure.fd ["poly"] (sp_measure K) := by
  refine T.measure.F.ok sc_measure (fun vs H Q E h => ?_) (fun cdv A outer s H vs Q E hr h => ?_)
  · obtain ⟨p, ns, rfl, _⟩ := h
    rfl
  · obtain ⟨p, ns, rfl, hx, hp, k⟩ := h
    have hl := hp.len
    have G_det := (G_det0 (ns.length - 2)).mono (k := 4) (by omega)
    refine ⟨_, (pss_cons (ps_expr (pe_call G_check_poly (hr.mono (by omega)) (by rfl) T.check_poly.g T.check_poly.F.kp T.check_poly.b .nil pass0 (pa_cons (pv 0) pa_nil)))
      (pss_cons (ps_set (i := 1) sc_measure.nd rfl (.inl rfl) (pe_op op_sub (pe_callB call_len_seq (by rfl) T.n_len (by decide +kernel) (pa_cons (pv 0) pa_nil)) pe_int))
      (pss_cons (ps_set (i := 2) sc_measure.nd rfl (.inr rfl) (pe_call G_power_sums (hr.mono (by omega)) (by rfl) T.power_sums.g T.power_sums.F.kp T.power_sums.b .nil pass0 (pa_cons (pv 0) (pa_cons (pe_op op_sub (pe_op op_mul pe_int (pv 1)) pe_int) pa_nil))))
      (pss_cons (ps_set (i := 3) sc_measure.nd rfl (.inl rfl) (pe_lst pa_nil))
      (pss_cons (ps_for PassesOwn.never rfl (pi_range1 (by rfl) T.n_range (pa_cons (pv 1) pa_nil)) (pg_name (i := 4) sc_measure.nd rfl (.inr rfl))
        (pss_one (ps_expr (pe_bm PySem.F.plainAttrs_list PySem.F.slot_list_append PySem.F.type_list_append mt_append (pv 3) (pa_cons (pe_callTy call_tuple_of (by rfl) T.n_tuple (by decide +kernel) (pa_cons (pe_lc (own := [("j", 5)]) (g := gName 5) (by rfl) sc_measure.nd (pi_range1 (by rfl) T.n_range (pa_cons (pv 1) pa_nil)) (blkOk_by (own := [("j", 5)]) (N := N_measure) (sc := defScope s_measure) (by decide +kernel)) (fun _ _ _ _ _ => pg_name (i := 5) sc_measure.nd rfl (Or.inl rfl)) (fun _ _ _ _ _ => pts_nil) (fun _ _ _ _ _ => (pe_ix (r := rIxL K) ix_list (pv 2) (pe_op op_add (pv 4) (pv 5)) (fun _ _ => rfl)))) pa_nil)) pa_nil)))))
      (pss_one (ps_ret (pe_call G_det (hr.mono (by omega)) (by rfl) T.det.g T.det.F.kp T.det.b .nil pass0 (pa_cons (pe_callTy call_tuple_of (by rfl) T.n_tuple (by decide +kernel) (pa_cons (pv 3) pa_nil)) pa_nil))))))))), ?_⟩
    rw [show L2.start N_measure [V.ref p] = [some (.ref p), none, none, none, none, none] from rfl]
    try dsimp only [cxOf]
    walk_at "rr"
    refine ⟨p, ns, rfl, hx, hp, fun v H1 e1 _ => ?_⟩
    walk_at "rr"
    refine ⟨p, _, rfl, .inr (ex_t e1 hx), ?_⟩
    rw [List.length_map]
    walk_at "rr"
    rw [show (ns.length : Int) - 1 = ((ns.length - 1 : Nat) : Int) by omega]
    refine w_I (w_CMul1 (by omega) (by omega)) ?_
    walk_at "rr"
    refine ⟨p, ns, 2 * (ns.length - 1) - 2, ?_, ex_t e1 hx, hp, by omega, fun v H2 e2 r2 => ?_⟩
    · rw [show (2 : Int) * ((ns.length - 1 : Nat) : Int) - 1 = ((2 * (ns.length - 1) - 2 + 1 : Nat) : Int) by omega]
    obtain ⟨pS, rfl, hS⟩ := r2
    have e02 := e1.trans e2
    have Sl := psRun_len ns (2 * (ns.length - 1) - 2)
    have dM : measM ns = detL (ns.length - 2 + 1) (rowsM (psRun ns (2 * (ns.length - 1) - 2)) (ns.length - 1)) := by
      unfold measM
      rw [show ns.length - 2 + 1 = ns.length - 1 by omega]
    have sq := rowsM_sq hp
    generalize psRun ns (2 * (ns.length - 1) - 2) = S at hS Sl dM sq
    walk_at "rr"
    refine ⟨Nat.zero_le _, fun L hL => ?_⟩
    have e3 : Ex H2 (upd H2 L (.lst [])) := Ex.new hL
    have h3 : (upd H2 L (.lst [])) L = some (.lst []) := upd_same
    generalize upd H2 L (.lst []) = H3 at e3 h3
    walk_at "rr"
    refine f_r1 (by omega) (by omega) (fun i σ' H' => ∃ y4 out, σ' = [some (.ref p), some (.int ((ns.length - 1 : Nat) : Int)), some (.ref pS), some (.ref L), y4, none] ∧ Ex H2 H' ∧ H' L = some (.lst out) ∧ AllR (IsT K H') out ((List.range i).map fun i => (List.range (ns.length - 1)).map fun j => S.getD (i + j) 0))
      ⟨none, [], rfl, e3, h3, AllR.nil⟩ (fun i σ' H' hi hq => ?_) (fun σ' H' hq => ?_)
    · obtain ⟨y4, out, rfl, e, hL', ha⟩ := hq
      have hol : out.length = i := by rw [ha.1, List.length_map, List.length_range]
      walk_at "rr"
      refine w_tyL hL' ?_
      walk_at "rr"
      refine c_r1 (by omega) (by omega) ?_
      refine c_rng (fun _ => true) (fun z => .int (S.getD (i + z.toNat) 0)) (by omega) (fun _ => rfl) (fun j _ => gives_yes) (fun j hj _ H4 e4 Q' q' => ?_) (fun D H4 hD e4 hacc => ?_)
      · rw [Int.zero_add]
        walk_at "rr"
        rw [show (i : Int) + (j : Int) = ((i + j : Nat) : Int) by omega]
        refine w_ixLn (ex_l (e.trans e4) hS) (atI_nat (getD_get (show i + j < S.length by omega))) ?_
        have q2 := q' _ (Ex.refl _)
        rw [show (0 + (j : Int)).toNat = j by omega] at q2
        exact q2
      · walk_at "rr"
        rw [lcAcc_all, List.map_map] at hacc
        refine ⟨D, _, rfl, .inl ⟨.inl (.inl hacc), fun q hq => ?_⟩⟩
        walk_at "rr"
        refine w_append (xs := out) ((Ex.new hq) _ _ (e4 _ _ hL')) (by omega) ?_
        refine ⟨some (.int i), out ++ [.ref q], rfl, Ex.mut (e.trans (e4.trans (Ex.new hq))) hL, upd_same, ?_⟩
        rw [List.range_succ, List.map_append]
        refine (ha.mono fun x z r => ?_).snoc ?_
        · exact (r.ex (e4.trans (Ex.new hq))).mut ⟨_, (Ex.new hq) _ _ (e4 _ _ hL')⟩
        · refine IsT.mut ⟨q, rfl, .inl (.inl ?_)⟩ ⟨_, (Ex.new hq) _ _ (e4 _ _ hL')⟩
          rw [upd_same, List.map_map]
          congr 2
          rw [Int.toNat_natCast]
          refine List.map_congr_left fun j _ => ?_
          show V.int (S.getD (i + (0 + (j : Int)).toNat) 0) = V.int (S.getD (i + j) 0)
          rw [Int.zero_add, Int.toNat_natCast]
    · obtain ⟨y4, out, rfl, e, hL', ha⟩ := hq
      walk_at "rr"
      refine ⟨L, out, rfl, .inl ⟨.inl (.inl hL'), fun q hq => ?_⟩⟩
      walk_at "rr"
      refine ⟨q, out, rowsM S (ns.length - 1), rfl, .inl (.inl (.inl upd_same)), ?_, ?_, by omega, fun v H5 e5 r5 => ?_⟩
      · rw [Int.toNat_natCast] at ha
        exact ha.mono fun x z r => r.ex (Ex.new hq)
      · rw [show ns.length - 2 + 1 = ns.length - 1 by omega]
        exact sq
      · rw [← dM] at r5
        exact k _ _ (e02.trans (e.trans ((Ex.new hq).trans e5))) r5
end
end RH

set_option Elab.async false
set_option linter.all false
set_option maxRecDepth 100000
set_option maxHeartbeats 4000000
namespace RH
open PySem PySem.Spec PyProof.Rows L2 Evl
/-! ### monic rows modulo m -/
structure MR (m : Int) (ns : List Int) : Prop where
  mon : ∃ cs, ns = cs ++ [1]
  red : ∀ c ∈ ns, 0 ≤ c ∧ c < m
  len : ns.length ≤ 5
theorem MR.pos {m : Int} {ns : List Int} (h : MR m ns) : 1 ≤ ns.length := by
  obtain ⟨cs, rfl⟩ := h.mon
  rw [List.length_append]
  exact Nat.le_add_left 1 _
theorem cutM_one (cs : List Int) : cutM (cs ++ [1]) = cs ++ [1] := by
  have e : (cs ++ [1]).length = cs.length + 1 := by rw [List.length_append] <;> rfl
  unfold cutM
  rw [e, cutN, if_neg, ← e, List.take_length]
  rw [getD_snoc_eq rfl]
  decide
theorem map_mod {m : Int} {ns : List Int} (h : ∀ c ∈ ns, 0 ≤ c ∧ c < m) : ns.map (· % m) = ns := by
  have e : ns.map (· % m) = ns.map id := List.map_congr_left fun c hc => Int.emod_eq_of_lt (h c hc).1 (h c hc).2
  rw [e, List.map_id]
theorem MR.mod {m : Int} {ns : List Int} (h : MR m ns) : cutM (ns.map (· % m)) = ns := by
  rw [map_mod h.red]
  obtain ⟨cs, rfl⟩ := h.mon
  exact cutM_one cs
def mdIn (low m part : Int) (k : Nat) (l : List Int) : Nat → List Int
  | 0 => l
  | j + 1 => (mdIn low m part k l j).set (k + j) (((mdIn low m part k l j).getD (k + j) 0 - part * [low, 1].getD j 0) % m)
theorem mdIn_len {low m part : Int} {k : Nat} {l : List Int} : ∀ j, (mdIn low m part k l j).length = l.length
  | 0 => rfl
  | j + 1 => by rw [mdIn, List.length_set, mdIn_len j]
def mdRun (ns : List Int) (low m : Int) : Nat → List Int × List Int
  | 0 => (ns, [])
  | i + 1 => (mdIn low m ((mdRun ns low m i).1.getD (ns.length - 2 - i + 1) 0 * 1 % m) (ns.length - 2 - i) (mdRun ns low m i).1 2, (mdRun ns low m i).2 ++ [(mdRun ns low m i).1.getD (ns.length - 2 - i + 1) 0 * 1 % m])
theorem mdRun_len1 {ns : List Int} {low m : Int} : ∀ i, (mdRun ns low m i).1.length = ns.length
  | 0 => rfl
  | i + 1 => by rw [mdRun, mdIn_len, mdRun_len1 i]
theorem mdRun_len2 {ns : List Int} {low m : Int} : ∀ i, (mdRun ns low m i).2.length = i
  | 0 => rfl
  | i + 1 => by rw [mdRun, List.length_append, mdRun_len2 i] <;> rfl
def sdiv (ns : List Int) (low m : Int) : List Int := cutM (mdRun ns low m (ns.length - 1)).2.reverse
section
local macro_rules | `(tactic| walk_at "rs") => `(tactic| first
  | with_reducible refine w_seq ?_
  | with_reducible refine w_asg ?_
  | ((with_reducible refine' w_var ?h ?_); (case h => exact rfl))
  | with_reducible refine w_c ?_
  | with_reducible refine w_op ?_
  | with_reducible refine w_I0 ?_
  | with_reducible refine w_cb ?_
  | with_reducible refine w_cons ?_
  | with_reducible refine w_nil ?_
  | with_reducible refine w_ret ?_
  | with_reducible refine w_call ?_
  | with_reducible refine w_if ?_
  | with_reducible refine w_test ?_
  | with_reducible refine w_exbl ?_
  | with_reducible refine w_eqI ?_
  | with_reducible refine w_neI ?_
  | with_reducible refine w_next ?_
  | with_reducible refine w_un ?_
  | with_reducible refine w_U ?_
  | with_reducible refine w_B ?_
  | with_reducible refine w_and ?_
  | with_reducible refine w_or ?_
  | with_reducible refine w_not ?_
  | with_reducible refine w_andV ?_
  | with_reducible refine w_notV ?_
  | with_reducible refine w_tup ?_
  | with_reducible refine w_lst ?_
  | with_reducible refine w_for ?_
  | with_reducible refine w_rng1 ?_
  | with_reducible refine w_rng2 ?_
  | with_reducible refine w_rng3 ?_
  | with_reducible refine w_iList ?_
  | with_reducible refine w_iTup ?_
  | with_reducible refine w_iRevA ?_
  | with_reducible refine w_lc ?_
  | with_reducible refine w_drop ?_
  | with_reducible refine w_par ?_
  | ((with_reducible refine' w_aug ?h ?_); (case h => exact rfl))
  | with_reducible refine w_sl ?_
  | with_reducible refine w_noPart ?_
  | with_reducible refine w_part ?_
  | with_reducible refine w_exint ?_
  | with_reducible refine w_revL ?_
  | with_reducible refine w_bm ?_
  | with_reducible refine w_augS ?_
  | with_reducible refine w_ip ?_
  | with_reducible refine w_gSub ?_
  | with_reducible refine w_gName ?_
  | with_reducible refine w_gCons ?_
  | with_reducible refine w_gNil ?_
  | with_reducible refine w_chain ?_
  | with_reducible refine w_asgG ?_)
local macro_rules | `(tactic| walk_at "rr") => `(tactic| repeat walk_at "rs")
local macro_rules | `(tactic| walk_at "rn1") => `(tactic| first
  | with_reducible refine w_seq ?_
  | with_reducible refine w_asg ?_
  | ((with_reducible refine' w_var ?h ?_); (case h => exact rfl))
  | with_reducible refine w_c ?_
  | with_reducible refine w_op ?_
  | with_reducible refine w_I0 ?_
  | with_reducible refine w_cb ?_
  | with_reducible refine w_cons ?_
  | with_reducible refine w_nil ?_
  | with_reducible refine w_ret ?_
  | with_reducible refine w_call ?_
  | with_reducible refine w_if ?_
  | with_reducible refine w_test ?_
  | with_reducible refine w_exbl ?_
  | with_reducible refine w_eqI ?_
  | with_reducible refine w_neI ?_
  | with_reducible refine w_next ?_
  | with_reducible refine w_un ?_
  | with_reducible refine w_U ?_
  | with_reducible refine w_B ?_
  | with_reducible refine w_and ?_
  | with_reducible refine w_or ?_
  | with_reducible refine w_not ?_
  | with_reducible refine w_andV ?_
  | with_reducible refine w_notV ?_
  | with_reducible refine w_lst ?_
  | with_reducible refine w_for ?_
  | with_reducible refine w_rng1 ?_
  | with_reducible refine w_rng2 ?_
  | with_reducible refine w_rng3 ?_
  | with_reducible refine w_iList ?_
  | with_reducible refine w_iTup ?_
  | with_reducible refine w_iRevA ?_
  | with_reducible refine w_lc ?_
  | with_reducible refine w_drop ?_
  | with_reducible refine w_par ?_
  | ((with_reducible refine' w_aug ?h ?_); (case h => exact rfl))
  | with_reducible refine w_sl ?_
  | with_reducible refine w_noPart ?_
  | with_reducible refine w_part ?_
  | with_reducible refine w_exint ?_
  | with_reducible refine w_revL ?_
  | with_reducible refine w_bm ?_
  | with_reducible refine w_augS ?_
  | with_reducible refine w_ip ?_
  | with_reducible refine w_gSub ?_
  | with_reducible refine w_gName ?_
  | with_reducible refine w_gCons ?_
  | with_reducible refine w_gNil ?_
  | with_reducible refine w_chain ?_
  | with_reducible refine w_asgG ?_)
local macro_rules | `(tactic| walk_at "rn") => `(tactic| repeat walk_at "rn1")

variable {P : Program} {w : World} {K : PySem.W.Frag} {mg : Str → Option Value} {base : Heap}
def sp_mod_parted (K : PySem.W.Frag) : Sp := fun vs H Q _ => ∃ (p q : Addr) (ns : List Int) (low m : Int), vs = [.ref p, .ref q, .int m] ∧ SqT K H p (ns.map V.int) ∧ SqT K H q ([low, 1].map V.int) ∧ m ∈ primes ∧ 0 ≤ low ∧ low < m ∧ MR m ns ∧ 2 ≤ ns.length ∧
  Ret H Q fun H' v => IsPr K H' v (fun x => IsT K H' x (sdiv ns low m)) (fun _ => True)
theorem ok_mod_parted (T : Txt K mg) (G_mod_poly : FnOk P w K mg base CX0 2 T.mod_poly.f T.mod_poly.fd ["row", "p"] (sp_mod_poly K)) (G_turned : FnOk P w K mg base CX0 1 T.turned.f T.turned.fd ["a", "p"] sp_turned)
    (G_cut : FnOk P w K mg base CX0 1 T.cut.f T.cut.fd ["row"] (sp_cut K)) : FnOk P w K mg base CX0 3 T.mod_parted.f T.mod_parted.fd ["a", "b", "p"] (sp_mod_parted K) := by
  refine T.mod_parted.F.ok sc_mod_parted (fun vs H Q E h => ?_) (fun cdv A outer s H vs Q E hr h => ?_)
  · obtain ⟨p, q, ns, low, m, rfl, _⟩ := h
    rfl
  · obtain ⟨p, q, ns, low, m, rfl, hx, hy, hm, l0, l1, hM, hl2, k⟩ := h
    have hb := primes_bd hm
    have hl5 := hM.len
    have hMb : MR m [low, 1] := ⟨⟨[low], rfl⟩, fun c hc => by
      rcases List.mem_cons.mp hc with rfl | hc
      · exact ⟨l0, l1⟩
      · rw [List.mem_singleton.mp hc]; omega, by show 2 ≤ 5; decide⟩
    refine ⟨_, (pss_cons (ps_set (i := 3) sc_mod_parted.nd rfl (.inl rfl) (pe_callTy call_list_of (by rfl) T.n_list (by decide +kernel) (pa_cons (pe_call G_mod_poly (hr.mono (by omega)) (by rfl) T.mod_poly.g T.mod_poly.F.kp T.mod_poly.b .nil pass0 (pa_cons (pv 0) (pa_cons (pv 2) pa_nil))) pa_nil)))
      (pss_cons (ps_set (i := 4) sc_mod_parted.nd rfl (.inl rfl) (pe_call G_mod_poly (hr.mono (by omega)) (by rfl) T.mod_poly.g T.mod_poly.F.kp T.mod_poly.b .nil pass0 (pa_cons (pv 1) (pa_cons (pv 2) pa_nil))))
      (pss_cons (ps_set (i := 5) sc_mod_parted.nd rfl (.inl rfl) (pe_op op_sub (pe_callB call_len_seq (by rfl) T.n_len (by decide +kernel) (pa_cons (pv 4) pa_nil)) pe_int))
      (pss_cons (ps_set (i := 6) sc_mod_parted.nd rfl (.inl rfl) (pe_call G_turned (hr.mono (by omega)) (by rfl) T.turned.g T.turned.F.kp T.turned.b .nil pass0 (pa_cons (pe_ix (r := rIxT K) ix_tup (pv 4) (pv 5) (fun _ _ => rfl)) (pa_cons (pv 2) pa_nil))))
      (pss_cons (ps_set (i := 7) sc_mod_parted.nd rfl (.inl rfl) (pe_lst pa_nil))
      (pss_cons (ps_for PassesOwn.never rfl (pi_range3 (by rfl) T.n_range (pa_cons (pe_op op_sub (pe_op op_sub (pe_callB call_len_seq (by rfl) T.n_len (by decide +kernel) (pa_cons (pv 3) pa_nil)) pe_int) (pv 5)) (pa_cons (pe_un un_neg pe_int) (pa_cons (pe_un un_neg pe_int) pa_nil)))) (pg_name (i := 8) sc_mod_parted.nd rfl (.inl rfl))
        (pss_cons (ps_set (i := 9) sc_mod_parted.nd rfl (.inl rfl) (pe_op op_mod (pe_op op_mul (pe_ix (r := rIxL K) ix_list (pv 3) (pe_op op_add (pv 8) (pv 5)) (fun _ _ => rfl)) (pv 6)) (pv 2)))
          (pss_cons (ps_expr (pe_bm PySem.F.plainAttrs_list PySem.F.slot_list_append PySem.F.type_list_append mt_append (pv 7) (pa_cons (pv 9) pa_nil)))
          (pss_one (ps_for PassesOwn.never rfl (pi_range1 (by rfl) T.n_range (pa_cons (pe_op op_add (pv 5) pe_int) pa_nil)) (pg_name (i := 10) sc_mod_parted.nd rfl (.inl rfl))
            (pss_one (ps_asg (pe_op op_mod (pe_op op_sub (pe_ix (r := rIxL K) ix_list (pv 3) (pe_op op_add (pv 8) (pv 10)) (fun _ _ => rfl)) (pe_op op_mul (pv 9) (pe_ix (r := rIxT K) ix_tup (pv 4) (pv 10) (fun _ _ => rfl)))) (pv 2)) (pg_sub (pv 3) (pe_op op_add (pv 8) (pv 10)) set_list))))))))
      (pss_one (ps_ret (pe_tup (pa_cons (pe_call G_cut (hr.mono (by omega)) (by rfl) T.cut.g T.cut.F.kp T.cut.b .nil pass0 (pa_cons (pe_revL (pv 7)) pa_nil)) (pa_cons (pe_call G_cut (hr.mono (by omega)) (by rfl) T.cut.g T.cut.F.kp T.cut.b .nil pass0 (pa_cons (pe_slice (r := rSlL K) sl_list (pv 3) po_none (po_some (pv 5))) pa_nil)) pa_nil))))))))))), ?_⟩
    rw [show L2.start N_mod_parted [V.ref p, .ref q, .int m] = [some (.ref p), some (.ref q), some (.int m), none, none, none, none, none, none, none, none] from rfl]
    try dsimp only [cxOf]
    walk_at "rr"
    refine ⟨p, ns, m, rfl, hx, by omega, by omega, fun v H1 e1 r1 => ?_⟩
    rw [hM.mod] at r1
    obtain ⟨p1, rfl, h1⟩ := r1
    walk_at "rr"
    refine ⟨p1, _, rfl, .inr h1, fun L hL => ?_⟩
    have hL0 : H L = none := fresh_back e1 hL
    have e2 : Ex H1 (upd H1 L (.lst (ns.map V.int))) := Ex.new hL
    have h2 : (upd H1 L (.lst (ns.map V.int))) L = some (.lst (ns.map V.int)) := upd_same
    generalize upd H1 L (.lst (ns.map V.int)) = H2 at e2 h2
    walk_at "rr"
    refine ⟨q, [low, 1], m, rfl, ex_t (e1.trans e2) hy, by show 2 ≤ 1000; decide, by omega, fun v H3 e3 r3 => ?_⟩
    rw [hMb.mod] at r3
    obtain ⟨p3, rfl, h3⟩ := r3
    walk_at "rr"
    refine ⟨p3, _, rfl, .inr h3, ?_⟩
    rw [show (([low, 1].map V.int).length : Int) = 2 from rfl]
    walk_at "rr"
    rw [show (2 : Int) - 1 = 1 from rfl]
    refine w_ixTn h3 (n := 1) rfl ?_
    walk_at "rr"
    refine ⟨1, m, rfl, hm, by rw [Int.emod_eq_of_lt (by omega) (by omega)]; decide, fun v H4 e4 r4 => ?_⟩
    obtain ⟨t, rfl, t0, t1, ht⟩ := r4
    rw [Int.mul_one, Int.emod_eq_of_lt t0 t1] at ht
    subst ht
    walk_at "rr"
    refine ⟨Nat.zero_le _, fun M hM' => ?_⟩
    have e04 : Ex H H4 := e1.trans (e2.trans (e3.trans e4))
    have hL4 := (e3.trans e4) L _ h2
    have hM0 : H M = none := fresh_back e04 hM'
    have nLM : M ≠ L := fun z => by rw [z, hL4] at hM'; cases hM'
    have e5 : Ex H4 (upd H4 M (.lst [])) := Ex.new hM'
    have hL5 := e5 L _ hL4
    have h3b : SqT K (upd H4 M (.lst [])) p3 ([low, 1].map V.int) := ex_t (e4.trans e5) h3
    have hM5 : (upd H4 M (.lst [])) M = some (.lst []) := upd_same
    have hp3 : ∀ H', Ex H H' → (∃ a b, H' L = some (.lst a) ∧ H' M = some (.lst b)) → True := fun _ _ _ => trivial
    generalize upd H4 M (.lst []) = H5 at e5 hL5 hM5 h3b
    walk_at "rr"
    refine ⟨L, _, rfl, .inl (.inl (.inl hL5)), ?_⟩
    rw [List.length_map]
    walk_at "rr"
    refine f_r3 (by omega) (by omega) (by omega) (by omega) (fun i σ' H' => ∃ y8 y9 y10, σ' = [some (.ref p), some (.ref q), some (.int m), some (.ref L), some (.ref p3), some (.int 1), some (.int 1), some (.ref M), y8, y9, y10] ∧ Ex H H' ∧ SqT K H' p3 ([low, 1].map V.int) ∧ H' L = some (.lst ((mdRun ns low m i).1.map V.int)) ∧ H' M = some (.lst ((mdRun ns low m i).2.map V.int)))
      ⟨none, none, none, rfl, e04.trans e5, h3b, hL5, hM5⟩ (fun i σ' H' hi hq => ?_) (fun σ' H' hq => ?_)
    · obtain ⟨y8, y9, y10, rfl, e, hp3, h1, h2⟩ := hq
      have l1' := mdRun_len1 (ns := ns) (low := low) (m := m) i
      have l2' := mdRun_len2 (ns := ns) (low := low) (m := m) i
      have eat : (ns.length : Int) - 1 - 1 - (i : Int) = ((ns.length - 2 - i : Nat) : Int) := by omega
      rw [eat]
      have hb2 : ns.length - 2 - i + 2 ≤ ns.length := by omega
      have en : mdRun ns low m (i + 1) = (mdIn low m ((mdRun ns low m i).1.getD (ns.length - 2 - i + 1) 0 * 1 % m) (ns.length - 2 - i) (mdRun ns low m i).1 2, (mdRun ns low m i).2 ++ [(mdRun ns low m i).1.getD (ns.length - 2 - i + 1) 0 * 1 % m]) := rfl
      generalize ns.length - 2 - i = at' at en hb2
      walk_at "rr"
      rw [show (at' : Int) + 1 = ((at' + 1 : Nat) : Int) by omega]
      refine w_ixLn (.inl (.inl h1)) (atI_nat (getD_get (show at' + 1 < (mdRun ns low m i).1.length by omega))) ?_
      walk_at "rr"
      refine w_I (w_CMul2 (by omega) (by omega)) ?_
      walk_at "rr"
      refine w_I (show (0 : Int) < m by omega) ?_
      have p0 : 0 ≤ (mdRun ns low m i).1.getD (at' + 1) 0 * 1 % m := Int.emod_nonneg _ (by omega)
      have p1 : (mdRun ns low m i).1.getD (at' + 1) 0 * 1 % m < m := Int.emod_lt_of_pos _ (by omega)
      generalize (mdRun ns low m i).1.getD (at' + 1) 0 * 1 % m = pt at en p0 p1
      generalize (mdRun ns low m i).1 = lft at en h1 l1'
      generalize (mdRun ns low m i).2 = quo at en h2 l2'
      walk_at "rr"
      refine w_tyL h2 ?_
      walk_at "rr"
      refine w_append h2 (by rw [List.length_map]; omega) ?_
      have e3 : Ex H (upd H' M (.lst (quo.map V.int ++ [.int pt]))) := Ex.mut e hM0
      have h3 : (upd H' M (.lst (quo.map V.int ++ [.int pt]))) L = some (.lst (lft.map V.int)) := by rw [upd_ne nLM.symm]; exact h1
      have h4 : (upd H' M (.lst (quo.map V.int ++ [.int pt]))) M = some (.lst ((quo ++ [pt]).map V.int)) := by rw [upd_same, List.map_append]; rfl
      have t3 : SqT K (upd H' M (.lst (quo.map V.int ++ [.int pt]))) p3 ([low, 1].map V.int) := by
        obtain ⟨_, e9, h9⟩ := (IsT.mut (v := .ref p3) ⟨p3, rfl, hp3⟩ ⟨_, h2⟩ (o := .lst (quo.map V.int ++ [.int pt])))
        cases e9
        exact h9
      generalize upd H' M (.lst (quo.map V.int ++ [.int pt])) = H3 at e3 h3 h4 t3
      walk_at "rr"
      refine f_r1 (by omega) (by omega) (fun j σ' H' => ∃ y10, σ' = [some (.ref p), some (.ref q), some (.int m), some (.ref L), some (.ref p3), some (.int 1), some (.int 1), some (.ref M), some (.int (at' : Int)), some (.int pt), y10] ∧ Ex H H' ∧ SqT K H' p3 ([low, 1].map V.int) ∧ H' L = some (.lst ((mdIn low m pt at' lft j).map V.int)) ∧ H' M = some (.lst ((quo ++ [pt]).map V.int)))
        ⟨y10, rfl, e3, t3, h3, h4⟩ (fun j σ' H' hj hq => ?_) (fun σ' H' hq => ?_)
      · obtain ⟨y10, rfl, e, hp3, h1, h2⟩ := hq
        have l3 := mdIn_len (low := low) (m := m) (part := pt) (k := at') (l := lft) j
        have hj2 : j < 2 := by omega
        walk_at "rr"
        rw [show (at' : Int) + (j : Int) = ((at' + j : Nat) : Int) by omega]
        refine w_ixLn (.inl (.inl h1)) (atI_nat (getD_get (show at' + j < (mdIn low m pt at' lft j).length by omega))) ?_
        walk_at "rr"
        refine w_ixTn hp3 (atI_nat (getD_get (show j < [low, 1].length from hj2))) ?_
        refine w_I (w_CMul1 (by omega) (by omega)) ?_
        walk_at "rr"
        refine w_I (show (0 : Int) < m by omega) ?_
        walk_at "rr"
        rw [show (at' : Int) + (j : Int) = ((at' + j : Nat) : Int) by omega]
        refine w_setL h1 (by rw [List.length_map]; omega) ?_
        refine ⟨some (.int j), rfl, Ex.mut e hL0, ?_, ?_, ?_⟩
        · obtain ⟨_, e9, h9⟩ := (IsT.mut (v := .ref p3) ⟨p3, rfl, hp3⟩ ⟨_, h1⟩ (o := .lst (((mdIn low m pt at' lft j).map V.int).set (at' + j) (.int (((mdIn low m pt at' lft j).getD (at' + j) 0 - pt * [low, 1].getD j 0) % m)))))
          cases e9
          exact h9
        · rw [upd_same, mdIn, List.map_set]
        · rw [upd_ne nLM]
          exact h2
      · obtain ⟨y10, rfl, e, hp3, h1, h2⟩ := hq
        rw [show ((1 : Int) + 1).toNat = 2 from rfl] at h1
        refine ⟨_, _, _, rfl, e, hp3, ?_, ?_⟩
        · rw [en]
          exact h1
        · rw [en]
          exact h2
    · obtain ⟨y8, y9, y10, rfl, e, hp3, h1, h2⟩ := hq
      rw [show ((ns.length : Int) - 1 - 1 - -1).toNat = ns.length - 1 by omega] at h1 h2
      have l1' := mdRun_len1 (ns := ns) (low := low) (m := m) (ns.length - 1)
      have l2' := mdRun_len2 (ns := ns) (low := low) (m := m) (ns.length - 1)
      walk_at "rr"
      refine ⟨M, _, rfl, .inl (.inl h2), fun N hN => ?_⟩
      walk_at "rr"
      refine ⟨N, (mdRun ns low m (ns.length - 1)).2.reverse, rfl, .inl (.inl (by rw [upd_same, List.map_reverse])), by rw [List.length_reverse]; omega, fun v1 H3 e3 r1 => ?_⟩
      walk_at "rr"
      refine ⟨L, _, rfl, ex_l ((Ex.new hN).trans e3) (.inl (.inl h1)), fun N2 hN2 => ?_⟩
      rw [show (1 : Int) = ((1 : Nat) : Int) from rfl, cutV_to _ (by rw [List.length_map]; omega), ← List.map_take]
      refine ⟨N2, (mdRun ns low m (ns.length - 1)).1.take 1, rfl, .inl (.inl upd_same), by rw [List.length_take]; omega, fun v2 H4 e4 r2 => ?_⟩
      walk_at "rr"
      refine ⟨by show 2 ≤ sizeLine; decide, fun N3 hN3 => ?_⟩
      exact k _ _ (e.trans ((Ex.new hN).trans (e3.trans ((Ex.new hN2).trans (e4.trans (Ex.new hN3)))))) ⟨N3, v1, v2, rfl, .inl (.inl upd_same), r1.ex ((Ex.new hN2).trans (e4.trans (Ex.new hN3))), trivial⟩
end
end RH

set_option Elab.async false
set_option linter.all false
set_option maxRecDepth 100000
set_option maxHeartbeats 4000000
namespace RH
open PySem PySem.Spec PyProof.Rows L2 Evl
/-! ### pair_of -/
structure FactM (m l0 l1 l2 l3 a b c d : Int) : Prop where
  f0 : m ∣ l0 - b * d
  f1 : m ∣ l1 - (a * d + c * b)
  f2 : m ∣ l2 - (b + d + a * c)
  f3 : m ∣ l3 - (a + c)
theorem em (x m : Int) : x = x % m + m * (x / m) := (Int.emod_add_mul_ediv x m).symm
theorem eq_of_mod {m x y : Int} (hx : 0 ≤ x ∧ x < m) (hy : 0 ≤ y ∧ y < m) (h : m ∣ x - y) : x = y := by
  obtain ⟨k, hk⟩ := h
  have h1 : x - y < m := by omega
  have h2 : -m < x - y := by omega
  have hm : 0 < m := by omega
  have : k = 0 := by
    rcases Int.lt_trichotomy k 0 with q | q | q
    · have := Int.mul_le_mul_of_nonneg_left (show k ≤ -1 by omega) (Int.le_of_lt hm)
      omega
    · exact q
    · have := Int.mul_le_mul_of_nonneg_left (show 1 ≤ k by omega) (Int.le_of_lt hm)
      omega
  rw [this, Int.mul_zero] at hk
  omega
theorem pf0 {l0 b d t m k1 k2 : Int} (h1 : t * b = 1 + m * k1) (h2 : l0 * t = d + m * k2) : l0 - b * d = m * (b * k2 - l0 * k1) := by grind
theorem pf1 {l1 l3 a b c d t' m k3 k4 k6 : Int} (h3 : t' * (d - b) = 1 + m * k3) (h4 : (l1 - b * l3) * t' = a + m * k4) (h6 : l3 - a = c + m * k6) : l1 - (a * d + c * b) = m * -((l1 - b * l3) * k3 - k4 * (d - b) - k6 * b) := by grind
theorem pf2 {l2 l3 a b c d m k5 k6 : Int} (h5 : a * (l3 - a) + b + d - l2 = m * k5) (h6 : l3 - a = c + m * k6) : l2 - (b + d + a * c) = m * (a * k6 - k5) := by grind
theorem pf3 {l3 a c m k6 : Int} (h6 : l3 - a = c + m * k6) : l3 - (a + c) = m * k6 := by omega
theorem pf4 {l0 b d t m k1 k2 z : Int} (h1 : t * b = 1 + m * k1) (h2 : l0 * t = d + m * k2) (h3 : l0 - b * b = m * z) : b - d = m * (k2 - k1 * b - t * z) := by grind
theorem pf5 {l1 l3 a b c m k6 k7 : Int} (h7 : l1 - b * l3 = m * k7) (h6 : l3 - a = c + m * k6) : l1 - (a * b + c * b) = m * (k7 + b * k6) := by grind
theorem pf6 {l2 l3 a b m z2 z3 : Int} (h2 : l2 - (b + b + a * a) = m * z2) (h3 : l3 - (a + a) = m * z3) : a * (l3 - a) + b + b - l2 = m * (a * z3 - z2) := by grind
theorem pf7 {l1 l3 a b m z1 z3 : Int} (h1 : l1 - (a * b + a * b) = m * z1) (h3 : l3 - (a + a) = m * z3) : l1 - b * l3 = m * (z1 - b * z3) := by grind
section
local macro_rules | `(tactic| walk_at "rs") => `(tactic| first
  | with_reducible refine w_seq ?_
  | with_reducible refine w_asg ?_
  | ((with_reducible refine' w_var ?h ?_); (case h => exact rfl))
  | with_reducible refine w_c ?_
  | with_reducible refine w_op ?_
  | with_reducible refine w_I0 ?_
  | with_reducible refine w_cb ?_
  | with_reducible refine w_cons ?_
  | with_reducible refine w_nil ?_
  | with_reducible refine w_ret ?_
  | with_reducible refine w_call ?_
  | with_reducible refine w_if ?_
  | with_reducible refine w_test ?_
  | with_reducible refine w_exbl ?_
  | with_reducible refine w_eqI ?_
  | with_reducible refine w_neI ?_
  | with_reducible refine w_next ?_
  | with_reducible refine w_un ?_
  | with_reducible refine w_U ?_
  | with_reducible refine w_B ?_
  | with_reducible refine w_and ?_
  | with_reducible refine w_or ?_
  | with_reducible refine w_not ?_
  | with_reducible refine w_andV ?_
  | with_reducible refine w_notV ?_
  | with_reducible refine w_tup ?_
  | with_reducible refine w_lst ?_
  | with_reducible refine w_for ?_
  | with_reducible refine w_rng1 ?_
  | with_reducible refine w_rng2 ?_
  | with_reducible refine w_rng3 ?_
  | with_reducible refine w_iList ?_
  | with_reducible refine w_iTup ?_
  | with_reducible refine w_iRevA ?_
  | with_reducible refine w_lc ?_
  | with_reducible refine w_drop ?_
  | with_reducible refine w_par ?_
  | ((with_reducible refine' w_aug ?h ?_); (case h => exact rfl))
  | with_reducible refine w_sl ?_
  | with_reducible refine w_noPart ?_
  | with_reducible refine w_part ?_
  | with_reducible refine w_exint ?_
  | with_reducible refine w_revL ?_
  | with_reducible refine w_bm ?_
  | with_reducible refine w_augS ?_
  | with_reducible refine w_ip ?_
  | with_reducible refine w_gSub ?_
  | with_reducible refine w_gName ?_
  | with_reducible refine w_gCons ?_
  | with_reducible refine w_gNil ?_
  | with_reducible refine w_chain ?_
  | with_reducible refine w_asgG ?_)
local macro_rules | `(tactic| walk_at "rr") => `(tactic| repeat walk_at "rs")
local macro_rules | `(tactic| walk_at "rn1") => `(tactic| first
  | with_reducible refine w_seq ?_
  | with_reducible refine w_asg ?_
  | ((with_reducible refine' w_var ?h ?_); (case h => exact rfl))
  | with_reducible refine w_c ?_
  | with_reducible refine w_op ?_
  | with_reducible refine w_I0 ?_
  | with_reducible refine w_cb ?_
  | with_reducible refine w_cons ?_
  | with_reducible refine w_nil ?_
  | with_reducible refine w_ret ?_
  | with_reducible refine w_call ?_
  | with_reducible refine w_if ?_
  | with_reducible refine w_test ?_
  | with_reducible refine w_exbl ?_
  | with_reducible refine w_eqI ?_
  | with_reducible refine w_neI ?_
  | with_reducible refine w_next ?_
  | with_reducible refine w_un ?_
  | with_reducible refine w_U ?_
  | with_reducible refine w_B ?_
  | with_reducible refine w_and ?_
  | with_reducible refine w_or ?_
  | with_reducible refine w_not ?_
  | with_reducible refine w_andV ?_
  | with_reducible refine w_notV ?_
  | with_reducible refine w_lst ?_
  | with_reducible refine w_for ?_
  | with_reducible refine w_rng1 ?_
  | with_reducible refine w_rng2 ?_
  | with_reducible refine w_rng3 ?_
  | with_reducible refine w_iList ?_
  | with_reducible refine w_iTup ?_
  | with_reducible refine w_iRevA ?_
  | with_reducible refine w_lc ?_
  | with_reducible refine w_drop ?_
  | with_reducible refine w_par ?_
  | ((with_reducible refine' w_aug ?h ?_); (case h => exact rfl))
  | with_reducible refine w_sl ?_
  | with_reducible refine w_noPart ?_
  | with_reducible refine w_part ?_
  | with_reducible refine w_exint ?_
  | with_reducible refine w_revL ?_
  | with_reducible refine w_bm ?_
  | with_reducible refine w_augS ?_
  | with_reducible refine w_ip ?_
  | with_reducible refine w_gSub ?_
  | with_reducible refine w_gName ?_
  | with_reducible refine w_gCons ?_
  | with_reducible refine w_gNil ?_
  | with_reducible refine w_chain ?_
  | with_reducible refine w_asgG ?_)
local macro_rules | `(tactic| walk_at "rn") => `(tactic| repeat walk_at "rn1")

variable {P : Program} {w : World} {K : PySem.W.Frag} {mg : Str → Option Value} {base : Heap}
def sp_pair_of (K : PySem.W.Frag) : Sp := fun vs H Q _ => ∃ (p : Addr) (l0 l1 l2 l3 m : Int), vs = [.ref p, .int m] ∧ SqT K H p ([l0, l1, l2, l3, 1].map V.int) ∧ m ∈ primes ∧ MR m [l0, l1, l2, l3, 1] ∧
  Ret H Q fun H' v => (v = .non ∧ ∀ a b, 0 ≤ a → a < m → 1 ≤ b → b < m → ¬ FactM m l0 l1 l2 l3 a b a b) ∨
    ∃ q g1 g2 a b c d, v = .ref q ∧ H' q = some (.lst [g1, g2]) ∧ IsT K H' g1 [b, a, 1] ∧ IsT K H' g2 [d, c, 1] ∧ (0 ≤ a ∧ a < m) ∧ (0 ≤ b ∧ b < m) ∧ (0 ≤ c ∧ c < m) ∧ (0 ≤ d ∧ d < m) ∧ FactM m l0 l1 l2 l3 a b c d
theorem ok_pair_of (T : Txt K mg) (G_turned : FnOk P w K mg base CX0 1 T.turned.f T.turned.fd ["a", "p"] sp_turned) : FnOk P w K mg base CX0 2 T.pair_of.f T.pair_of.fd ["left", "p"] (sp_pair_of K) := by
  refine T.pair_of.F.ok sc_pair_of (fun vs H Q E h => ?_) (fun cdv A outer s H vs Q E hr h => ?_)
  · obtain ⟨p, l0, l1, l2, l3, m, rfl, _⟩ := h
    rfl
  · obtain ⟨p, l0, l1, l2, l3, m, rfl, hx, hm, hM, k⟩ := h
    have hb := primes_bd hm
    have b0 := hM.red l0 (by simp)
    have b1 := hM.red l1 (by simp)
    have b2 := hM.red l2 (by simp)
    have b3 := hM.red l3 (by simp)
    refine ⟨_, (pss_cons (ps_asg (pe_slice (r := rSlA K) sl_tupA (pv 0) po_none (po_some pe_int)) (pg_tup (by rfl) (pgs_cons (pg_name (i := 2) sc_pair_of.nd rfl (.inl rfl)) (pgs_cons (pg_name (i := 3) sc_pair_of.nd rfl (.inl rfl)) (pgs_cons (pg_name (i := 4) sc_pair_of.nd rfl (.inl rfl)) (pgs_cons (pg_name (i := 5) sc_pair_of.nd rfl (.inl rfl)) pgs_nil))))))
      (pss_cons (ps_for PassesOwn.never rfl (pi_range2 (by rfl) T.n_range (pa_cons pe_int (pa_cons (pv 1) pa_nil))) (pg_name (i := 6) sc_pair_of.nd rfl (.inl rfl))
        (pss_cons (ps_set (i := 7) sc_pair_of.nd rfl (.inl rfl) (pe_op op_mod (pe_op op_mul (pv 2) (pe_call G_turned (hr.mono (by omega)) (by rfl) T.turned.g T.turned.F.kp T.turned.b .nil pass0 (pa_cons (pv 6) (pa_cons (pv 1) pa_nil)))) (pv 1)))
          (pss_one (ps_if (pt_cmpR op_ne (pv 6) (pv 7) (nomark _))
            (pss_cons (ps_set (i := 8) sc_pair_of.nd rfl (.inl rfl) (pe_op op_mod (pe_op op_mul (pe_op op_sub (pv 3) (pe_op op_mul (pv 6) (pv 5))) (pe_call G_turned (hr.mono (by omega)) (by rfl) T.turned.g T.turned.F.kp T.turned.b .nil pass0 (pa_cons (pe_op op_sub (pv 7) (pv 6)) (pa_cons (pv 1) pa_nil)))) (pv 1)))
              (pss_one (ps_if (pt_cmpR op_eq (pe_op op_mod (pe_op op_sub (pe_op op_add (pe_op op_add (pe_op op_mul (pv 8) (pe_op op_sub (pv 5) (pv 8))) (pv 6)) (pv 7)) (pv 4)) (pv 1)) pe_int (nomark _))
                (pss_one (ps_ret (pe_lst (pa_cons (pe_tup (pa_cons (pv 6) (pa_cons (pv 8) (pa_cons pe_int pa_nil)))) (pa_cons (pe_tup (pa_cons (pv 7) (pa_cons (pe_op op_mod (pe_op op_sub (pv 5) (pv 8)) (pv 1)) (pa_cons pe_int pa_nil)))) pa_nil)))))
                pss_nil)))
            (pss_one (ps_if (pt_cmpR op_eq (pe_op op_mod (pe_op op_sub (pv 3) (pe_op op_mul (pv 6) (pv 5))) (pv 1)) pe_int (nomark _))
                (pss_one (ps_for PassesOwn.never rfl (pi_range1 (by rfl) T.n_range (pa_cons (pv 1) pa_nil)) (pg_name (i := 8) sc_pair_of.nd rfl (.inl rfl))
                    (pss_one (ps_if (pt_cmpR op_eq (pe_op op_mod (pe_op op_sub (pe_op op_add (pe_op op_add (pe_op op_mul (pv 8) (pe_op op_sub (pv 5) (pv 8))) (pv 6)) (pv 7)) (pv 4)) (pv 1)) pe_int (nomark _))
                        (pss_one (ps_ret (pe_lst (pa_cons (pe_tup (pa_cons (pv 6) (pa_cons (pv 8) (pa_cons pe_int pa_nil)))) (pa_cons (pe_tup (pa_cons (pv 7) (pa_cons (pe_op op_mod (pe_op op_sub (pv 5) (pv 8)) (pv 1)) (pa_cons pe_int pa_nil)))) pa_nil)))))
                        pss_nil))))
                pss_nil))))))
      (pss_one (ps_ret pe_non)))), ?_⟩
    rw [show L2.start N_pair_of [V.ref p, .int m] = [some (.ref p), some (.int m), none, none, none, none, none, none, none] from rfl]
    try dsimp only [cxOf]
    walk_at "rr"
    refine w_slA hx fun p1 H1 e1 h1 => ?_
    rw [show (4 : Int) = ((4 : Nat) : Int) from rfl, cutV_to _ (by show 4 ≤ 5; decide)] at h1
    have h1 : SqT K H1 p1 [.int l0, .int l1, .int l2, .int l3] := h1
    refine w_gTup h1 rfl ?_
    walk_at "rr"
    refine f_r2 (by omega) (by omega) (by omega) (by omega) (fun i σ' H' => ∃ y6 y7 y8, σ' = [some (.ref p), some (.int m), some (.int l0), some (.int l1), some (.int l2), some (.int l3), y6, y7, y8] ∧ Ex H H' ∧ ∀ a b : Int, 0 ≤ a → a < m → 1 ≤ b → b ≤ i → ¬ FactM m l0 l1 l2 l3 a b a b)
      ⟨none, none, none, rfl, e1, fun a b _ _ q1 q2 => by omega⟩ (fun i σ' H' hi hq => ?_) (fun σ' H' hq => ?_)
    · obtain ⟨y6, y7, y8, rfl, e, hn⟩ := hq
      have hb1 : 1 ≤ 1 + (i : Int) ∧ 1 + (i : Int) < m := by omega
      have hnext : (∀ a : Int, 0 ≤ a → a < m → ¬ FactM m l0 l1 l2 l3 a (1 + (i : Int)) a (1 + (i : Int))) → ∀ a b : Int, 0 ≤ a → a < m → 1 ≤ b → b ≤ (i + 1 : Nat) → ¬ FactM m l0 l1 l2 l3 a b a b := by
        intro h a b q0 q1 q2 q3
        by_cases hbi : b ≤ i
        · exact hn a b q0 q1 q2 hbi
        · have : b = 1 + (i : Int) := by omega
          subst this
          exact h a q0 q1
      generalize 1 + (i : Int) = b at hb1 hnext
      walk_at "rr"
      refine ⟨b, m, rfl, hm, by rw [Int.emod_eq_of_lt (by omega) (by omega)]; omega, fun v H2 e2 r2 => ?_⟩
      obtain ⟨t, rfl, t0, t1, ht⟩ := r2
      have ht2 := em (t * b) m
      rw [ht] at ht2
      refine w_I (w_CMul1 (by omega) (by omega)) ?_
      walk_at "rr"
      refine w_I (show (0 : Int) < m by omega) ?_
      have hd2 := em (l0 * t) m
      have d0 : 0 ≤ l0 * t % m := Int.emod_nonneg _ (by omega)
      have d1 : l0 * t % m < m := Int.emod_lt_of_pos _ (by omega)
      generalize l0 * t % m = d at hd2 d0 d1
      generalize t * b / m = k1 at ht2
      generalize l0 * t / m = k2 at hd2
      have F0 : m ∣ l0 - b * d := ⟨b * k2 - l0 * k1, pf0 ht2 hd2⟩
      walk_at "rr"
      refine w_iteN (fun hbd => ?_) (fun hbd => ?_)
      · walk_at "rr"
        refine w_I (w_CMul1 (by omega) (by omega)) ?_
        walk_at "rr"
        have hdb : (d - b) % m ≠ 0 := fun z => hbd (eq_of_mod (x := b) (y := d) ⟨by omega, by omega⟩ ⟨d0, d1⟩ (by
          have := Int.dvd_of_emod_eq_zero z
          have := (Int.dvd_neg).mpr this
          rw [Int.neg_sub] at this
          exact this))
        refine ⟨d - b, m, rfl, hm, hdb, fun v H3 e3 r3 => ?_⟩
        obtain ⟨t', rfl, t0', t1', ht'⟩ := r3
        have ht3 := em (t' * (d - b)) m
        rw [ht'] at ht3
        refine w_I (w_CMul2 (by omega) (by omega)) ?_
        walk_at "rr"
        refine w_I (show (0 : Int) < m by omega) ?_
        have ha2 := em ((l1 - b * l3) * t') m
        have a0 : 0 ≤ (l1 - b * l3) * t' % m := Int.emod_nonneg _ (by omega)
        have a1 : (l1 - b * l3) * t' % m < m := Int.emod_lt_of_pos _ (by omega)
        generalize (l1 - b * l3) * t' % m = a at ha2 a0 a1
        generalize t' * (d - b) / m = k3 at ht3
        generalize (l1 - b * l3) * t' / m = k4 at ha2
        walk_at "rr"
        refine w_I (w_CMul1 (by omega) (by omega)) ?_
        walk_at "rr"
        refine w_I (show (0 : Int) < m by omega) ?_
        walk_at "rr"
        refine w_ite (fun hc => ?_) (fun hc => ?_)
        · walk_at "rr"
          refine ⟨by show 3 ≤ sizeLine; decide, fun q1 n1 => ?_⟩
          walk_at "rr"
          refine w_I (show (0 : Int) < m by omega) ?_
          have hc2 := em (l3 - a) m
          have c0 : 0 ≤ (l3 - a) % m := Int.emod_nonneg _ (by omega)
          have c1 : (l3 - a) % m < m := Int.emod_lt_of_pos _ (by omega)
          generalize (l3 - a) % m = c at hc2 c0 c1
          generalize (l3 - a) / m = k6 at hc2
          walk_at "rr"
          refine ⟨by show 3 ≤ sizeLine; decide, fun q2 n2 => ?_⟩
          walk_at "rr"
          refine ⟨by show 2 ≤ sizeLine; decide, fun q3 n3 => ?_⟩
          obtain ⟨k5, hk5⟩ := Int.dvd_of_emod_eq_zero hc
          refine k _ _ (e.trans (e2.trans (e3.trans ((Ex.new n1).trans ((Ex.new n2).trans (Ex.new n3)))))) (.inr ⟨q3, _, _, a, b, c, d, rfl, upd_same, ?_, ?_, ⟨a0, a1⟩, ⟨by omega, by omega⟩, ⟨c0, c1⟩, ⟨d0, d1⟩, F0, ⟨-((l1 - b * l3) * k3 - k4 * (d - b) - k6 * b), pf1 ht3 ha2 hc2⟩, ⟨a * k6 - k5, pf2 hk5 hc2⟩, ⟨k6, pf3 hc2⟩⟩)
          · exact ⟨q1, rfl, ex_t ((Ex.new n2).trans (Ex.new n3)) (.inl (.inl upd_same))⟩
          · exact ⟨q2, rfl, ex_t (Ex.new n3) (.inl (.inl upd_same))⟩
        · walk_at "rr"
          refine ⟨_, _, _, rfl, e.trans (e2.trans e3), hnext fun a' q0 q1 F => hbd ?_⟩
          refine eq_of_mod ⟨by omega, by omega⟩ ⟨d0, d1⟩ ?_
          obtain ⟨z, hz⟩ := F.f0
          exact ⟨k2 - k1 * b - t * z, pf4 ht2 hd2 hz⟩
      · subst hbd
        walk_at "rr"
        refine w_I (w_CMul1 (by omega) (by omega)) ?_
        walk_at "rr"
        refine w_I (show (0 : Int) < m by omega) ?_
        walk_at "rr"
        refine w_ite (fun h1' => ?_) (fun h1' => ?_)
        · obtain ⟨k7, hk7⟩ := Int.dvd_of_emod_eq_zero h1'
          walk_at "rr"
          refine f_r1 (by omega) (by omega) (fun j σ' H' => ∃ y8, σ' = [some (.ref p), some (.int m), some (.int l0), some (.int l1), some (.int l2), some (.int l3), some (.int b), some (.int b), y8] ∧ Ex H H' ∧ ∀ a : Int, 0 ≤ a → a < j → ¬ FactM m l0 l1 l2 l3 a b a b)
            ⟨_, rfl, e.trans e2, fun a q0 q1 => by omega⟩ (fun j σ' H' hj hq => ?_) (fun σ' H' hq => ?_)
          · obtain ⟨y8, rfl, e, hn2⟩ := hq
            have hna : (¬ FactM m l0 l1 l2 l3 (j : Int) b (j : Int) b) → ∀ a : Int, 0 ≤ a → a < (j + 1 : Nat) → ¬ FactM m l0 l1 l2 l3 a b a b := by
              intro h a q0 q1
              by_cases haj : a < j
              · exact hn2 a q0 haj
              · have : a = (j : Int) := by omega
                subst this
                exact h
            have a0 : 0 ≤ (j : Int) := by omega
            generalize (j : Int) = a at hj hna a0
            walk_at "rr"
            refine w_I (w_CMul1 (by omega) (by omega)) ?_
            walk_at "rr"
            refine w_I (show (0 : Int) < m by omega) ?_
            walk_at "rr"
            refine w_ite (fun hc => ?_) (fun hc => ?_)
            · walk_at "rr"
              refine ⟨by show 3 ≤ sizeLine; decide, fun q1 n1 => ?_⟩
              walk_at "rr"
              refine w_I (show (0 : Int) < m by omega) ?_
              have hc2 := em (l3 - a) m
              have c0 : 0 ≤ (l3 - a) % m := Int.emod_nonneg _ (by omega)
              have c1 : (l3 - a) % m < m := Int.emod_lt_of_pos _ (by omega)
              generalize (l3 - a) % m = c at hc2 c0 c1
              generalize (l3 - a) / m = k6 at hc2
              walk_at "rr"
              refine ⟨by show 3 ≤ sizeLine; decide, fun q2 n2 => ?_⟩
              walk_at "rr"
              refine ⟨by show 2 ≤ sizeLine; decide, fun q3 n3 => ?_⟩
              obtain ⟨k5, hk5⟩ := Int.dvd_of_emod_eq_zero hc
              refine k _ _ (e.trans ((Ex.new n1).trans ((Ex.new n2).trans (Ex.new n3)))) (.inr ⟨q3, _, _, a, b, c, b, rfl, upd_same, ?_, ?_, ⟨a0, by omega⟩, ⟨by omega, by omega⟩, ⟨c0, c1⟩, ⟨d0, d1⟩, F0, ⟨k7 + b * k6, pf5 hk7 hc2⟩, ⟨a * k6 - k5, pf2 hk5 hc2⟩, ⟨k6, pf3 hc2⟩⟩)
              · exact ⟨q1, rfl, ex_t ((Ex.new n2).trans (Ex.new n3)) (.inl (.inl upd_same))⟩
              · exact ⟨q2, rfl, ex_t (Ex.new n3) (.inl (.inl upd_same))⟩
            · walk_at "rr"
              refine ⟨_, rfl, e, hna fun F => hc ?_⟩
              obtain ⟨z2, hz2⟩ := F.f2
              obtain ⟨z3, hz3⟩ := F.f3
              exact Int.emod_eq_zero_of_dvd ⟨a * z3 - z2, pf6 hz2 hz3⟩
          · obtain ⟨y8, rfl, e, hn2⟩ := hq
            refine ⟨_, _, _, rfl, e, hnext fun a q0 q1 => hn2 a q0 (by omega)⟩
        · walk_at "rr"
          refine ⟨_, _, _, rfl, e.trans e2, hnext fun a q0 q1 F => h1' ?_⟩
          obtain ⟨z1, hz1⟩ := F.f1
          obtain ⟨z3, hz3⟩ := F.f3
          exact Int.emod_eq_zero_of_dvd ⟨z1 - b * z3, pf7 hz1 hz3⟩
    · obtain ⟨y6, y7, y8, rfl, e, hn⟩ := hq
      walk_at "rr"
      exact k _ _ e (.inl ⟨rfl, fun a b q0 q1 q2 q3 => hn a b q0 q1 q2 (by omega)⟩)
end
end RH

set_option Elab.async false
set_option linter.all false
set_option maxRecDepth 100000
set_option maxHeartbeats 4000000
namespace RH
open PySem PySem.Spec PyProof.Rows L2 Evl
/-! ### prime -/
theorem bez (a b : Nat) : ∃ x y : Int, x * a + y * b = (Nat.gcd a b : Int) := by
  induction a, b using Nat.gcd.induction with
  | H0 n => exact ⟨0, 1, by rw [Nat.gcd_zero_left]; omega⟩
  | H1 m n hm ih =>
    obtain ⟨x, y, h⟩ := ih
    refine ⟨y - x * ((n / m : Nat) : Int), x, ?_⟩
    rw [Nat.gcd_rec, ← h]
    have e : ((n % m : Nat) : Int) = (n : Int) - (m : Int) * ((n / m : Nat) : Int) := by
      have := Nat.mod_add_div n m
      have h2 : ((n % m + m * (n / m) : Nat) : Int) = (n : Int) := by rw [this]
      rw [Int.natCast_add, Int.natCast_mul] at h2
      omega
    rw [e, Int.sub_mul, Int.mul_sub, Int.mul_assoc, Int.mul_comm (m : Int)]
    omega
theorem primes_inv {m u : Int} (hm : m ∈ primes) (hu : ¬ m ∣ u) : ∃ t k, t * u = 1 + m * k := by
  have hb := primes_bd hm
  have r0 : 0 ≤ u % m := Int.emod_nonneg _ (by omega)
  have r1 : u % m < m := Int.emod_lt_of_pos _ (by omega)
  have hn : u % m ≠ 0 := fun z => hu (Int.dvd_of_emod_eq_zero z)
  have q := List.all_eq_true.mp (List.all_eq_true.mp primes_gcd0 m hm) (u % m).toNat (List.mem_range.mpr (by omega))
  rw [Bool.or_eq_true, beq_iff_eq, beq_iff_eq] at q
  have q2 : Nat.gcd (u % m).toNat m.toNat = 1 := by
    rcases q with q | q
    · omega
    · exact q
  obtain ⟨x, y, h⟩ := bez (u % m).toNat m.toNat
  rw [q2, Int.toNat_of_nonneg r0, Int.toNat_of_nonneg (by omega)] at h
  have e1 := em u m
  generalize u % m = r at e1 h
  generalize u / m = q at e1
  refine ⟨x, x * q - y, ?_⟩
  rw [e1, Int.mul_add, Int.mul_sub, show x * (m * q) = m * (x * q) by rw [← Int.mul_assoc, Int.mul_comm x m, Int.mul_assoc], Int.mul_comm m y]
  omega
theorem primes_mul {m x y : Int} (hm : m ∈ primes) (h : m ∣ x * y) : m ∣ x ∨ m ∣ y := by
  by_cases hx : m ∣ x
  · exact .inl hx
  · obtain ⟨t, k, ht⟩ := primes_inv hm hx
    obtain ⟨z, hz⟩ := h
    refine .inr ⟨t * z - k * y, ?_⟩
    have : t * (x * y) = t * (m * z) := by rw [hz]
    grind
theorem uq_A {m b u v t k2 k3 : Int} (h2 : u * u * (b + v) - v * v = m * k2) (h3 : t * u = 1 + m * k3) : b + v - (v * t) * (v * t) = m * (t * t * k2 - (2 * k3 + m * k3 * k3) * (b + v)) := by
  have e : (t * u) * (t * u) * (b + v) - (v * t) * (v * t) = m * (t * t * k2) := by grind
  rw [h3] at e
  grind
theorem uq_B {m a u v t k1 k3 : Int} (h1 : u * (a * u + u * u - 2 * v) = m * k1) (h3 : t * u = 1 + m * k3) : a + u - 2 * (v * t) = m * (t * t * k1 - (a + u) * (2 * k3 + m * k3 * k3) + 2 * k3 * (v * t)) := by
  have e : a * ((t * u) * (t * u)) + u * ((t * u) * (t * u)) - 2 * (t * u) * (v * t) = m * (t * t * k1) := by grind
  rw [h3] at e
  grind
theorem uq_C {m a b u v t w A B k3 : Int} (hw : w = v * t) (hA : b + v - w * w = m * A) (hB : a + u - 2 * w = m * B) (h3 : t * u = 1 + m * k3) : w * w - a * w + b = m * (A - B * w + k3 * v) := by
  have e : w * u = v + m * (k3 * v) := by rw [hw]; grind
  grind
theorem uq_3 {m l3 a u c' x3 y3 : Int} (F3 : l3 - (a + a) = m * x3) (G3 : l3 - (a + u + c') = m * y3) : c' = a - u + m * (x3 - y3) := by rw [Int.mul_sub]; omega
theorem uq_2 {m l2 a b u v c' d' x2 y2 z3 : Int} (F2 : l2 - (b + b + a * a) = m * x2) (G2 : l2 - (b + v + d' + (a + u) * c') = m * y2) (ec : c' = a - u + m * z3) : d' = b - v + u * u + m * (x2 - y2 - (a + u) * z3) := by
  subst ec
  grind
theorem uq_1 {m l1 a b u v c' d' x1 y1 z2 z3 : Int} (F1 : l1 - (a * b + a * b) = m * x1) (G1 : l1 - ((a + u) * d' + c' * (b + v)) = m * y1) (ec : c' = a - u + m * z3) (ed : d' = b - v + u * u + m * z2) : u * (a * u + u * u - 2 * v) = m * (x1 - y1 - (a + u) * z2 - z3 * (b + v)) := by
  subst ec ed
  grind
theorem uq_0 {m l0 b u v d' x0 y0 z2 : Int} (F0 : l0 - b * b = m * x0) (G0 : l0 - (b + v) * d' = m * y0) (ed : d' = b - v + u * u + m * z2) : u * u * (b + v) - v * v = m * (x0 - y0 - (b + v) * z2) := by
  subst ed
  grind
theorem uq_v {m b u v u' k2 : Int} (h2 : u * u * (b + v) - v * v = m * k2) (hu : u = m * u') : v * v = m * (u' * u * (b + v) - k2) := by
  have : u * u * (b + v) = m * (u' * u * (b + v)) := by rw [show u * u = m * (u' * u) by rw [← Int.mul_assoc, ← hu], Int.mul_assoc]
  rw [Int.mul_sub]
  omega
theorem uq_e {m a b w z : Int} (h : w * w - a * w + b = m * z) : -w * -w + a * -w + b = m * z := by rw [← h, Int.neg_mul_neg, Int.mul_neg]; omega
theorem uniq {m l0 l1 l2 l3 a b a' b' c' d' : Int} (hm : m ∈ primes) (F : FactM m l0 l1 l2 l3 a b a b) (G : FactM m l0 l1 l2 l3 a' b' c' d') (hr : ∀ x, ¬ m ∣ x * x + a * x + b)
    (ha : 0 ≤ a ∧ a < m) (hb : 0 ≤ b ∧ b < m) (ha' : 0 ≤ a' ∧ a' < m) (hb' : 0 ≤ b' ∧ b' < m) (hc' : 0 ≤ c' ∧ c' < m) (hd' : 0 ≤ d' ∧ d' < m) : a' = a ∧ b' = b ∧ c' = a ∧ d' = b := by
  obtain ⟨x0, F0⟩ := F.f0
  obtain ⟨x1, F1⟩ := F.f1
  obtain ⟨x2, F2⟩ := F.f2
  obtain ⟨x3, F3⟩ := F.f3
  obtain ⟨y0, G0⟩ := G.f0
  obtain ⟨y1, G1⟩ := G.f1
  obtain ⟨y2, G2⟩ := G.f2
  obtain ⟨y3, G3⟩ := G.f3
  obtain ⟨u, rfl⟩ : ∃ u, a' = a + u := ⟨a' - a, by omega⟩
  obtain ⟨v, rfl⟩ : ∃ v, b' = b + v := ⟨b' - b, by omega⟩
  have ec := uq_3 F3 G3
  have ed := uq_2 F2 G2 ec
  have h1 := uq_1 F1 G1 ec ed
  have h2 := uq_0 F0 G0 ed
  generalize x3 - y3 = z3 at ec ed h1
  generalize x2 - y2 - (a + u) * z3 = z2 at ed h1 h2
  generalize x1 - y1 - (a + u) * z2 - z3 * (b + v) = k1 at h1
  generalize x0 - y0 - (b + v) * z2 = k2 at h2
  clear F0 F1 F2 F3 G0 G1 G2 G3 F G
  by_cases hu : m ∣ u
  · obtain ⟨u', hu'⟩ := hu
    have hv : m ∣ v * v := ⟨_, uq_v h2 hu'⟩
    have hv : m ∣ v := (primes_mul hm hv).elim id id
    have e1 : a + u = a := eq_of_mod ha' ha ⟨u', by omega⟩
    have e2 : b + v = b := eq_of_mod hb' hb (by rw [show b + v - b = v by omega]; exact hv)
    have u0 : u = 0 := by omega
    have v0 : v = 0 := by omega
    subst u0 v0
    refine ⟨e1, e2, eq_of_mod hc' ha ⟨z3, by omega⟩, eq_of_mod hd' hb ⟨z2, by omega⟩⟩
  · exfalso
    obtain ⟨t, k3, h3⟩ := primes_inv hm hu
    have hA := uq_A h2 h3
    have hB := uq_B h1 h3
    have hC := uq_C (w := v * t) rfl hA hB h3
    exact hr (-(v * t)) ⟨_, uq_e hC⟩
section
local macro_rules | `(tactic| walk_at "rs") => `(tactic| first
  | with_reducible refine w_seq ?_
  | with_reducible refine w_asg ?_
  | ((with_reducible refine' w_var ?h ?_); (case h => exact rfl))
  | with_reducible refine w_c ?_
  | with_reducible refine w_op ?_
  | with_reducible refine w_I0 ?_
  | with_reducible refine w_cb ?_
  | with_reducible refine w_cons ?_
  | with_reducible refine w_nil ?_
  | with_reducible refine w_ret ?_
  | with_reducible refine w_call ?_
  | with_reducible refine w_if ?_
  | with_reducible refine w_test ?_
  | with_reducible refine w_exbl ?_
  | with_reducible refine w_eqI ?_
  | with_reducible refine w_neI ?_
  | with_reducible refine w_next ?_
  | with_reducible refine w_un ?_
  | with_reducible refine w_U ?_
  | with_reducible refine w_B ?_
  | with_reducible refine w_and ?_
  | with_reducible refine w_or ?_
  | with_reducible refine w_not ?_
  | with_reducible refine w_andV ?_
  | with_reducible refine w_notV ?_
  | with_reducible refine w_tup ?_
  | with_reducible refine w_lst ?_
  | with_reducible refine w_for ?_
  | with_reducible refine w_rng1 ?_
  | with_reducible refine w_rng2 ?_
  | with_reducible refine w_rng3 ?_
  | with_reducible refine w_iList ?_
  | with_reducible refine w_iTup ?_
  | with_reducible refine w_iRevA ?_
  | with_reducible refine w_lc ?_
  | with_reducible refine w_drop ?_
  | with_reducible refine w_par ?_
  | ((with_reducible refine' w_aug ?h ?_); (case h => exact rfl))
  | with_reducible refine w_sl ?_
  | with_reducible refine w_noPart ?_
  | with_reducible refine w_part ?_
  | with_reducible refine w_exint ?_
  | with_reducible refine w_revL ?_
  | with_reducible refine w_bm ?_
  | with_reducible refine w_augS ?_
  | with_reducible refine w_ip ?_
  | with_reducible refine w_gSub ?_
  | with_reducible refine w_gName ?_
  | with_reducible refine w_gCons ?_
  | with_reducible refine w_gNil ?_
  | with_reducible refine w_chain ?_
  | with_reducible refine w_asgG ?_)
local macro_rules | `(tactic| walk_at "rr") => `(tactic| repeat walk_at "rs")
local macro_rules | `(tactic| walk_at "rn1") => `(tactic| first
  | with_reducible refine w_seq ?_
  | with_reducible refine w_asg ?_
  | ((with_reducible refine' w_var ?h ?_); (case h => exact rfl))
  | with_reducible refine w_c ?_
  | with_reducible refine w_op ?_
  | with_reducible refine w_I0 ?_
  | with_reducible refine w_cb ?_
  | with_reducible refine w_cons ?_
  | with_reducible refine w_nil ?_
  | with_reducible refine w_ret ?_
  | with_reducible refine w_call ?_
  | with_reducible refine w_if ?_
  | with_reducible refine w_test ?_
  | with_reducible refine w_exbl ?_
  | with_reducible refine w_eqI ?_
  | with_reducible refine w_neI ?_
  | with_reducible refine w_next ?_
  | with_reducible refine w_un ?_
  | with_reducible refine w_U ?_
  | with_reducible refine w_B ?_
  | with_reducible refine w_and ?_
  | with_reducible refine w_or ?_
  | with_reducible refine w_not ?_
  | with_reducible refine w_andV ?_
  | with_reducible refine w_notV ?_
  | with_reducible refine w_lst ?_
  | with_reducible refine w_for ?_
  | with_reducible refine w_rng1 ?_
  | with_reducible refine w_rng2 ?_
  | with_reducible refine w_rng3 ?_
  | with_reducible refine w_iList ?_
  | with_reducible refine w_iTup ?_
  | with_reducible refine w_iRevA ?_
  | with_reducible refine w_lc ?_
  | with_reducible refine w_drop ?_
  | with_reducible refine w_par ?_
  | ((with_reducible refine' w_aug ?h ?_); (case h => exact rfl))
  | with_reducible refine w_sl ?_
  | with_reducible refine w_noPart ?_
  | with_reducible refine w_part ?_
  | with_reducible refine w_exint ?_
  | with_reducible refine w_revL ?_
  | with_reducible refine w_bm ?_
  | with_reducible refine w_augS ?_
  | with_reducible refine w_ip ?_
  | with_reducible refine w_gSub ?_
  | with_reducible refine w_gName ?_
  | with_reducible refine w_gCons ?_
  | with_reducible refine w_gNil ?_
  | with_reducible refine w_chain ?_
  | with_reducible refine w_asgG ?_)
local macro_rules | `(tactic| walk_at "rn") => `(tactic| repeat walk_at "rn1")

variable {P : Program} {w : World} {K : PySem.W.Frag} {mg : Str → Option Value} {base : Heap}
/-! ### rootless -/
def IsPart (K : PySem.W.Frag) (H : Hp) (v : V) (g : List Int × Int) : Prop := IsPr K H v (fun x => IsT K H x g.1) (fun y => y = .int g.2)
theorem IsPart.ex {K : PySem.W.Frag} {H H' : Hp} {v : V} {g : List Int × Int} (h : IsPart K H v g) (e : Ex H H') : IsPart K H' v g := let ⟨p, x, y, a, b, c, d⟩ := h; ⟨p, x, y, a, ex_t e b, c.ex e, d⟩
structure GoodG (m : Int) (n : Nat) (g : List Int) : Prop where
  mr : MR m g
  lo : 2 ≤ g.length
  hi : g.length ≤ n
structure RLess (m : Int) (ns : List Int) (parts : List (List Int × Int)) : Prop where
  good : ∀ g ∈ parts, GoodG m ns.length g.1 ∧ 1 ≤ g.2
  two : ∀ g ∈ parts, 2 ≤ g.2 → ∃ l0 l1 l2 l3 a b, ns = [l0, l1, l2, l3, 1] ∧ g = ([b, a, 1], 2) ∧ (0 ≤ a ∧ a < m) ∧ (0 ≤ b ∧ b < m) ∧ FactM m l0 l1 l2 l3 a b a b
  all : ∀ l0 l1 l2 l3 a b, ns = [l0, l1, l2, l3, 1] → (0 ≤ a ∧ a < m) → (0 ≤ b ∧ b < m) → FactM m l0 l1 l2 l3 a b a b → ([b, a, 1], 2) ∈ parts
def sp_rootless (K : PySem.W.Frag) : Sp := fun vs H Q _ => ∃ (p : Addr) (ns : List Int) (m : Int), vs = [.ref p, .int m] ∧ SqT K H p (ns.map V.int) ∧ m ∈ primes ∧ MR m ns ∧ 2 ≤ ns.length ∧ (∀ x, ¬ m ∣ evalP ns x) ∧
  Ret H Q fun H' v => ∃ q rs parts, v = .ref q ∧ H' q = some (.lst rs) ∧ AllR (IsPart K H') rs parts ∧ parts.length ≤ 2 ∧ RLess m ns parts
theorem MR.five {m : Int} {ns : List Int} (h : MR m ns) (hl : ns.length = 5) : ∃ c0 c1 c2 c3, ns = [c0, c1, c2, c3, 1] := by
  obtain ⟨cs, rfl⟩ := h.mon
  rw [List.length_append, List.length_singleton] at hl
  match cs, hl with
  | [c0, c1, c2, c3], _ => exact ⟨c0, c1, c2, c3, rfl⟩
theorem MR.quad {m a b : Int} (ha : 0 ≤ a ∧ a < m) (hb : 0 ≤ b ∧ b < m) (hm : 1 < m) : MR m [b, a, 1] := ⟨⟨[b, a], rfl⟩, fun c hc => by
  rcases List.mem_cons.mp hc with rfl | hc
  · exact hb
  · rcases List.mem_cons.mp hc with rfl | hc
    · exact ha
    · rw [List.mem_singleton.mp hc]; omega, by show 3 ≤ 5; decide⟩
theorem sq_root0 (m a b x x0 x1 x2 x3 : Int) : ((((0 * x + 1) * x + (a + a + m * x3)) * x + (b + b + a * a + m * x2)) * x + (a * b + a * b + m * x1)) * x + (b * b + m * x0) =
    (x * x + a * x + b) * (x * x + a * x + b) + m * (x0 + x1 * x + x2 * (x * x) + x3 * (x * x * x)) := by grind
theorem sq_root {m l0 l1 l2 l3 a b x : Int} (F : FactM m l0 l1 l2 l3 a b a b) (h : m ∣ x * x + a * x + b) : m ∣ evalP [l0, l1, l2, l3, 1] x := by
  obtain ⟨x0, F0⟩ := F.f0
  obtain ⟨x1, F1⟩ := F.f1
  obtain ⟨x2, F2⟩ := F.f2
  obtain ⟨x3, F3⟩ := F.f3
  obtain ⟨y, hy⟩ := h
  have e0 : l0 = b * b + m * x0 := by omega
  have e1 : l1 = a * b + a * b + m * x1 := by omega
  have e2 : l2 = b + b + a * a + m * x2 := by omega
  have e3 : l3 = a + a + m * x3 := by omega
  subst e0 e1 e2 e3
  exact ⟨y * (m * y) + (x0 + x1 * x + x2 * (x * x) + x3 * (x * x * x)), (sq_root0 m a b x x0 x1 x2 x3).trans (by rw [hy, Int.mul_assoc, ← Int.mul_add])⟩
theorem allR_pick {α : Type} {R : V → α → Prop} {Pz : α → Prop} : ∀ (ys : List V), (∀ y ∈ ys, ∃ z, R y z ∧ Pz z) → ∃ zs, AllR R ys zs ∧ ∀ z ∈ zs, Pz z
  | [], _ => ⟨[], AllR.nil, fun _ h => by cases h⟩
  | y :: ys, h => by
    obtain ⟨z, r, pz⟩ := h y (List.mem_cons_self ..)
    obtain ⟨zs, rs, pzs⟩ := allR_pick ys fun y' hy => h y' (List.mem_cons_of_mem _ hy)
    refine ⟨z :: zs, ⟨by rw [List.length_cons, List.length_cons, rs.1], fun i x u a b => ?_⟩, fun u hu => ?_⟩
    · match i, a, b with
      | 0, a, b => cases a; cases b; exact r
      | i + 1, a, b => exact rs.2 i x u a b
    · rcases List.mem_cons.mp hu with rfl | hu
      · exact pz
      · exact pzs u hu
theorem allR_one {α : Type} {R : V → α → Prop} {y : V} {z : α} (r : R y z) : AllR R [y] [z] := AllR.nil.snoc r
theorem ok_rootless (T : Txt K mg) (G_pair_of : FnOk P w K mg base CX0 2 T.pair_of.f T.pair_of.fd ["left", "p"] (sp_pair_of K)) : FnOk P w K mg base CX0 3 T.rootless.f T.rootless.fd ["left", "p"] (sp_rootless K) := by
  refine T.rootless.F.ok sc_rootless (fun vs H Q E h => ?_) (fun cdv A outer s H vs Q E hr h => ?_)
  · obtain ⟨p, ns, m, rfl, _⟩ := h
    rfl
  · obtain ⟨p, ns, m, rfl, hx, hm, hM, hl, hroot, k⟩ := h
    have hb := primes_bd hm
    refine ⟨_, (pss_cons (ps_set (i := 2) sc_rootless.nd rfl (.inl rfl) pe_non)
      (pss_cons (ps_if (pt_cmpR op_eq (pe_callB call_len_seq (by rfl) T.n_len (by decide +kernel) (pa_cons (pv 0) pa_nil)) pe_int (nomark _))
        (pss_one (ps_set (i := 2) sc_rootless.nd rfl (.inl rfl) (pe_call G_pair_of (hr.mono (by omega)) (by rfl) T.pair_of.g T.pair_of.F.kp T.pair_of.b .nil pass0 (pa_cons (pv 0) (pa_cons (pv 1) pa_nil)))))
        pss_nil)
      (pss_cons (ps_if (pt_cmpR op_isN (pv 2) pe_non (nomark _))
        (pss_one (ps_ret (pe_lst (pa_cons (pe_tup (pa_cons (pv 0) (pa_cons pe_int pa_nil))) pa_nil))))
        pss_nil)
      (pss_cons (ps_if (pt_cmpR (op_eqD hr.units) (pe_ix (r := rIxL K) ix_list (pv 2) pe_int (fun _ _ => rfl)) (pe_ix (r := rIxL K) ix_list (pv 2) pe_int (fun _ _ => rfl)) (nomark _))
        (pss_one (ps_ret (pe_lst (pa_cons (pe_tup (pa_cons (pe_ix (r := rIxL K) ix_list (pv 2) pe_int (fun _ _ => rfl)) (pa_cons pe_int pa_nil))) pa_nil))))
        pss_nil)
      (pss_one (ps_ret (pe_lc (own := [("g", 3)]) (g := gName 3) (by rfl) sc_rootless.nd (pi_list (pe_callB (cr_sortT (d := 3) (B := 1000) (by decide)) (by rfl) T.n_sorted (by decide +kernel) (pa_cons (pv 2) pa_nil))) (blkOk_by (own := [("g", 3)]) (N := N_rootless) (sc := defScope s_rootless) (by decide +kernel)) (fun _ _ _ _ _ => pg_name (i := 3) sc_rootless.nd rfl (Or.inl rfl)) (fun _ _ _ _ _ => pts_nil) (fun _ _ _ _ _ => (pe_tup (pa_cons (pv 3) (pa_cons pe_int pa_nil))))))))))), ?_⟩
    rw [show L2.start N_rootless [V.ref p, .int m] = [some (.ref p), some (.int m), none, none] from rfl]
    try dsimp only [cxOf]
    walk_at "rr"
    refine ⟨p, _, rfl, .inr hx, ?_⟩
    rw [List.length_map]
    walk_at "rr"
    -- no pair: [(left, 1)]
    have nopair : ∀ H1, Ex H H1 → (∀ l0 l1 l2 l3 a b, ns = [l0, l1, l2, l3, 1] → (0 ≤ a ∧ a < m) → (0 ≤ b ∧ b < m) → ¬ FactM m l0 l1 l2 l3 a b a b) →
        tRet (tLst (tCons (tTup (tCons (tVar 0) (tCons (tC (V.int 1)) tNil))) tNil)) ⟨fun _ _ => False, Q, fun _ _ => False, fun _ _ => False⟩ [some (.ref p), some (.int m), some .non, none] H1 := by
      intro H1 e1 hno
      walk_at "rr"
      refine ⟨by show 2 ≤ sizeLine; decide, fun q1 n1 => ?_⟩
      walk_at "rr"
      refine ⟨by show 1 ≤ sizeLine; decide, fun q2 n2 => ?_⟩
      refine k _ _ (e1.trans ((Ex.new n1).trans (Ex.new n2))) ⟨q2, _, [(ns, 1)], rfl, upd_same, allR_one ⟨q1, _, _, rfl, ex_t (Ex.new n2) (.inl (.inl upd_same)), ⟨p, rfl, ex_t (e1.trans ((Ex.new n1).trans (Ex.new n2))) hx⟩, rfl⟩, by show 1 ≤ 2; decide, fun g hg => ?_, fun g hg h2 => ?_, fun l0 l1 l2 l3 a b e ha hb F => absurd F (hno l0 l1 l2 l3 a b e ha hb)⟩
      · rw [List.mem_singleton.mp hg]
        exact ⟨⟨hM, hl, Nat.le_refl _⟩, show (1 : Int) ≤ 1 by decide⟩
      · rw [List.mem_singleton.mp hg] at h2
        exact absurd h2 (show ¬ (2 : Int) ≤ 1 by decide)
    refine w_ite (fun h5 => ?_) (fun h5 => ?_)
    · obtain ⟨l0, l1, l2, l3, rfl⟩ := hM.five (by omega)
      walk_at "rr"
      refine ⟨p, l0, l1, l2, l3, m, rfl, hx, hm, hM, fun v H1 e1 r1 => ?_⟩
      walk_at "rr"
      rcases r1 with ⟨rfl, hno⟩ | ⟨q, g1, g2, a, b, c, d, rfl, hq, hg1, hg2, ha, hb', hc, hd, F⟩
      · refine ⟨rfl, ?_⟩
        walk_at "rr"
        refine iteT (nopair H1 e1 ?_)
        intro x0 x1 x2 x3 a b ex ha hb F
        cases ex
        refine hno a b ha.1 ha.2 ?_ hb.2 F
        by_cases hb0 : b = 0
        · exfalso
          subst hb0
          refine hroot 0 (sq_root F ?_)
          rw [Int.mul_zero, Int.mul_zero]
          exact Int.dvd_zero m
        · omega
      · refine ⟨rfl, ?_⟩
        walk_at "rr"
        refine iteF ?_
        walk_at "rr"
        refine w_ixL (.inl (.inl hq)) (atI_nat (j := 0) rfl) ?_
        walk_at "rr"
        refine w_ixL (.inl (.inl hq)) (atI_nat (j := 1) rfl) ?_
        obtain ⟨p1, rfl, s1⟩ := hg1
        obtain ⟨p2, rfl, s2⟩ := hg2
        refine ⟨.tuple [.int b, .int a, .int 1], .tuple [.int d, .int c, .int 1], .tup s1 (.cons (.int b) (.cons (.int a) (.cons (.int 1) .nil))), .tup s2 (.cons (.int d) (.cons (.int c) (.cons (.int 1) .nil))), by rfl, by rfl, ?_⟩
        walk_at "rr"
        have uq : ∀ x0 x1 x2 x3 a' b', [l0, l1, l2, l3, 1] = [x0, x1, x2, x3, 1] → (0 ≤ a' ∧ a' < m) → (0 ≤ b' ∧ b' < m) → FactM m x0 x1 x2 x3 a' b' a' b' → a = a' ∧ b = b' ∧ c = a' ∧ d = b' := by
          intro x0 x1 x2 x3 a' b' ex ha' hb'' F'
          cases ex
          exact uniq hm F' F (fun x hx => hroot x (sq_root F' hx)) ha' hb'' ha hb' hc hd
        have ev : PyData.eqv (.tuple [.int b, .int a, .int 1]) (.tuple [.int d, .int c, .int 1]) = (b == d && (a == c && true)) := by
          simp [PyData.eqv, PyData.eqvAll]
        refine w_iteB (fun he => ?_) (fun he => ?_)
        · rw [ev, Bool.and_true, Bool.and_eq_true, beq_iff_eq, beq_iff_eq] at he
          obtain ⟨rfl, rfl⟩ := he
          walk_at "rr"
          refine w_ixL (.inl (.inl hq)) (atI_nat (j := 0) rfl) ?_
          walk_at "rr"
          refine ⟨by show 2 ≤ sizeLine; decide, fun q1 n1 => ?_⟩
          walk_at "rr"
          refine ⟨by show 1 ≤ sizeLine; decide, fun q2 n2 => ?_⟩
          refine k _ _ (e1.trans ((Ex.new n1).trans (Ex.new n2))) ⟨q2, _, [([b, a, 1], 2)], rfl, upd_same, allR_one ⟨q1, _, _, rfl, ex_t (Ex.new n2) (.inl (.inl upd_same)), ⟨p1, rfl, ex_t ((Ex.new n1).trans (Ex.new n2)) s1⟩, rfl⟩, by show 1 ≤ 2; decide, fun g hg => ?_, fun g hg h2 => ?_, fun x0 x1 x2 x3 a' b' ex ha' hb'' F' => ?_⟩
          · rw [List.mem_singleton.mp hg]
            exact ⟨⟨MR.quad ha hb' (by omega), by show 2 ≤ 3; decide, by show 3 ≤ 5; decide⟩, show (1 : Int) ≤ 2 by decide⟩
          · rw [List.mem_singleton.mp hg]
            exact ⟨l0, l1, l2, l3, a, b, rfl, rfl, ha, hb', F⟩
          · obtain ⟨rfl, rfl, _, _⟩ := uq x0 x1 x2 x3 a' b' ex ha' hb'' F'
            exact List.mem_singleton.mpr rfl
        · rw [ev, Bool.and_true] at he
          walk_at "rr"
          refine ⟨q, _, rfl, .inl (.inl hq), by show 2 < 64; decide, fun x hx' => ?_, fun ys pp hperm _ npp => ?_⟩
          · rcases List.mem_cons.mp hx' with rfl | hx'
            · exact ⟨[b, a, 1], ⟨p1, rfl, s1⟩, rfl, fun z hz => by have := (MR.quad ha hb' (by omega)).red z hz; omega⟩
            · rw [List.mem_singleton.mp hx']
              exact ⟨[d, c, 1], ⟨p2, rfl, s2⟩, rfl, fun z hz => by have := (MR.quad hc hd (by omega)).red z hz; omega⟩
          · have e2 : Ex H1 (upd H1 pp (.lst ys)) := Ex.new npp
            obtain ⟨zs, hzs, hzp⟩ := allR_pick (R := IsT K (upd H1 pp (.lst ys))) (Pz := fun z => GoodG m 5 z) ys fun y hy => by
              have hy2 := hperm.mem_iff.mp hy
              rcases List.mem_cons.mp hy2 with rfl | hy2
              · exact ⟨[b, a, 1], ⟨p1, rfl, ex_t e2 s1⟩, MR.quad ha hb' (by omega), by show 2 ≤ 3; decide, by show 3 ≤ 5; decide⟩
              · rw [List.mem_singleton.mp hy2]
                exact ⟨[d, c, 1], ⟨p2, rfl, ex_t e2 s2⟩, MR.quad hc hd (by omega), by show 2 ≤ 3; decide, by show 3 ≤ 5; decide⟩
            have hy2 : ys.length = 2 := hperm.length_eq
            refine c_listR (Rin := IsT K (upd H1 pp (.lst ys))) (Rout := fun H2 v (z : List Int × Int) => IsPart K H2 v z) (fun _ _ _ _ e r => r.ex e) (zs := zs) (fun z => (z, 1)) (.inl (.inl upd_same)) hzs (by rw [← hzs.1]; omega) (fun _ => rfl) (fun D H2 v z o hD r hl => ?_) (fun x z hz r H3 e3 Q' q' => ?_) (fun D H3 out hD e3 h3 ha3 => ?_)
            · obtain ⟨pa, xa, ya, rfl, sa, ra, rb⟩ := r
              obtain ⟨l, hl⟩ := hl
              refine ⟨pa, xa, ya, rfl, ?_, ra.mut ⟨l, hl⟩, rb⟩
              rcases sa with (sa | ⟨ob, sa⟩) | sa
              · exact .inl (.inl (by rw [upd_ne (ne_of sa hl (by intro z; cases z))]; exact sa))
              · exact .inl (.inr ⟨ob, by rw [upd_ne (ne_of sa hl (by intro z; cases z))]; exact sa⟩)
              · exact .inr sa
            · walk_at "rr"
              refine ⟨by show 2 ≤ sizeLine; decide, fun q1 n1 => ?_⟩
              exact q' _ _ (Ex.new n1) ⟨q1, _, _, rfl, .inl (.inl upd_same), (r.ex e3).ex (Ex.new n1), rfl⟩
            · refine k _ _ (e1.trans (e2.trans e3)) ⟨D, out, zs.map fun z => (z, 1), rfl, h3, ha3, by rw [List.length_map, ← hzs.1]; omega, fun g hg => ?_, fun g hg h2 => ?_, fun x0 x1 x2 x3 a' b' ex ha' hb'' F' => ?_⟩
              · obtain ⟨z, hz, rfl⟩ := List.mem_map.mp hg
                exact ⟨hzp z hz, show (1 : Int) ≤ 1 by decide⟩
              · obtain ⟨z, hz, rfl⟩ := List.mem_map.mp hg
                exact absurd h2 (show ¬ (2 : Int) ≤ 1 by decide)
              · obtain ⟨rfl, rfl, rfl, rfl⟩ := uq x0 x1 x2 x3 a' b' ex ha' hb'' F'
                rw [beq_self_eq_true, beq_self_eq_true] at he
                cases he
    · walk_at "rr"
      refine ⟨rfl, ?_⟩
      walk_at "rr"
      refine iteT (nopair H (Ex.refl H) ?_)
      intro x0 x1 x2 x3 a b ex ha hb F
      rw [ex] at h5
      exact h5 rfl
end
end RH

set_option Elab.async false
set_option linter.all false
set_option maxRecDepth 100000
set_option maxHeartbeats 4000000
namespace RH
open PySem PySem.Spec PyProof.Rows L2 Evl
/-! ### derivatives, synthetic division -/
def dPx (k : Int) : List Int → List Int
  | [] => []
  | c :: cs => k * c :: dPx (k + 1) cs
def dP (ns : List Int) : List Int := dPx 1 (ns.drop 1)
theorem evalM_eq (m : Int) : ∀ (ns : List Int) (x : Int), evalM m ns x = evalP ns x % m
  | [], x => by show (0 : Int) = 0 % m; rw [Int.zero_emod]
  | c :: cs, x => by
    show (evalM m cs x * x + c) % m = (evalP cs x * x + c) % m
    rw [evalM_eq m cs x, Int.add_emod, Int.mul_emod, Int.emod_emod_of_dvd _ (Int.dvd_refl m), ← Int.mul_emod, ← Int.add_emod]
structure DivBy (m low : Int) (ns q : List Int) : Prop where
  f : ∀ x, m ∣ evalP ns x - evalP q x * (x + low)
  d : ∀ x, m ∣ evalP (dP ns) x - (evalP (dP q) x * (x + low) + evalP q x)
theorem mul1_mod {x m : Int} : x % m * 1 % m = x % m := by rw [Int.mul_one, Int.emod_emod_of_dvd _ (Int.dvd_refl m)]
theorem one_mod {m : Int} (h : 2 ≤ m) : (1 : Int) * 1 % m = 1 := Int.emod_eq_of_lt (by decide) (by omega)
theorem MR.shape {m : Int} {ns : List Int} (h : MR m ns) : ns = [1] ∨ (∃ c0, ns = [c0, 1]) ∨ (∃ c0 c1, ns = [c0, c1, 1]) ∨ (∃ c0 c1 c2, ns = [c0, c1, c2, 1]) ∨ ∃ c0 c1 c2 c3, ns = [c0, c1, c2, c3, 1] := by
  obtain ⟨cs, rfl⟩ := h.mon
  have hl := h.len
  rw [List.length_append, List.length_singleton] at hl
  match cs, hl with
  | [], _ => exact .inl rfl
  | [c0], _ => exact .inr (.inl ⟨c0, rfl⟩)
  | [c0, c1], _ => exact .inr (.inr (.inl ⟨c0, c1, rfl⟩))
  | [c0, c1, c2], _ => exact .inr (.inr (.inr (.inl ⟨c0, c1, c2, rfl⟩)))
  | [c0, c1, c2, c3], _ => exact .inr (.inr (.inr (.inr ⟨c0, c1, c2, c3, rfl⟩)))
theorem MR.of {m : Int} {cs : List Int} (h : ∀ c ∈ cs, 0 ≤ c ∧ c < m) (hm : 2 ≤ m) (hl : cs.length ≤ 4) : MR m (cs ++ [1]) := ⟨⟨cs, rfl⟩, fun c hc => (List.mem_append.mp hc).elim (h c) fun z => by
  rw [List.mem_singleton.mp z]; omega, by rw [List.length_append, List.length_singleton]; omega⟩
theorem md_bd {x m : Int} (h : 2 ≤ m) : 0 ≤ x % m ∧ x % m < m := ⟨Int.emod_nonneg _ (by omega), Int.emod_lt_of_pos _ (by omega)⟩
theorem sdiv2 {m low c0 : Int} (hm : 2 ≤ m) : sdiv [c0, 1] low m = [1] := by
  show cutM [1 * 1 % m] = [1]
  rw [one_mod hm]
  exact cutM_one []
theorem sdiv3 {m low c0 c1 : Int} (hm : 2 ≤ m) : sdiv [c0, c1, 1] low m = [(c1 - low) % m, 1] := by
  show cutM [(c1 - 1 * 1 % m * low) % m * 1 % m, 1 * 1 % m] = _
  rw [mul1_mod, one_mod hm, Int.one_mul]
  exact cutM_one [_]
theorem sdiv4 {m low c0 c1 c2 : Int} (hm : 2 ≤ m) : sdiv [c0, c1, c2, 1] low m = [(c1 - (c2 - low) % m * low) % m, (c2 - low) % m, 1] := by
  show cutM [(c1 - (c2 - 1 * 1 % m * low) % m * 1 % m * low) % m * 1 % m, (c2 - 1 * 1 % m * low) % m * 1 % m, 1 * 1 % m] = _
  rw [mul1_mod, mul1_mod, one_mod hm, Int.one_mul]
  exact cutM_one [_, _]
theorem sdiv5 {m low c0 c1 c2 c3 : Int} (hm : 2 ≤ m) : sdiv [c0, c1, c2, c3, 1] low m = [(c1 - (c2 - (c3 - low) % m * low) % m * low) % m, (c2 - (c3 - low) % m * low) % m, (c3 - low) % m, 1] := by
  show cutM [(c1 - (c2 - (c3 - 1 * 1 % m * low) % m * 1 % m * low) % m * 1 % m * low) % m * 1 % m, (c2 - (c3 - 1 * 1 % m * low) % m * 1 % m * low) % m * 1 % m, (c3 - 1 * 1 % m * low) % m * 1 % m, 1 * 1 % m] = _
  rw [mul1_mod, mul1_mod, mul1_mod, one_mod hm, Int.one_mul]
  exact cutM_one [_, _, _]
theorem sdiv_ok {m low : Int} {ns : List Int} (hm : 2 ≤ m) (h : MR m ns) (hl : 2 ≤ ns.length) (hr : m ∣ evalP ns (-low)) : MR m (sdiv ns low m) ∧ (sdiv ns low m).length + 1 = ns.length ∧ DivBy m low ns (sdiv ns low m) := by
  rcases h.shape with rfl | ⟨c0, rfl⟩ | ⟨c0, c1, rfl⟩ | ⟨c0, c1, c2, rfl⟩ | ⟨c0, c1, c2, c3, rfl⟩
  · exact absurd hl (by decide)
  · rw [sdiv2 hm]
    refine ⟨MR.of (cs := []) (fun c hc => by cases hc) hm (by decide), rfl, fun x => ?_, fun x => ?_⟩
    · obtain ⟨z, hz⟩ := hr
      have e : evalP [c0, 1] (-low) = c0 - low := by show (0 * -low + 1) * -low + c0 = _; grind
      rw [e] at hz
      refine ⟨z, ?_⟩
      rw [← hz]
      show (0 * x + 1) * x + c0 - (0 * x + 1) * (x + low) = _
      grind
    · refine ⟨0, ?_⟩
      show 0 * x + 1 * 1 - (0 * (x + low) + (0 * x + 1)) = m * 0
      grind
  · rw [sdiv3 hm]
    refine ⟨MR.of (cs := [_]) (fun c hc => by rw [List.mem_singleton.mp hc]; exact md_bd hm) hm (by show 1 ≤ 4; decide), rfl, ?_⟩
    have e1 := em (c1 - low) m
    generalize (c1 - low) % m = q0 at e1
    generalize (c1 - low) / m = t0 at e1
    obtain ⟨z, hz⟩ := hr
    have e1' : c1 = q0 + low + m * t0 := by omega
    subst e1'
    have e : evalP [c0, q0 + low + m * t0, 1] (-low) = c0 - q0 * low + m * (t0 * -low) := by show ((0 * -low + 1) * -low + (q0 + low + m * t0)) * -low + c0 = _; grind
    rw [e] at hz
    have e0 : c0 = q0 * low + m * (z + t0 * low) := by grind
    subst e0
    refine ⟨fun x => ⟨z + t0 * low + t0 * x, ?_⟩, fun x => ⟨t0, ?_⟩⟩
    · show ((0 * x + 1) * x + (q0 + low + m * t0)) * x + (q0 * low + m * (z + t0 * low)) - ((0 * x + 1) * x + q0) * (x + low) = _
      grind
    · show (0 * x + (1 + 1) * 1) * x + 1 * (q0 + low + m * t0) - ((0 * x + 1 * 1) * (x + low) + ((0 * x + 1) * x + q0)) = _
      grind
  · rw [sdiv4 hm]
    refine ⟨MR.of (cs := [_, _]) (fun c hc => ?_) hm (by show 2 ≤ 4; decide), rfl, ?_⟩
    · rcases List.mem_cons.mp hc with rfl | hc
      · exact md_bd hm
      · rw [List.mem_singleton.mp hc]; exact md_bd hm
    have e1 := em (c2 - low) m
    generalize (c2 - low) % m = q1 at e1
    generalize (c2 - low) / m = t1 at e1
    have e2 := em (c1 - q1 * low) m
    generalize (c1 - q1 * low) % m = q0 at e2
    generalize (c1 - q1 * low) / m = t0 at e2
    obtain ⟨z, hz⟩ := hr
    have e1' : c2 = q1 + low + m * t1 := by omega
    have e2' : c1 = q0 + q1 * low + m * t0 := by omega
    subst e1' e2'
    have e : evalP [c0, q0 + q1 * low + m * t0, q1 + low + m * t1, 1] (-low) = c0 - q0 * low + m * (t0 * -low + t1 * low * low) := by show (((0 * -low + 1) * -low + (q1 + low + m * t1)) * -low + (q0 + q1 * low + m * t0)) * -low + c0 = _; grind
    rw [e] at hz
    have e0 : c0 = q0 * low + m * (z + t0 * low - t1 * low * low) := by grind
    subst e0
    refine ⟨fun x => ⟨z + t0 * low - t1 * low * low + t0 * x + t1 * x * x, ?_⟩, fun x => ⟨t0 + 2 * t1 * x, ?_⟩⟩
    · show (((0 * x + 1) * x + (q1 + low + m * t1)) * x + (q0 + q1 * low + m * t0)) * x + (q0 * low + m * (z + t0 * low - t1 * low * low)) - (((0 * x + 1) * x + q1) * x + q0) * (x + low) = _
      grind
    · show ((0 * x + (1 + 1 + 1) * 1) * x + (1 + 1) * (q1 + low + m * t1)) * x + 1 * (q0 + q1 * low + m * t0) - (((0 * x + (1 + 1) * 1) * x + 1 * q1) * (x + low) + (((0 * x + 1) * x + q1) * x + q0)) = _
      grind
  · rw [sdiv5 hm]
    refine ⟨MR.of (cs := [_, _, _]) (fun c hc => ?_) hm (by show 3 ≤ 4; decide), rfl, ?_⟩
    · rcases List.mem_cons.mp hc with rfl | hc
      · exact md_bd hm
      · rcases List.mem_cons.mp hc with rfl | hc
        · exact md_bd hm
        · rw [List.mem_singleton.mp hc]; exact md_bd hm
    have e1 := em (c3 - low) m
    generalize (c3 - low) % m = q2 at e1
    generalize (c3 - low) / m = t2 at e1
    have e2 := em (c2 - q2 * low) m
    generalize (c2 - q2 * low) % m = q1 at e2
    generalize (c2 - q2 * low) / m = t1 at e2
    have e3 := em (c1 - q1 * low) m
    generalize (c1 - q1 * low) % m = q0 at e3
    generalize (c1 - q1 * low) / m = t0 at e3
    obtain ⟨z, hz⟩ := hr
    have e1' : c3 = q2 + low + m * t2 := by omega
    have e2' : c2 = q1 + q2 * low + m * t1 := by omega
    have e3' : c1 = q0 + q1 * low + m * t0 := by omega
    subst e1' e2' e3'
    have e : evalP [c0, q0 + q1 * low + m * t0, q1 + q2 * low + m * t1, q2 + low + m * t2, 1] (-low) = c0 - q0 * low + m * (t0 * -low + t1 * low * low - t2 * low * low * low) := by
      show ((((0 * -low + 1) * -low + (q2 + low + m * t2)) * -low + (q1 + q2 * low + m * t1)) * -low + (q0 + q1 * low + m * t0)) * -low + c0 = _; grind
    rw [e] at hz
    have e0 : c0 = q0 * low + m * (z + t0 * low - t1 * low * low + t2 * low * low * low) := by grind
    subst e0
    refine ⟨fun x => ⟨z + t0 * low - t1 * low * low + t2 * low * low * low + t0 * x + t1 * x * x + t2 * x * x * x, ?_⟩, fun x => ⟨t0 + 2 * t1 * x + 3 * t2 * x * x, ?_⟩⟩
    · show ((((0 * x + 1) * x + (q2 + low + m * t2)) * x + (q1 + q2 * low + m * t1)) * x + (q0 + q1 * low + m * t0)) * x + (q0 * low + m * (z + t0 * low - t1 * low * low + t2 * low * low * low)) - ((((0 * x + 1) * x + q2) * x + q1) * x + q0) * (x + low) = _
      grind
    · show (((0 * x + (1 + 1 + 1 + 1) * 1) * x + (1 + 1 + 1) * (q2 + low + m * t2)) * x + (1 + 1) * (q1 + q2 * low + m * t1)) * x + 1 * (q0 + q1 * low + m * t0) - ((((0 * x + (1 + 1 + 1) * 1) * x + (1 + 1) * q2) * x + 1 * q1) * (x + low) + ((((0 * x + 1) * x + q2) * x + q1) * x + q0)) = _
      grind
end RH

set_option Elab.async false
set_option linter.all false
set_option maxRecDepth 100000
set_option maxHeartbeats 4000000
namespace RH
open PySem PySem.Spec PyProof.Rows L2 Evl
/-! ### what is left, and what was divided out -/
structure Rel (m : Int) (ns left : List Int) (R R' : Int → Int) : Prop where
  f : ∀ x, m ∣ evalP ns x - evalP left x * R x
  d : ∀ x, m ∣ evalP (dP ns) x - (evalP (dP left) x * R x + evalP left x * R' x)
theorem stepf {F L Q R X m a b : Int} (ha : F - L * R = m * a) (hb : L - Q * X = m * b) : F - Q * (R * X) = m * (a + b * R) := by
  have e1 : F = L * R + m * a := by omega
  have e2 : L = Q * X + m * b := by omega
  subst e1 e2
  grind
theorem stepd {F L' L Q' Q R R' X m a b c : Int} (ha : F - (L' * R + L * R') = m * a) (hb : L - Q * X = m * b) (hc : L' - (Q' * X + Q) = m * c) : F - (Q' * (R * X) + Q * (R' * X + R)) = m * (a + c * R + b * R') := by
  have e1 : F = L' * R + L * R' + m * a := by omega
  have e2 : L = Q * X + m * b := by omega
  have e3 : L' = Q' * X + Q + m * c := by omega
  subst e1 e2 e3
  grind
theorem Rel.step {m low : Int} {ns left q : List Int} {R R' : Int → Int} (h : Rel m ns left R R') (hd : DivBy m low left q) : Rel m ns q (fun x => R x * (x + low)) (fun x => R' x * (x + low) + R x) where
  f := fun x => by
    obtain ⟨a, ha⟩ := h.f x
    obtain ⟨b, hb⟩ := hd.f x
    exact ⟨_, stepf ha hb⟩
  d := fun x => by
    obtain ⟨a, ha⟩ := h.d x
    obtain ⟨b, hb⟩ := hd.f x
    obtain ⟨c, hc⟩ := hd.d x
    exact ⟨_, stepd ha hb hc⟩
theorem evalP_sub (m : Int) {x y : Int} (h : m ∣ x - y) : ∀ ns, m ∣ evalP ns x - evalP ns y
  | [] => ⟨0, by show (0 : Int) - 0 = _; omega⟩
  | c :: cs => by
    obtain ⟨a, ha⟩ := evalP_sub m h cs
    obtain ⟨b, hb⟩ := h
    refine ⟨a * x + evalP cs y * b, ?_⟩
    rw [evalP_cons, evalP_cons, Int.mul_add, ← Int.mul_assoc, ← ha, Int.mul_comm (evalP cs y) b, ← Int.mul_assoc, ← hb, Int.sub_mul, Int.sub_mul, Int.mul_comm x (evalP cs y), Int.mul_comm y (evalP cs y)]
    omega
theorem evalP_mod (m : Int) (x : Int) : ∀ ns : List Int, m ∣ evalP ns x - evalP (ns.map (· % m)) x
  | [] => ⟨0, by show (0 : Int) - 0 = _; omega⟩
  | c :: cs => by
    obtain ⟨a, ha⟩ := evalP_mod m x cs
    refine ⟨a * x + c / m, ?_⟩
    have e := em c m
    rw [List.map_cons, evalP_cons, evalP_cons, Int.mul_add, ← Int.mul_assoc, ← ha, Int.sub_mul]
    omega
theorem dPx_mod (m : Int) (x : Int) : ∀ (k : Int) (ns : List Int), m ∣ evalP (dPx k ns) x - evalP (dPx k (ns.map (· % m))) x
  | _, [] => ⟨0, by show (0 : Int) - 0 = _; omega⟩
  | k, c :: cs => by
    obtain ⟨a, ha⟩ := dPx_mod m x (k + 1) cs
    refine ⟨a * x + k * (c / m), ?_⟩
    have e := em c m
    have e2 : k * c = k * (c % m) + m * (k * (c / m)) := by
      rw [show m * (k * (c / m)) = k * (m * (c / m)) by rw [← Int.mul_assoc, Int.mul_comm m k, Int.mul_assoc], ← Int.mul_add, ← e]
    show evalP (k * c :: dPx (k + 1) cs) x - evalP (k * (c % m) :: dPx (k + 1) (cs.map (· % m))) x = _
    rw [evalP_cons, evalP_cons, Int.mul_add, ← Int.mul_assoc, ← ha, Int.sub_mul]
    omega
/-- the polynomial modulo m -/
def redM (m : Int) (ns : List Int) : List Int := ns.map (· % m)
theorem red_rel {m : Int} {ns : List Int} : Rel m ns (redM m ns) (fun _ => 1) (fun _ => 0) where
  f := fun x => by rw [Int.mul_one]; exact evalP_mod m x ns
  d := fun x => by
    rw [Int.mul_one, Int.mul_zero, Int.add_zero]
    unfold dP redM
    rw [← List.map_drop]
    exact dPx_mod m x 1 (ns.drop 1)
theorem red_mr {m : Int} {ns : List Int} (hm : 2 ≤ m) (hp : IsPoly ns) : MR m (redM m ns) ∧ cutM (redM m ns) = redM m ns := by
  obtain ⟨cs, rfl, _, h4, _⟩ := hp.ex
  have e : redM m (cs ++ [1]) = cs.map (· % m) ++ [1] := by
    unfold redM
    rw [List.map_append, List.map_singleton, Int.emod_eq_of_lt (by decide) (by omega)]
  rw [e]
  refine ⟨MR.of (fun c hc => ?_) hm (by rw [List.length_map]; exact h4), cutM_one _⟩
  obtain ⟨z, _, rfl⟩ := List.mem_map.mp hc
  exact md_bd hm
/-- k times x + low is divided out so far -/
structure Wh (m : Int) (ns : List Int) (low : Int) (left : List Int) (k : Nat) : Prop where
  mr : MR m left
  rel : ∃ R R', Rel m ns left R R' ∧ (∀ l, low < l → l < m → ¬ m ∣ R (-l)) ∧ (low < m → k = 0 → ¬ m ∣ R (-low)) ∧ (k = 1 → m ∣ evalP ns (-low) ∧ (m ∣ evalP (dP ns) (-low) → m ∣ evalP left (-low))) ∧ (2 ≤ k → m ∣ evalP ns (-low) ∧ m ∣ evalP (dP ns) (-low)) ∧ (1 ≤ k → m ∣ R (-low))
  nor : ∀ l, 0 ≤ l → l < low → ¬ m ∣ evalP left (-l)
  or : left = redM m ns ∨ (left.length < ns.length ∧ ∃ x, m ∣ evalP ns x)
  le : left.length ≤ ns.length
theorem dvd_of_sub {m x y : Int} (h : m ∣ x - y) (hy : m ∣ y) : m ∣ x := by
  have := Int.dvd_add h hy
  rw [Int.sub_add_cancel] at this
  exact this
theorem dvd_of_sub' {m x y : Int} (h : m ∣ x - y) (hx : m ∣ x) : m ∣ y := by
  have := Int.dvd_sub hx h
  rw [show x - (x - y) = y by omega] at this
  exact this
/-- one more time -/
theorem Wh.more {m : Int} {ns : List Int} {low : Int} {left : List Int} {k : Nat} (hm : m ∈ primes) (hlow : 0 ≤ low ∧ low < m) (h : Wh m ns low left k) (hl : 2 ≤ left.length) (hr : m ∣ evalP left (-low)) : Wh m ns low (sdiv left low m) (k + 1) := by
  have hb := primes_bd hm
  obtain ⟨q1, q2, q3⟩ := sdiv_ok hb.1 h.mr hl hr
  obtain ⟨R, R', rl, n1, n2, n3, n4, n5⟩ := h.rel
  have hf : m ∣ evalP ns (-low) := dvd_of_sub (rl.f (-low)) (Int.dvd_mul_of_dvd_left hr)
  have hz : -low + low = 0 := by omega
  refine ⟨q1, ⟨_, _, rl.step q3, fun l l1 l2 => ?_, fun _ z => by omega, fun z => ⟨hf, fun hd => ?_⟩, fun z => ⟨hf, ?_⟩, fun _ => ?_⟩, fun l l0 l1 hq => ?_, .inr ⟨by have := h.le; omega, -low, hf⟩, by have := h.le; omega⟩
  · intro z
    rcases primes_mul hm z with z | z
    · exact n1 l l1 l2 z
    · have := Int.le_of_dvd (show 0 < l - low by omega) (by
        have := (Int.dvd_neg).mpr z
        rw [show -(-l + low) = l - low by omega] at this
        exact this)
      omega
  · -- k = 0: the derivative
    have k0 : k = 0 := by omega
    have h1 := dvd_of_sub' (rl.d (-low)) hd
    have h2 : m ∣ evalP (dP left) (-low) * R (-low) := by
      have := Int.dvd_sub h1 (Int.dvd_mul_of_dvd_left (c := R' (-low)) hr)
      rw [Int.add_sub_cancel] at this
      exact this
    have h3 : m ∣ evalP (dP left) (-low) := (primes_mul hm h2).elim id fun z => absurd z (n2 hlow.2 k0)
    have h4 := dvd_of_sub' (q3.d (-low)) h3
    rw [hz, Int.mul_zero, Int.zero_add] at h4
    exact h4
  · exact dvd_of_sub (rl.d (-low)) (Int.dvd_add (Int.dvd_mul_of_dvd_right (n5 (by omega))) (Int.dvd_mul_of_dvd_left hr))
  · show m ∣ R (-low) * (-low + low)
    rw [hz, Int.mul_zero]
    exact Int.dvd_zero m
  · refine h.nor l l0 l1 ?_
    exact dvd_of_sub (q3.f (-l)) (Int.dvd_mul_of_dvd_left hq)
/-- no more -/
theorem Wh.stop {m : Int} {ns : List Int} {low : Int} {left : List Int} {k : Nat} (hm : m ∈ primes) (hlow : low < m) (h : Wh m ns low left k) (hr : ¬ m ∣ evalP left (-low)) :
    (m ∣ evalP ns (-low) → m ∣ evalP (dP ns) (-low) → 2 ≤ k) ∧ (2 ≤ k → m ∣ evalP ns (-low) ∧ m ∣ evalP (dP ns) (-low)) ∧ Wh m ns (low + 1) left 0 := by
  obtain ⟨R, R', rl, n1, n2, n3, n4, n5⟩ := h.rel
  refine ⟨fun h1 h2 => ?_, n4, h.mr, ?_, fun l l0 l1 hq => ?_, h.or, h.le⟩
  · by_cases k0 : k = 0
    · exfalso
      have := dvd_of_sub' (rl.f (-low)) h1
      rcases primes_mul hm this with z | z
      · exact hr z
      · exact n2 hlow k0 z
    · by_cases k1 : k = 1
      · exact absurd ((n3 k1).2 h2) hr
      · omega
  · exact ⟨R, R', rl, fun l l1 l2 => n1 l (by omega) l2, fun hl _ => n1 (low + 1) (by omega) hl, fun z => by omega, fun z => by omega, fun z => by omega⟩
  · by_cases hl : l < low
    · exact h.nor l l0 hl hq
    · have e : l = low := by omega
      subst e
      exact hr hq
/-! ### the split -/
def Dbl (m : Int) (ns g : List Int) : Prop := (∃ l, 0 ≤ l ∧ l < m ∧ g = [l, 1] ∧ m ∣ evalP ns (-l) ∧ m ∣ evalP (dP ns) (-l)) ∨
  ∃ c0 c1 c2 c3 a b, ns = [c0, c1, c2, c3, 1] ∧ g = [b, a, 1] ∧ (0 ≤ a ∧ a < m) ∧ (0 ≤ b ∧ b < m) ∧ FactM m c0 c1 c2 c3 a b a b ∧ ∀ x, ¬ m ∣ x * x + a * x + b
structure SplitOk (m : Int) (ns : List Int) (parts : List (List Int × Int)) : Prop where
  good : ∀ g ∈ parts, GoodG m ns.length g.1 ∧ 1 ≤ g.2
  two : ∀ g ∈ parts, 2 ≤ g.2 → Dbl m ns g.1
  all : ∀ g, Dbl m ns g → ∃ k, 2 ≤ k ∧ (g, k) ∈ parts
/-- the linear parts below low -/
structure Lin (m : Int) (ns : List Int) (low : Int) (parts : List (List Int × Int)) : Prop where
  good : ∀ g ∈ parts, GoodG m ns.length g.1 ∧ 1 ≤ g.2
  two : ∀ g ∈ parts, 2 ≤ g.2 → ∃ l, 0 ≤ l ∧ l < low ∧ g.1 = [l, 1] ∧ m ∣ evalP ns (-l) ∧ m ∣ evalP (dP ns) (-l)
  all : ∀ l, 0 ≤ l → l < low → m ∣ evalP ns (-l) → m ∣ evalP (dP ns) (-l) → ∃ k, 2 ≤ k ∧ ([l, 1], k) ∈ parts
theorem Lin.none {m low : Int} {ns : List Int} {parts : List (List Int × Int)} (h : Lin m ns low parts) (h2 : m ∣ evalP ns (-low) → m ∣ evalP (dP ns) (-low) → False) : Lin m ns (low + 1) parts where
  good := h.good
  two := fun g hg k2 => by
    obtain ⟨l, l0, l1, r⟩ := h.two g hg k2
    exact ⟨l, l0, by omega, r⟩
  all := fun l l0 l1 d1 d2 => by
    by_cases hl : l < low
    · exact h.all l l0 hl d1 d2
    · have e : l = low := by omega
      subst e
      exact (h2 d1 d2).elim
theorem Lin.snoc {m low k : Int} {ns : List Int} {parts : List (List Int × Int)} (hm : 2 ≤ m) (hn : 2 ≤ ns.length) (h0 : 0 ≤ low ∧ low < m) (h : Lin m ns low parts) (hk : 1 ≤ k) (h2 : m ∣ evalP ns (-low) → m ∣ evalP (dP ns) (-low) → 2 ≤ k) (h3 : 2 ≤ k → m ∣ evalP ns (-low) ∧ m ∣ evalP (dP ns) (-low)) :
    Lin m ns (low + 1) (parts ++ [([low, 1], k)]) where
  good := fun g hg => by
    rcases List.mem_append.mp hg with hg | hg
    · exact h.good g hg
    · rw [List.mem_singleton.mp hg]
      exact ⟨⟨MR.of (cs := [low]) (fun c hc => by rw [List.mem_singleton.mp hc]; exact h0) hm (by show 1 ≤ 4; decide), by show 2 ≤ 2; decide, hn⟩, hk⟩
  two := fun g hg k2 => by
    rcases List.mem_append.mp hg with hg | hg
    · obtain ⟨l, l0, l1, r⟩ := h.two g hg k2
      exact ⟨l, l0, by omega, r⟩
    · rw [List.mem_singleton.mp hg] at k2 ⊢
      exact ⟨low, h0.1, by omega, rfl, h3 k2⟩
  all := fun l l0 l1 d1 d2 => by
    by_cases hl : l < low
    · obtain ⟨k', k2, hk'⟩ := h.all l l0 hl d1 d2
      exact ⟨k', k2, List.mem_append_left _ hk'⟩
    · have e : l = low := by omega
      subst e
      exact ⟨k, h2 d1 d2, List.mem_append_right _ (List.mem_singleton.mpr rfl)⟩
theorem sq_root' {m l0 l1 l2 l3 a b x : Int} (hm : m ∈ primes) (F : FactM m l0 l1 l2 l3 a b a b) (h : m ∣ evalP [l0, l1, l2, l3, 1] x) : m ∣ x * x + a * x + b := by
  obtain ⟨x0, F0⟩ := F.f0
  obtain ⟨x1, F1⟩ := F.f1
  obtain ⟨x2, F2⟩ := F.f2
  obtain ⟨x3, F3⟩ := F.f3
  have e0 : l0 = b * b + m * x0 := by omega
  have e1 : l1 = a * b + a * b + m * x1 := by omega
  have e2 : l2 = b + b + a * a + m * x2 := by omega
  have e3 : l3 = a + a + m * x3 := by omega
  subst e0 e1 e2 e3
  have e := sq_root0 m a b x x0 x1 x2 x3
  have h' : m ∣ (x * x + a * x + b) * (x * x + a * x + b) + m * (x0 + x1 * x + x2 * (x * x) + x3 * (x * x * x)) := e ▸ h
  have h2 := Int.dvd_sub h' (Int.dvd_mul_right m (x0 + x1 * x + x2 * (x * x) + x3 * (x * x * x)))
  rw [Int.add_sub_cancel] at h2
  exact (primes_mul hm h2).elim id id
theorem FactM.red {m c0 c1 c2 c3 a b c d : Int} : FactM m (c0 % m) (c1 % m) (c2 % m) (c3 % m) a b c d ↔ FactM m c0 c1 c2 c3 a b c d := by
  have g : ∀ x y : Int, m ∣ x % m - y ↔ m ∣ x - y := fun x y => by
    have e := em x m
    constructor
    · intro h
      have := Int.dvd_add h (Int.dvd_mul_right m (x / m))
      rw [show x % m - y + m * (x / m) = x - y by omega] at this
      exact this
    · intro h
      have := Int.dvd_sub h (Int.dvd_mul_right m (x / m))
      rw [show x - y - m * (x / m) = x % m - y by omega] at this
      exact this
  exact ⟨fun h => ⟨(g _ _).mp h.f0, (g _ _).mp h.f1, (g _ _).mp h.f2, (g _ _).mp h.f3⟩, fun h => ⟨(g _ _).mpr h.f0, (g _ _).mpr h.f1, (g _ _).mpr h.f2, (g _ _).mpr h.f3⟩⟩
theorem redM5 {m c0 c1 c2 c3 : Int} (hm : 2 ≤ m) : redM m [c0, c1, c2, c3, 1] = [c0 % m, c1 % m, c2 % m, c3 % m, 1] := by
  show [c0 % m, c1 % m, c2 % m, c3 % m, 1 % m] = _
  rw [Int.emod_eq_of_lt (show (0 : Int) ≤ 1 by decide) (by omega)]
/-- what is left has no roots -/
theorem Wh.rootless {m : Int} {ns : List Int} {left : List Int} (hm : m ∈ primes) (h : Wh m ns m left 0) : ∀ x, ¬ m ∣ evalP left x := by
  intro x hx
  have hb := primes_bd hm
  have d := md_bd (x := -x) hb.1
  refine h.nor ((-x) % m) d.1 d.2 ?_
  have e := em (-x) m
  refine dvd_of_sub (evalP_sub m ⟨-x / m, ?_⟩ left) hx
  omega
theorem split_nil {m : Int} {ns : List Int} {left : List Int} {parts : List (List Int × Int)} (hm : m ∈ primes) (hl : Lin m ns m parts) (h : Wh m ns m left 0) (h1 : left.length ≤ 1) (h3 : 3 ≤ ns.length) : SplitOk m ns parts where
  good := hl.good
  two := fun g hg k2 => by
    obtain ⟨l, l0, l1, e, r⟩ := hl.two g hg k2
    exact .inl ⟨l, l0, l1, e, r⟩
  all := fun g hg => by
    rcases hg with ⟨l, l0, l1, rfl, d1, d2⟩ | ⟨c0, c1, c2, c3, a, b, rfl, rfl, ha, hb, F, hq⟩
    · exact hl.all l l0 l1 d1 d2
    · exfalso
      rcases h.or with e | ⟨_, x, hx⟩
      · rw [e] at h1
        have : (redM m [c0, c1, c2, c3, 1]).length = 5 := by unfold redM; rw [List.length_map]; rfl
        omega
      · exact hq x (sq_root' hm F hx)
theorem split_more {m : Int} {ns : List Int} {left : List Int} {parts more : List (List Int × Int)} (hm : m ∈ primes) (hp : IsPoly ns) (hl : Lin m ns m parts) (h : Wh m ns m left 0) (hr : RLess m left more) : SplitOk m ns (parts ++ more) where
  good := fun g hg => by
    rcases List.mem_append.mp hg with hg | hg
    · exact hl.good g hg
    · obtain ⟨q1, q2⟩ := hr.good g hg
      exact ⟨⟨q1.mr, q1.lo, Nat.le_trans q1.hi h.le⟩, q2⟩
  two := fun g hg k2 => by
    rcases List.mem_append.mp hg with hg | hg
    · obtain ⟨l, l0, l1, e, r⟩ := hl.two g hg k2
      exact .inl ⟨l, l0, l1, e, r⟩
    · obtain ⟨l0, l1, l2, l3, a, b, e, rfl, ha, hb, F⟩ := hr.two g hg k2
      have hb2 := primes_bd hm
      rcases h.or with e2 | ⟨e2, x, hx⟩
      · have hn : ns.length = 5 := by
          have : left.length = ns.length := by rw [e2]; unfold redM; rw [List.length_map]
          rw [← this, e]
          rfl
        obtain ⟨c0, c1, c2, c3, rfl⟩ := hp.five hn
        have e3 := e.symm.trans (e2.trans (redM5 hb2.1))
        obtain ⟨rfl, rfl, rfl, rfl⟩ : l0 = c0 % m ∧ l1 = c1 % m ∧ l2 = c2 % m ∧ l3 = c3 % m := by simpa using e3
        refine .inr ⟨c0, c1, c2, c3, a, b, rfl, rfl, ha, hb, FactM.red.mp F, fun x hx => ?_⟩
        refine h.rootless hm x ?_
        rw [e]
        exact sq_root F hx
      · have : left.length = 5 := by rw [e]; rfl
        have := hp.len
        omega
  all := fun g hg => by
    rcases hg with ⟨l, l0, l1, rfl, d1, d2⟩ | ⟨c0, c1, c2, c3, a, b, rfl, rfl, ha, hb, F, hq⟩
    · obtain ⟨k, k2, hk⟩ := hl.all l l0 l1 d1 d2
      exact ⟨k, k2, List.mem_append_left _ hk⟩
    · have hb2 := primes_bd hm
      rcases h.or with e | ⟨_, x, hx⟩
      · rw [redM5 hb2.1] at e
        exact ⟨2, by decide, List.mem_append_right _ (hr.all _ _ _ _ a b e ha hb (FactM.red.mpr F))⟩
      · exact absurd (sq_root' hm F hx) (hq x)
section
local macro_rules | `(tactic| walk_at "rs") => `(tactic| first
  | with_reducible refine w_seq ?_
  | with_reducible refine w_asg ?_
  | ((with_reducible refine' w_var ?h ?_); (case h => exact rfl))
  | with_reducible refine w_c ?_
  | with_reducible refine w_op ?_
  | with_reducible refine w_I0 ?_
  | with_reducible refine w_cb ?_
  | with_reducible refine w_cons ?_
  | with_reducible refine w_nil ?_
  | with_reducible refine w_ret ?_
  | with_reducible refine w_call ?_
  | with_reducible refine w_if ?_
  | with_reducible refine w_test ?_
  | with_reducible refine w_exbl ?_
  | with_reducible refine w_eqI ?_
  | with_reducible refine w_neI ?_
  | with_reducible refine w_next ?_
  | with_reducible refine w_un ?_
  | with_reducible refine w_U ?_
  | with_reducible refine w_B ?_
  | with_reducible refine w_and ?_
  | with_reducible refine w_or ?_
  | with_reducible refine w_not ?_
  | with_reducible refine w_andV ?_
  | with_reducible refine w_notV ?_
  | with_reducible refine w_tup ?_
  | with_reducible refine w_lst ?_
  | with_reducible refine w_for ?_
  | with_reducible refine w_rng1 ?_
  | with_reducible refine w_rng2 ?_
  | with_reducible refine w_rng3 ?_
  | with_reducible refine w_iList ?_
  | with_reducible refine w_iTup ?_
  | with_reducible refine w_iRevA ?_
  | with_reducible refine w_lc ?_
  | with_reducible refine w_drop ?_
  | with_reducible refine w_par ?_
  | ((with_reducible refine' w_aug ?h ?_); (case h => exact rfl))
  | with_reducible refine w_sl ?_
  | with_reducible refine w_noPart ?_
  | with_reducible refine w_part ?_
  | with_reducible refine w_exint ?_
  | with_reducible refine w_revL ?_
  | with_reducible refine w_bm ?_
  | with_reducible refine w_augS ?_
  | with_reducible refine w_ip ?_
  | with_reducible refine w_gSub ?_
  | with_reducible refine w_gName ?_
  | with_reducible refine w_gCons ?_
  | with_reducible refine w_gNil ?_
  | with_reducible refine w_chain ?_
  | with_reducible refine w_asgG ?_)
local macro_rules | `(tactic| walk_at "rr") => `(tactic| repeat walk_at "rs")
local macro_rules | `(tactic| walk_at "rn1") => `(tactic| first
  | with_reducible refine w_seq ?_
  | with_reducible refine w_asg ?_
  | ((with_reducible refine' w_var ?h ?_); (case h => exact rfl))
  | with_reducible refine w_c ?_
  | with_reducible refine w_op ?_
  | with_reducible refine w_I0 ?_
  | with_reducible refine w_cb ?_
  | with_reducible refine w_cons ?_
  | with_reducible refine w_nil ?_
  | with_reducible refine w_ret ?_
  | with_reducible refine w_call ?_
  | with_reducible refine w_if ?_
  | with_reducible refine w_test ?_
  | with_reducible refine w_exbl ?_
  | with_reducible refine w_eqI ?_
  | with_reducible refine w_neI ?_
  | with_reducible refine w_next ?_
  | with_reducible refine w_un ?_
  | with_reducible refine w_U ?_
  | with_reducible refine w_B ?_
  | with_reducible refine w_and ?_
  | with_reducible refine w_or ?_
  | with_reducible refine w_not ?_
  | with_reducible refine w_andV ?_
  | with_reducible refine w_notV ?_
  | with_reducible refine w_lst ?_
  | with_reducible refine w_for ?_
  | with_reducible refine w_rng1 ?_
  | with_reducible refine w_rng2 ?_
  | with_reducible refine w_rng3 ?_
  | with_reducible refine w_iList ?_
  | with_reducible refine w_iTup ?_
  | with_reducible refine w_iRevA ?_
  | with_reducible refine w_lc ?_
  | with_reducible refine w_drop ?_
  | with_reducible refine w_par ?_
  | ((with_reducible refine' w_aug ?h ?_); (case h => exact rfl))
  | with_reducible refine w_sl ?_
  | with_reducible refine w_noPart ?_
  | with_reducible refine w_part ?_
  | with_reducible refine w_exint ?_
  | with_reducible refine w_revL ?_
  | with_reducible refine w_bm ?_
  | with_reducible refine w_augS ?_
  | with_reducible refine w_ip ?_
  | with_reducible refine w_gSub ?_
  | with_reducible refine w_gName ?_
  | with_reducible refine w_gCons ?_
  | with_reducible refine w_gNil ?_
  | with_reducible refine w_chain ?_
  | with_reducible refine w_asgG ?_)
local macro_rules | `(tactic| walk_at "rn") => `(tactic| repeat walk_at "rn1")

variable {P : Program} {w : World} {K : PySem.W.Frag} {mg : Str → Option Value} {base : Heap}
theorem inV_primes {m : Int} (h : m ∈ primes) : inV (.int m) (primes.map V.int) = true := by
  unfold inV
  rw [List.any_eq_true]
  exact ⟨.int m, List.mem_map.mpr ⟨m, h, rfl⟩, by simp [eqV]⟩
theorem flat_primes : (primes.map V.int).all flatV = true := by
  rw [List.all_eq_true]
  intro x hx
  obtain ⟨z, _, rfl⟩ := List.mem_map.mp hx
  rfl
def sp_split_by (K : PySem.W.Frag) : Sp := fun vs H Q _ => ∃ (p : Addr) (ns : List Int) (m : Int), vs = [.ref p, .int m] ∧ SqT K H p (ns.map V.int) ∧ m ∈ primes ∧ IsPoly ns ∧
  Ret H Q fun H' v => ∃ q rs parts, v = .ref q ∧ H' q = some (.lst rs) ∧ AllR (IsPart K H') rs parts ∧ parts.length ≤ 1000 ∧ SplitOk m ns parts ∧ H q = none
/-- parts stay when another list is written -/
theorem IsPart.mut {H : Hp} {v : V} {g : List Int × Int} {D : Addr} {o : HO} (r : IsPart K H v g) (hD : ∃ l, H D = some (.lst l)) : IsPart K (upd H D o) v g := by
  obtain ⟨pa, xa, ya, rfl, sa, ra, rb⟩ := r
  obtain ⟨l, hl⟩ := hD
  refine ⟨pa, xa, ya, rfl, ?_, ra.mut ⟨l, hl⟩, rb⟩
  rcases sa with (sa | ⟨ob, sa⟩) | sa
  · exact .inl (.inl (by rw [upd_ne (ne_of sa hl (by intro z; cases z))]; exact sa))
  · exact .inl (.inr ⟨ob, by rw [upd_ne (ne_of sa hl (by intro z; cases z))]; exact sa⟩)
  · exact .inr sa
theorem ok_split_by (T : Txt K mg) (G_mod_poly : FnOk P w K mg base CX0 2 T.mod_poly.f T.mod_poly.fd ["row", "p"] (sp_mod_poly K)) (G_mod_at : FnOk P w K mg base CX0 1 T.mod_at.f T.mod_at.fd ["f", "x", "p"] (sp_mod_at K))
    (G_mod_parted : FnOk P w K mg base CX0 3 T.mod_parted.f T.mod_parted.fd ["a", "b", "p"] (sp_mod_parted K)) (G_rootless : FnOk P w K mg base CX0 3 T.rootless.f T.rootless.fd ["left", "p"] (sp_rootless K)) :
    FnOk P w K mg base CX0 4 T.split_by.f T.split_by.fd ["poly", "p"] (sp_split_by K) := by
  refine T.split_by.F.ok sc_split_by (fun vs H Q E h => ?_) (fun cdv A outer s H vs Q E hr h => ?_)
  · obtain ⟨p, ns, m, rfl, _⟩ := h
    rfl
  · obtain ⟨p, ns, m, rfl, hx, hm, hp, k⟩ := h
    have hb := primes_bd hm
    have hl := hp.len
    obtain ⟨hM0, hc0⟩ := red_mr hb.1 hp
    refine ⟨_, (pss_cons (ps_if (pt_cmpR op_notIn_seq (pv 1) (pe_glob (v := .ref T.a_PRIMES) rfl T.g_PRIMES rfl) (by rfl))
        (pss_one ps_never)
        pss_nil)
      (pss_cons (ps_set (i := 2) sc_split_by.nd rfl (.inl rfl) (pe_call G_mod_poly (hr.mono (by omega)) (by rfl) T.mod_poly.g T.mod_poly.F.kp T.mod_poly.b .nil pass0 (pa_cons (pv 0) (pa_cons (pv 1) pa_nil))))
      (pss_cons (ps_set (i := 3) sc_split_by.nd rfl (.inl rfl) (pe_lst pa_nil))
      (pss_cons (ps_for PassesOwn.never rfl (pi_range1 (by rfl) T.n_range (pa_cons (pv 1) pa_nil)) (pg_name (i := 4) sc_split_by.nd rfl (.inl rfl))
        (pss_cons (ps_set (i := 5) sc_split_by.nd rfl (.inl rfl) pe_int)
          (pss_cons (ps_while PassesOwn.never (PW.pt (pw_and (pt_cmpR op_gt (pe_callB call_len_seq (by rfl) T.n_len (by decide +kernel) (pa_cons (pv 2) pa_nil)) pe_int (nomark _)) (pw_and1 (pt_cmpR op_eq (pe_call G_mod_at (hr.mono (by omega)) (by rfl) T.mod_at.g T.mod_at.F.kp T.mod_at.b .nil pass0 (pa_cons (pv 2) (pa_cons (pe_un un_neg (pv 4)) (pa_cons (pv 1) pa_nil)))) pe_int (nomark _)))))
            (pss_cons (ps_set (i := 2) sc_split_by.nd rfl (.inl rfl) (pe_ix (r := rIxT K) ix_tup (pe_call G_mod_parted (hr.mono (by omega)) (by rfl) T.mod_parted.g T.mod_parted.F.kp T.mod_parted.b .nil pass0 (pa_cons (pv 2) (pa_cons (pe_tup (pa_cons (pv 4) (pa_cons pe_int pa_nil))) (pa_cons (pv 1) pa_nil)))) pe_int (fun _ _ => rfl)))
              (pss_one (ps_aug (i := 5) sc_split_by.nd rfl (.inl rfl) pe_int ip_add))))
          (pss_one (ps_if (pt_cmpR op_gt (pv 5) pe_int (nomark _))
            (pss_one (ps_expr (pe_bm PySem.F.plainAttrs_list PySem.F.slot_list_append PySem.F.type_list_append mt_append (pv 3) (pa_cons (pe_tup (pa_cons (pe_tup (pa_cons (pv 4) (pa_cons pe_int pa_nil))) (pa_cons (pv 5) pa_nil))) pa_nil))))
            pss_nil)))))
      (pss_cons (ps_if (pt_cmpR op_gt (pe_callB call_len_seq (by rfl) T.n_len (by decide +kernel) (pa_cons (pv 2) pa_nil)) pe_int (nomark _))
        (pss_one (ps_set (i := 3) sc_split_by.nd rfl (.inl rfl) (pe_op op_cat (pv 3) (pe_call G_rootless (hr.mono (by omega)) (by rfl) T.rootless.g T.rootless.F.kp T.rootless.b .nil pass0 (pa_cons (pv 2) (pa_cons (pv 1) pa_nil))))))
        pss_nil)
      (pss_one (ps_ret (pv 3)))))))), ?_⟩
    rw [show L2.start N_split_by [V.ref p, .int m] = [some (.ref p), some (.int m), none, none, none, none] from rfl]
    try dsimp only [cxOf]
    walk_at "rr"
    refine ⟨T.a_PRIMES, _, rfl, .inr (T.t_PRIMES H), rfl, flat_primes, ?_⟩
    rw [inV_primes hm]
    walk_at "rr"
    refine iteF ?_
    walk_at "rr"
    refine ⟨p, ns, m, rfl, hx, by omega, by omega, fun v H1 e1 r1 => ?_⟩
    rw [show ns.map (· % m) = redM m ns from rfl, hc0] at r1
    obtain ⟨p1, rfl, h1⟩ := r1
    walk_at "rr"
    refine ⟨Nat.zero_le _, fun L hL => ?_⟩
    have hL0 : H L = none := fresh_back e1 hL
    have e2 : Ex H1 (upd H1 L (.lst [])) := Ex.new hL
    have h2 : (upd H1 L (.lst [])) L = some (.lst []) := upd_same
    generalize upd H1 L (.lst []) = H2 at e2 h2
    walk_at "rr"
    refine f_r1 (by omega) (by omega) (fun i σ' H' => ∃ pl left rs parts y4 y5, σ' = [some (.ref p), some (.int m), some (.ref pl), some (.ref L), y4, y5] ∧ Ex H H' ∧ SqT K H' pl (left.map V.int) ∧ H' L = some (.lst rs) ∧ AllR (IsPart K H') rs parts ∧ parts.length ≤ i ∧ Lin m ns i parts ∧ Wh m ns i left 0)
      ⟨p1, redM m ns, [], [], none, none, rfl, e1.trans e2, ex_t e2 h1, h2, AllR.nil, Nat.le_refl _, ⟨(fun g hg => by cases hg), (fun g hg => by cases hg), (fun l l0 l1 => by omega)⟩, ⟨hM0, ⟨_, _, red_rel, fun l l0 l1 z => by have := Int.le_of_dvd (by decide) z; omega, fun _ _ z => by have := Int.le_of_dvd (by decide) z; omega, fun z => by omega, fun z => by omega, fun z => by omega⟩, fun l l0 l1 => by omega, .inl rfl, by unfold redM; rw [List.length_map]; exact Nat.le_refl _⟩⟩
      (fun i σ' H' hi hq => ?_) (fun σ' H' hq => ?_)
    · obtain ⟨pl, left, rs, parts, y4, y5, rfl, e, hpl, hL', ha, hpi, hlin, hw⟩ := hq
      have hi0 : 0 ≤ (i : Int) := by omega
      walk_at "rr"
      refine w_while (fun n σ' H' => ∃ pl left k, σ' = [some (.ref p), some (.int m), some (.ref pl), some (.ref L), some (.int (i : Int)), some (.int ((k : Nat) : Int))] ∧ Ex H H' ∧ SqT K H' pl (left.map V.int) ∧ H' L = some (.lst rs) ∧ AllR (IsPart K H') rs parts ∧ Wh m ns i left k ∧ n = left.length)
        left.length ⟨pl, left, 0, rfl, e, hpl, hL', ha, hw, rfl⟩ ?_
      rintro n σ' H' ⟨pl, left, kk, rfl, e, hpl, hL', ha, hw, rfl⟩
      have hll := hw.mr.len
      -- behind the while
      have fin : ¬ m ∣ evalP left (-(i : Int)) → ∀ H', Ex H H' → SqT K H' pl (left.map V.int) → H' L = some (.lst rs) → AllR (IsPart K H') rs parts →
          tIfS (tTest (tOp (rI0 fun i j => V.bl (decide (j < i))) (tVar 5) (tC (V.int 0)))) (tDrop (tBM K "list" rAppend (tVar 3) (tCons (tTup (tCons (tTup (tCons (tVar 4) (tCons (tC (V.int 1)) tNil))) (tCons (tVar 5) tNil))) tNil))) tNext
            ⟨fun σ' H' => ∃ pl left rs parts y4 y5, σ' = [some (.ref p), some (.int m), some (.ref pl), some (.ref L), y4, y5] ∧ Ex H H' ∧ SqT K H' pl (left.map V.int) ∧ H' L = some (.lst rs) ∧ AllR (IsPart K H') rs parts ∧ parts.length ≤ i + 1 ∧ Lin m ns ((i + 1 : Nat) : Int) parts ∧ Wh m ns ((i + 1 : Nat) : Int) left 0, Q, fun _ _ => False, fun _ _ => False⟩
            [some (.ref p), some (.int m), some (.ref pl), some (.ref L), some (.int (i : Int)), some (.int ((kk : Nat) : Int))] H' := by
        intro hno H' e hpl hL' ha
        obtain ⟨s1, s2, s3⟩ := hw.stop hm hi hno
        have hrl : rs.length = parts.length := ha.1
        walk_at "rr"
        refine w_ite (fun hk => ?_) (fun hk => ?_)
        · walk_at "rr"
          refine w_tyL hL' ?_
          walk_at "rr"
          refine ⟨by show 2 ≤ sizeLine; decide, fun q1 n1 => ?_⟩
          walk_at "rr"
          refine ⟨by show 2 ≤ sizeLine; decide, fun q2 n2 => ?_⟩
          have e12 := (Ex.new (o := .tup [.int (i : Int), .int 1]) n1).trans (Ex.new (o := .tup [.ref q1, .int ((kk : Nat) : Int)]) n2)
          have hq2 : (upd (upd H' q1 (.tup [.int (i : Int), .int 1])) q2 (.tup [.ref q1, .int ((kk : Nat) : Int)])) q2 = some (.tup [.ref q1, .int ((kk : Nat) : Int)]) := upd_same
          have hq1 : (upd (upd H' q1 (.tup [.int (i : Int), .int 1])) q2 (.tup [.ref q1, .int ((kk : Nat) : Int)])) q1 = some (.tup [.int (i : Int), .int 1]) := (Ex.new n2) _ _ upd_same
          generalize upd (upd H' q1 (.tup [.int (i : Int), .int 1])) q2 (.tup [.ref q1, .int ((kk : Nat) : Int)]) = H3 at e12 hq1 hq2
          walk_at "rr"
          refine w_append (e12 _ _ hL') (by omega) ?_
          have hpl3 := (IsT.mut (v := .ref pl) ⟨pl, rfl, ex_t e12 hpl⟩ ⟨_, e12 _ _ hL'⟩ (o := .lst (rs ++ [.ref q2])))
          obtain ⟨_, e9, h9⟩ := hpl3
          cases e9
          refine ⟨pl, left, _, parts ++ [([(i : Int), 1], (kk : Int))], _, _, rfl, Ex.mut (e.trans e12) hL0, h9, upd_same, ?_, by rw [List.length_append, List.length_singleton]; omega, ?_, ?_⟩
          · refine (ha.mono fun x z r => (r.ex e12).mut ⟨_, e12 _ _ hL'⟩).snoc ?_
            exact IsPart.mut ⟨q2, _, _, rfl, .inl (.inl hq2), ⟨q1, rfl, .inl (.inl hq1)⟩, rfl⟩ ⟨_, e12 _ _ hL'⟩
          · rw [Int.natCast_add]
            exact hlin.snoc hb.1 (by omega) ⟨hi0, hi⟩ (by omega) (fun d1 d2 => by have := s1 d1 d2; omega) (fun k2 => s2 (by omega))
          · rw [Int.natCast_add]
            exact s3
        · walk_at "rr"
          refine ⟨pl, left, rs, parts, _, _, rfl, e, hpl, hL', ha, by omega, ?_, ?_⟩
          · rw [Int.natCast_add]
            exact hlin.none fun d1 d2 => by have := s1 d1 d2; omega
          · rw [Int.natCast_add]
            exact s3
      walk_at "rr"
      refine ⟨pl, _, rfl, .inr hpl, ?_⟩
      rw [List.length_map]
      walk_at "rr"
      refine w_ite (fun hlen => ?_) (fun hlen => ?_)
      · walk_at "rr"
        refine ⟨pl, left, -(i : Int), m, rfl, hpl, ⟨by omega, by omega⟩, by omega, fun v H3 e3 r3 => ?_⟩
        subst r3
        walk_at "rr"
        rw [evalM_eq]
        refine w_ite (fun hz => ?_) (fun hz => ?_)
        · refine w_body ?_
          have hdv := Int.dvd_of_emod_eq_zero hz
          walk_at "rr"
          refine ⟨by show 2 ≤ sizeLine; decide, fun q1 n1 => ?_⟩
          walk_at "rr"
          have e4 := e3.trans (Ex.new (o := .tup [.int (i : Int), .int 1]) n1)
          refine ⟨pl, q1, left, (i : Int), m, rfl, ex_t e4 hpl, .inl (.inl upd_same), hm, hi0, hi, hw.mr, by omega, fun v H5 e5 r5 => ?_⟩
          obtain ⟨q5, x, y, rfl, s5, ⟨px, rfl, hpx⟩, _⟩ := r5
          walk_at "rr"
          refine w_ixT s5 (atI_nat (j := 0) rfl) ?_
          walk_at "rr"
          have hmore := hw.more hm ⟨hi0, hi⟩ (by omega) hdv
          obtain ⟨_, q2, _⟩ := sdiv_ok hb.1 hw.mr (by omega) hdv
          refine ⟨(sdiv left (i : Int) m).length, by omega, px, sdiv left (i : Int) m, kk + 1, rfl, e.trans (e4.trans e5), hpx, (e4.trans e5) _ _ hL', ha.mono fun x z r => r.ex (e4.trans e5), hmore, rfl⟩
        · exact fin (fun z => hz (Int.emod_eq_zero_of_dvd z)) H3 (e.trans e3) (ex_t e3 hpl) (e3 _ _ hL') (ha.mono fun x z r => r.ex e3)
      · refine iteF ?_
        refine fin ?_ H' e hpl hL' ha
        rcases hw.mr.shape with rfl | ⟨c0, rfl⟩ | ⟨c0, c1, rfl⟩ | ⟨c0, c1, c2, rfl⟩ | ⟨c0, c1, c2, c3, rfl⟩
        · intro z
          have e1 : evalP [1] (-(i : Int)) = 1 := by show 0 * -(i : Int) + 1 = 1; omega
          rw [e1] at z
          have := Int.le_of_dvd (by decide) z
          omega
        · exact absurd (show (1 : Int) < ((2 : Nat) : Int) by decide) hlen
        · exact absurd (show (1 : Int) < ((3 : Nat) : Int) by decide) hlen
        · exact absurd (show (1 : Int) < ((4 : Nat) : Int) by decide) hlen
        · exact absurd (show (1 : Int) < ((5 : Nat) : Int) by decide) hlen
    · obtain ⟨pl, left, rs, parts, y4, y5, rfl, e, hpl, hL', ha, hpi, hlin, hw⟩ := hq
      rw [Int.toNat_of_nonneg (show (0 : Int) ≤ m by omega)] at hlin hw
      have hll := hw.mr.len
      walk_at "rr"
      refine ⟨pl, _, rfl, .inr hpl, ?_⟩
      rw [List.length_map]
      walk_at "rr"
      refine w_ite (fun hlen => ?_) (fun hlen => ?_)
      · walk_at "rr"
        refine ⟨pl, left, m, rfl, hpl, hm, hw.mr, by omega, hw.rootless hm, fun v H3 e3 r3 => ?_⟩
        obtain ⟨q3, rs3, more, rfl, h3, ha3, l3, hr3⟩ := r3
        have lrs : rs.length = parts.length := ha.1
        have lrs3 : rs3.length = more.length := ha3.1
        refine ⟨L, q3, rs, rs3, rfl, rfl, e3 _ _ hL', h3, Nat.le_of_lt (small1000 (by omega)), fun q4 n4 => ?_⟩
        walk_at "rr"
        refine k _ _ (e.trans (e3.trans (Ex.new n4))) ⟨q4, _, parts ++ more, rfl, upd_same, ?_, by rw [List.length_append]; omega, split_more hm hp hlin hw hr3, fresh_back (e.trans e3) n4⟩
        exact (ha.mono fun x z r => r.ex (e3.trans (Ex.new n4))).append (ha3.mono fun x z r => r.ex (Ex.new n4))
      · walk_at "rr"
        exact k _ _ e ⟨L, rs, parts, rfl, hL', ha, by omega, split_nil hm hlin hw (by omega) (by omega), hL0⟩
end
end RH

set_option Elab.async false
set_option linter.all false
set_option maxRecDepth 100000
set_option maxHeartbeats 4000000
namespace RH
open PySem PySem.Spec PyProof.Rows L2 Evl
section
local macro_rules | `(tactic| walk_at "rs") => `(tactic| first
  | with_reducible refine w_seq ?_
  | with_reducible refine w_asg ?_
  | ((with_reducible refine' w_var ?h ?_); (case h => exact rfl))
  | with_reducible refine w_c ?_
  | with_reducible refine w_op ?_
  | with_reducible refine w_I0 ?_
  | with_reducible refine w_cb ?_
  | with_reducible refine w_cons ?_
  | with_reducible refine w_nil ?_
  | with_reducible refine w_ret ?_
  | with_reducible refine w_call ?_
  | with_reducible refine w_if ?_
  | with_reducible refine w_test ?_
  | with_reducible refine w_exbl ?_
  | with_reducible refine w_eqI ?_
  | with_reducible refine w_neI ?_
  | with_reducible refine w_next ?_
  | with_reducible refine w_un ?_
  | with_reducible refine w_U ?_
  | with_reducible refine w_B ?_
  | with_reducible refine w_and ?_
  | with_reducible refine w_or ?_
  | with_reducible refine w_not ?_
  | with_reducible refine w_andV ?_
  | with_reducible refine w_notV ?_
  | with_reducible refine w_tup ?_
  | with_reducible refine w_lst ?_
  | with_reducible refine w_for ?_
  | with_reducible refine w_rng1 ?_
  | with_reducible refine w_rng2 ?_
  | with_reducible refine w_rng3 ?_
  | with_reducible refine w_iList ?_
  | with_reducible refine w_iTup ?_
  | with_reducible refine w_iRevA ?_
  | with_reducible refine w_lc ?_
  | with_reducible refine w_drop ?_
  | with_reducible refine w_par ?_
  | ((with_reducible refine' w_aug ?h ?_); (case h => exact rfl))
  | with_reducible refine w_sl ?_
  | with_reducible refine w_noPart ?_
  | with_reducible refine w_part ?_
  | with_reducible refine w_exint ?_
  | with_reducible refine w_revL ?_
  | with_reducible refine w_bm ?_
  | with_reducible refine w_augS ?_
  | with_reducible refine w_ip ?_
  | with_reducible refine w_gSub ?_
  | with_reducible refine w_gName ?_
  | with_reducible refine w_gCons ?_
  | with_reducible refine w_gNil ?_
  | with_reducible refine w_chain ?_
  | with_reducible refine w_asgG ?_)
local macro_rules | `(tactic| walk_at "rr") => `(tactic| repeat walk_at "rs")
local macro_rules | `(tactic| walk_at "rn1") => `(tactic| first
  | with_reducible refine w_seq ?_
  | with_reducible refine w_asg ?_
  | ((with_reducible refine' w_var ?h ?_); (case h => exact rfl))
  | with_reducible refine w_c ?_
  | with_reducible refine w_op ?_
  | with_reducible refine w_I0 ?_
  | with_reducible refine w_cb ?_
  | with_reducible refine w_cons ?_
  | with_reducible refine w_nil ?_
  | with_reducible refine w_ret ?_
  | with_reducible refine w_call ?_
  | with_reducible refine w_if ?_
  | with_reducible refine w_test ?_
  | with_reducible refine w_exbl ?_
  | with_reducible refine w_eqI ?_
  | with_reducible refine w_neI ?_
  | with_reducible refine w_next ?_
  | with_reducible refine w_un ?_
  | with_reducible refine w_U ?_
  | with_reducible refine w_B ?_
  | with_reducible refine w_and ?_
  | with_reducible refine w_or ?_
  | with_reducible refine w_not ?_
  | with_reducible refine w_andV ?_
  | with_reducible refine w_notV ?_
  | with_reducible refine w_lst ?_
  | with_reducible refine w_for ?_
  | with_reducible refine w_rng1 ?_
  | with_reducible refine w_rng2 ?_
  | with_reducible refine w_rng3 ?_
  | with_reducible refine w_iList ?_
  | with_reducible refine w_iTup ?_
  | with_reducible refine w_iRevA ?_
  | with_reducible refine w_lc ?_
  | with_reducible refine w_drop ?_
  | with_reducible refine w_par ?_
  | ((with_reducible refine' w_aug ?h ?_); (case h => exact rfl))
  | with_reducible refine w_sl ?_
  | with_reducible refine w_noPart ?_
  | with_reducible refine w_part ?_
  | with_reducible refine w_exint ?_
  | with_reducible refine w_revL ?_
  | with_reducible refine w_bm ?_
  | with_reducible refine w_augS ?_
  | with_reducible refine w_ip ?_
  | with_reducible refine w_gSub ?_
  | with_reducible refine w_gName ?_
  | with_reducible refine w_gCons ?_
  | with_reducible refine w_gNil ?_
  | with_reducible refine w_chain ?_
  | with_reducible refine w_asgG ?_)
local macro_rules | `(tactic| walk_at "rn") => `(tactic| repeat walk_at "rn1")

variable {P : Program} {w : World} {K : PySem.W.Frag} {mg : Str → Option Value} {base : Heap}
/-! ### parts_of -/
def IsTr (K : PySem.W.Frag) (ns : List Int) (H : Hp) (v : V) (g : List Int × Int) : Prop := ∃ p x y, v = .ref p ∧ SqT K H p [x, .int g.2, y] ∧ IsT K H x g.1 ∧ IsT K H y (divM ns g.1).2
theorem IsTr.ex {ns : List Int} {H H' : Hp} {v : V} {g : List Int × Int} (h : IsTr K ns H v g) (e : Ex H H') : IsTr K ns H' v g := let ⟨p, x, y, a, b, c, d⟩ := h; ⟨p, x, y, a, ex_t e b, c.ex e, d.ex e⟩
theorem sqT_mut {H : Hp} {p : Addr} {xs : List V} {D : Addr} {o : HO} (s : SqT K H p xs) (hD : ∃ l, H D = some (.lst l)) : SqT K (upd H D o) p xs := by
  obtain ⟨l, hl⟩ := hD
  rcases s with (s | ⟨ob, s⟩) | s
  · exact .inl (.inl (by rw [upd_ne (ne_of s hl (by intro z; cases z))]; exact s))
  · exact .inl (.inr ⟨ob, by rw [upd_ne (ne_of s hl (by intro z; cases z))]; exact s⟩)
  · exact .inr s
theorem IsTr.mut {ns : List Int} {H : Hp} {v : V} {g : List Int × Int} {D : Addr} {o : HO} (h : IsTr K ns H v g) (hD : ∃ l, H D = some (.lst l)) : IsTr K ns (upd H D o) v g := let ⟨p, x, y, a, b, c, d⟩ := h; ⟨p, x, y, a, sqT_mut b hD, c.mut hD, d.mut hD⟩
def sp_parts_of (K : PySem.W.Frag) : Sp := fun vs H Q _ => ∃ (p : Addr) (ns : List Int) (m : Int), vs = [.ref p, .int m] ∧ SqT K H p (ns.map V.int) ∧ m ∈ primes ∧ IsPoly ns ∧
  Ret H Q fun H' v => ∃ q rs parts, v = .ref q ∧ H' q = some (.lst rs) ∧ AllR (IsTr K ns H') rs parts ∧ SplitOk m ns parts
theorem ok_parts_of (T : Txt K mg) (G_split_by : FnOk P w K mg base CX0 4 T.split_by.f T.split_by.fd ["poly", "p"] (sp_split_by K)) (G_poly_parted : FnOk P w K mg base CX0 2 T.poly_parted.f T.poly_parted.fd ["f", "g"] (sp_poly_parted K)) :
    FnOk P w K mg base CX0 5 T.parts_of.f T.parts_of.fd ["poly", "p"] (sp_parts_of K) := by
  refine T.parts_of.F.ok sc_parts_of (fun vs H Q E h => ?_) (fun cdv A outer s H vs Q E hr h => ?_)
  · obtain ⟨p, ns, m, rfl, _⟩ := h
    rfl
  · obtain ⟨p, ns, m, rfl, hx, hm, hp, k⟩ := h
    have hb := primes_bd hm
    have hl := hp.len
    refine ⟨_, (pss_cons (ps_set (i := 2) sc_parts_of.nd rfl (.inl rfl) (pe_lst pa_nil))
      (pss_cons (ps_for PassesOwn.never rfl (pi_list (pe_call G_split_by (hr.mono (by omega)) (by rfl) T.split_by.g T.split_by.F.kp T.split_by.b .nil pass0 (pa_cons (pv 0) (pa_cons (pv 1) pa_nil)))) (pg_tup (by rfl) (pgs_cons (pg_name (i := 3) sc_parts_of.nd rfl (.inl rfl)) (pgs_cons (pg_name (i := 4) sc_parts_of.nd rfl (.inl rfl)) pgs_nil)))
        (pss_one (ps_expr (pe_bm PySem.F.plainAttrs_list PySem.F.slot_list_append PySem.F.type_list_append mt_append (pv 2) (pa_cons (pe_tup (pa_cons (pv 3) (pa_cons (pv 4) (pa_cons (pe_ix (r := rIxT K) ix_tup (pe_call G_poly_parted (hr.mono (by omega)) (by rfl) T.poly_parted.g T.poly_parted.F.kp T.poly_parted.b .nil pass0 (pa_cons (pv 0) (pa_cons (pv 3) pa_nil))) pe_int (fun _ _ => rfl)) pa_nil)))) pa_nil)))))
      (pss_one (ps_ret (pv 2))))), ?_⟩
    rw [show L2.start N_parts_of [V.ref p, .int m] = [some (.ref p), some (.int m), none, none, none] from rfl]
    try dsimp only [cxOf]
    walk_at "rr"
    refine ⟨Nat.zero_le _, fun L hL => ?_⟩
    have e1 : Ex H (upd H L (.lst [])) := Ex.new hL
    have h1 : (upd H L (.lst [])) L = some (.lst []) := upd_same
    generalize upd H L (.lst []) = H1 at e1 h1
    walk_at "rr"
    refine ⟨p, ns, m, rfl, ex_t e1 hx, hm, hp, fun v H2 e2 r2 => ?_⟩
    obtain ⟨q, rs, parts, rfl, hq, ha, hlen, hs, hqn⟩ := r2
    have nqL : q ≠ L := fun z => by rw [z, h1] at hqn; cases hqn
    refine f_list (.inl (.inl hq)) (fun i σ' H' => ∃ y3 y4 out, σ' = [some (.ref p), some (.int m), some (.ref L), y3, y4] ∧ Ex H H' ∧ H' q = some (.lst rs) ∧ AllR (IsPart K H') rs parts ∧ H' L = some (.lst out) ∧ AllR (IsTr K ns H') out (parts.take i))
      ⟨none, none, [], rfl, e1.trans e2, hq, ha, e2 _ _ h1, AllR.nil⟩ (fun i σ' H' hq => ?_) (fun i y σ' H' hy hq => ?_) (fun σ' H' hq => ?_)
    · obtain ⟨_, _, _, _, _, h, _⟩ := hq
      exact .inl (.inl h)
    · obtain ⟨y3, y4, out, rfl, e, hq, ha, hL', hao⟩ := hq
      obtain ⟨g, hg, rg⟩ := ha.getx hy
      obtain ⟨pg, x, y, rfl, sg, hxg, rfl⟩ := rg
      obtain ⟨px, rfl, hpx⟩ := hxg
      have hgood := hs.good g (List.mem_of_getElem? hg)
      have hol : out.length ≤ i := by
        rw [hao.1, List.length_take]
        omega
      have hi : i < parts.length := (List.getElem?_eq_some_iff.mp hg).1
      refine w_gTup sg rfl ?_
      walk_at "rr"
      refine w_tyL hL' ?_
      walk_at "rr"
      refine ⟨p, px, ns, g.1, rfl, ex_t e hx, hpx, by omega, hgood.1.hi, by have := hgood.1.lo; omega, fun c hc => by have := hgood.1.mr.red c hc; omega, fun v H3 e3 r3 => ?_⟩
      obtain ⟨q3, x3, z3, rfl, s3, _, hz3⟩ := r3
      walk_at "rr"
      refine w_ixT s3 (atI_nat (j := 1) rfl) ?_
      walk_at "rr"
      refine ⟨by show 3 ≤ sizeLine; decide, fun q4 n4 => ?_⟩
      walk_at "rr"
      have e34 := e3.trans (Ex.new (o := .tup [.ref px, .int g.2, z3]) n4)
      refine w_append (e34 _ _ hL') (by omega) ?_
      refine ⟨_, _, _, rfl, Ex.mut (e.trans e34) hL, ?_, ?_, upd_same, ?_⟩
      · rw [upd_ne nqL]
        exact e34 _ _ hq
      · exact ha.mono fun x z r => (r.ex e34).mut ⟨_, e34 _ _ hL'⟩
      · rw [take_snoc hg]
        refine (hao.mono fun x z r => (r.ex e34).mut ⟨_, e34 _ _ hL'⟩).snoc ?_
        exact IsTr.mut ⟨q4, _, _, rfl, .inl (.inl upd_same), ⟨px, rfl, ex_t e34 hpx⟩, hz3.ex (Ex.new n4)⟩ ⟨_, e34 _ _ hL'⟩
    · obtain ⟨y3, y4, out, rfl, e, hq, ha', hL', hao⟩ := hq
      rw [ha.1, List.take_length] at hao
      walk_at "rr"
      exact k _ _ e ⟨L, out, parts, rfl, hL', hao, hs⟩
/-! ### outside -/
def Lk (m : Int) (ns g : List Int) : Prop := Dbl m ns g ∧ ∀ c ∈ (divM ns g).2, m * m ∣ c
def Lacks (ns : List Int) (n : Int) : Prop := ∃ m ∈ primes, m * m ∣ n ∧ ∃ g, Lk m ns g
/-- the number that is told -/
def xM (m : Int) (ns g : List Int) : List Int := (divM ns g).1.map (· % m) ++ List.replicate (ns.length - 1 - (divM ns g).1.length) 0
theorem cutM_len (ns : List Int) : (cutM ns).length ≤ ns.length := by
  unfold cutM
  rw [List.length_take]
  exact Nat.min_le_right _ _
theorem divM_len1 {f g : List Int} : (divM f g).1.length ≤ f.length + 1 - g.length := by
  unfold divM
  refine Nat.le_trans (cutM_len _) ?_
  rw [List.length_reverse, divRun_len2]
  exact Nat.le_refl _
theorem divM_len2 {f g : List Int} : (divM f g).2.length ≤ g.length - 1 := by
  unfold divM
  refine Nat.le_trans (cutM_len _) ?_
  rw [List.length_take]
  exact Nat.min_le_left _ _
def sp_outside (K : PySem.W.Frag) : Sp := fun vs H Q _ => ∃ (p : Addr) (ns : List Int) (n : Int), vs = [.ref p, .int n] ∧ SqT K H p (ns.map V.int) ∧ IsPoly ns ∧
  Ret H Q fun H' v => (v = .non ∧ ¬ Lacks ns n) ∨ ∃ m g, m ∈ primes ∧ m * m ∣ n ∧ Lk m ns g ∧ IsPr K H' v (fun x => x = .int m) (fun y => IsT K H' y (xM m ns g))
theorem ok_outside (T : Txt K mg) (G_square_primes : FnOk P w K mg base CX0 2 T.square_primes.f T.square_primes.fd ["size"] (sp_square_primes K)) (G_parts_of : FnOk P w K mg base CX0 5 T.parts_of.f T.parts_of.fd ["poly", "p"] (sp_parts_of K))
    (G_divides_all : FnOk P w K mg base CX0 1 T.divides_all.f T.divides_all.fd ["m", "row"] (sp_divides_all K)) (G_poly_parted : FnOk P w K mg base CX0 2 T.poly_parted.f T.poly_parted.fd ["f", "g"] (sp_poly_parted K)) :
    FnOk P w K mg base CX0 6 T.outside.f T.outside.fd ["poly", "size"] (sp_outside K) := by
  refine T.outside.F.ok sc_outside (fun vs H Q E h => ?_) (fun cdv A outer s H vs Q E hr h => ?_)
  · obtain ⟨p, ns, n, rfl, _⟩ := h
    rfl
  · obtain ⟨p, ns, n, rfl, hx, hp, k⟩ := h
    have hl := hp.len
    refine ⟨_, (pss_cons (ps_for PassesOwn.never rfl (pi_list (pe_call G_square_primes (hr.mono (by omega)) (by rfl) T.square_primes.g T.square_primes.F.kp T.square_primes.b .nil pass0 (pa_cons (pv 1) pa_nil))) (pg_name (i := 2) sc_outside.nd rfl (.inr rfl))
        (pss_one (ps_for PassesOwn.never rfl (pi_list (pe_call G_parts_of (hr.mono (by omega)) (by rfl) T.parts_of.g T.parts_of.F.kp T.parts_of.b .nil pass0 (pa_cons (pv 0) (pa_cons (pv 2) pa_nil)))) (pg_tup (by rfl) (pgs_cons (pg_name (i := 3) sc_outside.nd rfl (.inl rfl)) (pgs_cons (pg_name (i := 4) sc_outside.nd rfl (.inl rfl)) (pgs_cons (pg_name (i := 5) sc_outside.nd rfl (.inl rfl)) pgs_nil))))
            (pss_one (ps_if (PW.pt (pw_and (pt_cmpR op_ge (pv 4) pe_int (nomark _)) (pw_and1 (pt_val (pe_call G_divides_all (hr.mono (by omega)) (by rfl) T.divides_all.g T.divides_all.F.kp T.divides_all.b .nil pass0 (pa_cons (pe_op op_mul (pv 2) (pv 2)) (pa_cons (pv 5) pa_nil)))))))
                (pss_cons (ps_setLc (i := 6) (own := [("place", 7)]) (g := gName 7) (by rfl) sc_outside.nd rfl rfl (sw_true rfl rfl rfl (by decide +kernel)) (pi_tup (pe_ix (r := rIxT K) ix_tup (pe_call G_poly_parted (hr.mono (by omega)) (by rfl) T.poly_parted.g T.poly_parted.F.kp T.poly_parted.b .nil pass0 (pa_cons (pv 0) (pa_cons (pv 3) pa_nil))) pe_int (fun _ _ => rfl))) (blkOk_by (own := [("place", 7)]) (N := N_outside) (sc := defScope s_outside) (by decide +kernel)) (fun _ _ _ _ _ => pg_name (i := 7) sc_outside.nd rfl (Or.inl rfl)) (fun _ _ _ _ _ => pts_nil) (fun _ _ _ _ _ => (pe_op op_mod (pv 7) (pv 2))))
                  (pss_cons (ps_while PassesOwn.never (pt_cmpR op_lt (pe_callB call_len_seq (by rfl) T.n_len (by decide +kernel) (pa_cons (pv 6) pa_nil)) (pe_op op_sub (pe_callB call_len_seq (by rfl) T.n_len (by decide +kernel) (pa_cons (pv 0) pa_nil)) pe_int) (nomark _))
                    (pss_one (ps_expr (pe_bm PySem.F.plainAttrs_list PySem.F.slot_list_append PySem.F.type_list_append mt_append (pv 6) (pa_cons pe_int pa_nil)))))
                  (pss_one (ps_ret (pe_tup (pa_cons (pv 2) (pa_cons (pe_callTy call_tuple_of (by rfl) T.n_tuple (by decide +kernel) (pa_cons (pv 6) pa_nil)) pa_nil)))))))
                pss_nil)))))
      (pss_one (ps_ret pe_non))), ?_⟩
    rw [show L2.start N_outside [V.ref p, .int n] = [some (.ref p), some (.int n), none, none, none, none, none, none] from rfl]
    try dsimp only [cxOf]
    walk_at "rr"
    refine ⟨n, rfl, fun v H1 e1 r1 => ?_⟩
    obtain ⟨q, rfl, hq⟩ := r1
    refine f_list hq (fun i σ' H' => ∃ y2 y3 y4 y5 y6 y7, σ' = [some (.ref p), some (.int n), y2, y3, y4, y5, y6, y7] ∧ Ex H1 H' ∧ ∀ m, m ∈ (primes.filter fun p => decide (n % (p * p) = 0)).take i → ∀ g, ¬ Lk m ns g)
      ⟨none, none, none, none, none, none, rfl, Ex.refl H1, fun m hm => by cases hm⟩ (fun i σ' H' hq' => ?_) (fun i y σ' H' hy hq' => ?_) (fun σ' H' hq' => ?_)
    · obtain ⟨_, _, _, _, _, _, _, e, _⟩ := hq'
      exact ex_l e hq
    · obtain ⟨y2, y3, y4, y5, y6, y7, rfl, e, hno⟩ := hq'
      obtain ⟨m, hmi, rfl⟩ := map_get hy
      have hmem := List.mem_of_getElem? hmi
      rw [List.mem_filter] at hmem
      obtain ⟨hm, hdiv⟩ := hmem
      have hdiv : m * m ∣ n := Int.dvd_of_emod_eq_zero (of_decide_eq_true hdiv)
      have hb := primes_bd hm
      walk_at "rr"
      refine ⟨p, ns, m, rfl, ex_t (e1.trans e) hx, hm, hp, fun v H2 e2 r2 => ?_⟩
      obtain ⟨q2, rs, parts, rfl, hq2, ha, hs⟩ := r2
      refine f_list (.inl (.inl hq2)) (fun j σ' H' => ∃ y3 y4 y5 y6 y7, σ' = [some (.ref p), some (.int n), some (.int m), y3, y4, y5, y6, y7] ∧ Ex H2 H' ∧ ∀ g, g ∈ parts.take j → ¬ (2 ≤ g.2 ∧ ∀ c ∈ (divM ns g.1).2, m * m ∣ c))
        ⟨y3, y4, y5, y6, y7, rfl, Ex.refl H2, fun g hg => by cases hg⟩ (fun j σ' H' hq' => ?_) (fun j y σ' H' hy hq' => ?_) (fun σ' H' hq' => ?_)
      · obtain ⟨_, _, _, _, _, _, e, _⟩ := hq'
        exact .inl (.inl (e _ _ hq2))
      · obtain ⟨y3, y4, y5, y6, y7, rfl, e3, hno2⟩ := hq'
        obtain ⟨g, hg, rg⟩ := ha.getx hy
        obtain ⟨pg, x, z, rfl, sg, hxg, hzg⟩ := rg
        obtain ⟨px, rfl, hpx⟩ := hxg
        obtain ⟨pz, rfl, hpz⟩ := hzg
        have hgm := List.mem_of_getElem? hg
        have hgood := hs.good g hgm
        have e13 : Ex H H' := e1.trans (e.trans (e2.trans e3))
        refine w_gTup (ex_t e3 sg) rfl ?_
        walk_at "rr"
        have next : ∀ H4 : Hp, Ex H' H4 → ¬ (2 ≤ g.2 ∧ ∀ c ∈ (divM ns g.1).2, m * m ∣ c) → ∃ y3' y4' y5' y6' y7', [some (V.ref p), some (.int n), some (.int m), some (.ref px), some (.int g.2), some (.ref pz), y6, y7] = [some (.ref p), some (.int n), some (.int m), y3', y4', y5', y6', y7'] ∧ Ex H2 H4 ∧ ∀ g, g ∈ parts.take (j + 1) → ¬ (2 ≤ g.2 ∧ ∀ c ∈ (divM ns g.1).2, m * m ∣ c) := by
          intro H4 e4 hn
          refine ⟨_, _, _, _, _, rfl, e3.trans e4, fun g' hg' => ?_⟩
          rw [take_snoc hg] at hg'
          rcases List.mem_append.mp hg' with hg' | hg'
          · exact hno2 g' hg'
          · rw [List.mem_singleton.mp hg']
            exact hn
        refine w_ite (fun h2 => ?_) (fun h2 => ?_)
        · walk_at "rr"
          refine w_I (w_CMul1 (by omega) (by omega)) ?_
          walk_at "rr"
          refine ⟨pz, (divM ns g.1).2, m * m, rfl, ex_t e3 hpz, by have := divM_len2 (f := ns) (g := g.1); have := hgood.1.hi; omega, Int.mul_pos (by omega) (by omega), fun v H4 e4 r4 => ?_⟩
          obtain ⟨b, rfl, hbb⟩ := r4
          walk_at "rr"
          refine w_iteB (fun hbt => ?_) (fun hbf => ?_)
          · have hLk : Lk m ns g.1 := ⟨hs.two g hgm h2, hbb.mp hbt⟩
            walk_at "rr"
            refine ⟨p, px, ns, g.1, rfl, ex_t (e13.trans e4) hx, ex_t (e3.trans e4) hpx, by omega, hgood.1.hi, by have := hgood.1.lo; omega, fun c hc => by have := hgood.1.mr.red c hc; omega, fun v H5 e5 r5 => ?_⟩
            obtain ⟨q5, x5, z5, rfl, s5, ⟨px5, rfl, hpx5⟩, _⟩ := r5
            have dl := divM_len1 (f := ns) (g := g.1)
            have glo := hgood.1.lo
            walk_at "rr"
            refine w_ixT s5 (atI_nat (j := 0) rfl) ?_
            refine c_tup (zs := (divM ns g.1).1) (G := V.int) (fun _ => true) (fun z => .int (z % m)) hpx5 (by omega) (fun _ => rfl) (fun z _ => gives_yes) (fun z _ _ H6 e6 Q' q' => ?_) (fun D H6 hD e6 hacc => ?_)
            · walk_at "rr"
              exact w_I (show (0 : Int) < m by omega) (q' H6 (Ex.refl H6))
            · rw [lcAcc_all] at hacc
              have hD0 : H D = none := fresh_back (e13.trans (e4.trans e5)) hD
              have e06 : Ex H H6 := e13.trans (e4.trans (e5.trans e6))
              walk_at "rr"
              refine w_while (fun mm σ' H' => ∃ t, σ' = [some (.ref p), some (.int n), some (.int m), some (.ref px), some (.int g.2), some (.ref pz), some (.ref D), y7] ∧ Ex H H' ∧ H' D = some (.lst (((divM ns g.1).1.map (· % m) ++ List.replicate t 0).map V.int)) ∧ (divM ns g.1).1.length + t ≤ ns.length - 1 ∧ mm = ns.length - 1 - ((divM ns g.1).1.length + t))
                (ns.length - 1 - (divM ns g.1).1.length) ⟨0, rfl, e06, by rw [hacc, List.replicate_zero, List.append_nil, List.map_map] <;> rfl, by omega, by omega⟩ ?_
              rintro mm σ' H7 ⟨t, rfl, e7, h7, ht, rfl⟩
              have hlen : (((divM ns g.1).1.map (· % m) ++ List.replicate t 0).map V.int).length = (divM ns g.1).1.length + t := by
                rw [List.length_map, List.length_append, List.length_map, List.length_replicate]
              walk_at "rr"
              refine ⟨D, _, rfl, .inl (.inl (.inl h7)), ?_⟩
              rw [hlen]
              walk_at "rr"
              refine ⟨p, _, rfl, .inr (ex_t e7 hx), ?_⟩
              rw [List.length_map]
              walk_at "rr"
              refine w_ite (fun hlt => ?_) (fun hge => ?_)
              · refine w_body ?_
                walk_at "rr"
                refine w_tyL h7 ?_
                walk_at "rr"
                refine w_append h7 (by rw [hlen]; omega) ?_
                refine ⟨ns.length - 1 - ((divM ns g.1).1.length + (t + 1)), by omega, t + 1, rfl, Ex.mut e7 hD0, ?_, by omega, rfl⟩
                rw [upd_same, List.replicate_succ', ← List.append_assoc, List.map_append (l₂ := [0])]
                rfl
              · walk_at "rr"
                refine ⟨D, _, rfl, .inl ⟨.inl (.inl h7), fun q8 n8 => ?_⟩⟩
                walk_at "rr"
                refine ⟨by show 2 ≤ sizeLine; decide, fun q9 n9 => ?_⟩
                refine k _ _ (e7.trans ((Ex.new n8).trans (Ex.new n9))) (.inr ⟨m, g.1, hm, hdiv, hLk, q9, _, _, rfl, .inl (.inl upd_same), rfl, q8, rfl, ?_⟩)
                have et : t = ns.length - 1 - (divM ns g.1).1.length := by omega
                unfold xM
                rw [← et]
                exact ex_t (Ex.new n9) (.inl (.inl upd_same))
          · walk_at "rr"
            exact next H4 e4 fun hh => by rw [hbb.mpr hh.2] at hbf; cases hbf
        · refine iteF ?_
          walk_at "rr"
          exact next H' (Ex.refl H') fun hh => h2 hh.1
      · obtain ⟨y3, y4, y5, y6, y7, rfl, e3, hno2⟩ := hq'
        rw [ha.1, List.take_length] at hno2
        refine ⟨_, _, _, _, _, _, rfl, e.trans (e2.trans e3), fun m' hm' g hg => ?_⟩
        rw [take_snoc hmi] at hm'
        rcases List.mem_append.mp hm' with hm' | hm'
        · exact hno m' hm' g hg
        · rw [List.mem_singleton.mp hm'] at hg
          obtain ⟨kk, k2, hk⟩ := hs.all g hg.1
          exact hno2 _ hk ⟨k2, hg.2⟩
    · obtain ⟨y2, y3, y4, y5, y6, y7, rfl, e, hno⟩ := hq'
      rw [List.length_map, List.take_length] at hno
      walk_at "rr"
      refine k _ _ (e1.trans e) (.inl ⟨rfl, fun ⟨m, hm, hd, g, hg⟩ => ?_⟩)
      exact hno m (List.mem_filter.mpr ⟨hm, decide_eq_true (Int.emod_eq_zero_of_dvd hd)⟩) g hg
end
end RH

set_option Elab.async false
set_option linter.all false
set_option maxRecDepth 100000
set_option maxHeartbeats 4000000
namespace RH
open PySem PySem.Spec PyProof.Rows L2 Evl
section
local macro_rules | `(tactic| walk_at "rs") => `(tactic| first
  | with_reducible refine w_seq ?_
  | with_reducible refine w_asg ?_
  | ((with_reducible refine' w_var ?h ?_); (case h => exact rfl))
  | with_reducible refine w_c ?_
  | with_reducible refine w_op ?_
  | with_reducible refine w_I0 ?_
  | with_reducible refine w_cb ?_
  | with_reducible refine w_cons ?_
  | with_reducible refine w_nil ?_
  | with_reducible refine w_ret ?_
  | with_reducible refine w_call ?_
  | with_reducible refine w_if ?_
  | with_reducible refine w_test ?_
  | with_reducible refine w_exbl ?_
  | with_reducible refine w_eqI ?_
  | with_reducible refine w_neI ?_
  | with_reducible refine w_next ?_
  | with_reducible refine w_un ?_
  | with_reducible refine w_U ?_
  | with_reducible refine w_B ?_
  | with_reducible refine w_and ?_
  | with_reducible refine w_or ?_
  | with_reducible refine w_not ?_
  | with_reducible refine w_andV ?_
  | with_reducible refine w_notV ?_
  | with_reducible refine w_tup ?_
  | with_reducible refine w_lst ?_
  | with_reducible refine w_for ?_
  | with_reducible refine w_rng1 ?_
  | with_reducible refine w_rng2 ?_
  | with_reducible refine w_rng3 ?_
  | with_reducible refine w_iList ?_
  | with_reducible refine w_iTup ?_
  | with_reducible refine w_iRevA ?_
  | with_reducible refine w_lc ?_
  | with_reducible refine w_drop ?_
  | with_reducible refine w_par ?_
  | ((with_reducible refine' w_aug ?h ?_); (case h => exact rfl))
  | with_reducible refine w_sl ?_
  | with_reducible refine w_noPart ?_
  | with_reducible refine w_part ?_
  | with_reducible refine w_exint ?_
  | with_reducible refine w_revL ?_
  | with_reducible refine w_bm ?_
  | with_reducible refine w_augS ?_
  | with_reducible refine w_ip ?_
  | with_reducible refine w_gSub ?_
  | with_reducible refine w_gName ?_
  | with_reducible refine w_gCons ?_
  | with_reducible refine w_gNil ?_
  | with_reducible refine w_chain ?_
  | with_reducible refine w_asgG ?_)
local macro_rules | `(tactic| walk_at "rr") => `(tactic| repeat walk_at "rs")
local macro_rules | `(tactic| walk_at "rn1") => `(tactic| first
  | with_reducible refine w_seq ?_
  | with_reducible refine w_asg ?_
  | ((with_reducible refine' w_var ?h ?_); (case h => exact rfl))
  | with_reducible refine w_c ?_
  | with_reducible refine w_op ?_
  | with_reducible refine w_I0 ?_
  | with_reducible refine w_cb ?_
  | with_reducible refine w_cons ?_
  | with_reducible refine w_nil ?_
  | with_reducible refine w_ret ?_
  | with_reducible refine w_call ?_
  | with_reducible refine w_if ?_
  | with_reducible refine w_test ?_
  | with_reducible refine w_exbl ?_
  | with_reducible refine w_eqI ?_
  | with_reducible refine w_neI ?_
  | with_reducible refine w_next ?_
  | with_reducible refine w_un ?_
  | with_reducible refine w_U ?_
  | with_reducible refine w_B ?_
  | with_reducible refine w_and ?_
  | with_reducible refine w_or ?_
  | with_reducible refine w_not ?_
  | with_reducible refine w_andV ?_
  | with_reducible refine w_notV ?_
  | with_reducible refine w_lst ?_
  | with_reducible refine w_for ?_
  | with_reducible refine w_rng1 ?_
  | with_reducible refine w_rng2 ?_
  | with_reducible refine w_rng3 ?_
  | with_reducible refine w_iList ?_
  | with_reducible refine w_iTup ?_
  | with_reducible refine w_iRevA ?_
  | with_reducible refine w_lc ?_
  | with_reducible refine w_drop ?_
  | with_reducible refine w_par ?_
  | ((with_reducible refine' w_aug ?h ?_); (case h => exact rfl))
  | with_reducible refine w_sl ?_
  | with_reducible refine w_noPart ?_
  | with_reducible refine w_part ?_
  | with_reducible refine w_exint ?_
  | with_reducible refine w_revL ?_
  | with_reducible refine w_bm ?_
  | with_reducible refine w_augS ?_
  | with_reducible refine w_ip ?_
  | with_reducible refine w_gSub ?_
  | with_reducible refine w_gName ?_
  | with_reducible refine w_gCons ?_
  | with_reducible refine w_gNil ?_
  | with_reducible refine w_chain ?_
  | with_reducible refine w_asgG ?_)
local macro_rules | `(tactic| walk_at "rn") => `(tactic| repeat walk_at "rn1")

variable {P : Program} {w : World} {K : PySem.W.Frag} {mg : Str → Option Value} {base : Heap}
/-! ### the law's draws -/
def sp__law_cell (K : PySem.W.Frag) : Sp := fun vs H Q _ => ∃ (p : Addr) (ns : List Int) (j : Int), vs = [.ref p, .int j] ∧ SqL K H p (ns.map V.int) ∧ ns.length ≤ 63 ∧ 0 ≤ j ∧ j ≤ 1 ∧ Ret H Q fun _ v => ∃ c, v = .int c
theorem ok__law_cell (T : Txt K mg) : FnOk P w K mg base CX0 1 T._law_cell.f T._law_cell.fd ["_law_script", "_law_k"] (sp__law_cell K) := by
  refine T._law_cell.F.ok sc__law_cell (fun vs H Q E h => ?_) (fun cdv A outer s H vs Q E hr h => ?_)
  · obtain ⟨p, ns, j, rfl, _⟩ := h
    rfl
  · obtain ⟨p, ns, j, rfl, hx, hl, j0, j1, k⟩ := h
    refine ⟨_, (pss_cons (ps_if (pt_cmpR op_eq (pe_callB call_len_seq (by rfl) T.n_len (by decide +kernel) (pa_cons (pv 0) pa_nil)) pe_int (nomark _))
        (pss_one (ps_ret (pe_op op_mul pe_int (pe_op op_add (pv 1) pe_int))))
        pss_nil)
      (pss_cons (ps_if (pt_cmpR op_lt (pv 1) (pe_callB call_len_seq (by rfl) T.n_len (by decide +kernel) (pa_cons (pv 0) pa_nil)) (nomark _))
        (pss_one (ps_ret (pe_ix (r := rIxL K) ix_list (pv 0) (pv 1) (fun _ _ => rfl))))
        pss_nil)
      (pss_one (ps_ret (pe_op op_add (pe_ix (r := rIxL K) ix_list (pv 0) (pe_op op_mod (pv 1) (pe_callB call_len_seq (by rfl) T.n_len (by decide +kernel) (pa_cons (pv 0) pa_nil))) (fun _ _ => rfl)) (pe_op op_mul pe_int (pv 1))))))), ?_⟩
    rw [show L2.start N__law_cell [V.ref p, .int j] = [some (.ref p), some (.int j)] from rfl]
    try dsimp only [cxOf]
    walk_at "rr"
    refine ⟨p, _, rfl, .inl hx, ?_⟩
    rw [List.length_map]
    walk_at "rr"
    refine w_ite (fun h0 => ?_) (fun h0 => ?_)
    · walk_at "rr"
      refine w_I (w_CMul1 (by omega) (by omega)) ?_
      exact k _ _ (Ex.refl H) ⟨_, rfl⟩
    · walk_at "rr"
      refine ⟨p, _, rfl, .inl hx, ?_⟩
      rw [List.length_map]
      walk_at "rr"
      refine w_ite (fun h1 => ?_) (fun h1 => ?_)
      · walk_at "rr"
        refine w_ixLn hx (atI_getD (d := 0) j0 h1) ?_
        exact k _ _ (Ex.refl H) ⟨_, rfl⟩
      · walk_at "rr"
        refine ⟨p, _, rfl, .inl hx, ?_⟩
        rw [List.length_map]
        refine w_I (show (0 : Int) < (ns.length : Int) by omega) ?_
        refine w_ixLn hx (atI_getD (d := 0) (Int.emod_nonneg _ (by omega)) (Int.emod_lt_of_pos _ (by omega))) ?_
        walk_at "rr"
        refine w_I (w_CMul1 (by omega) (by omega)) ?_
        walk_at "rr"
        exact k _ _ (Ex.refl H) ⟨_, rfl⟩
def sp__law_mixed : Sp := fun vs H Q _ => ∃ (c j m : Int), vs = [.int c, .int j, .int m] ∧ 0 ≤ j ∧ j ≤ 100 ∧ 0 < m ∧ Ret H Q fun _ v => ∃ r, v = .int r
theorem ok__law_mixed (T : Txt K mg) : FnOk P w K mg base CX0 1 T._law_mixed.f T._law_mixed.fd ["_law_cell_here", "_law_k", "_law_prime"] sp__law_mixed := by
  refine T._law_mixed.F.ok sc__law_mixed (fun vs H Q E h => ?_) (fun cdv A outer s H vs Q E hr h => ?_)
  · obtain ⟨c, j, m, rfl, _⟩ := h
    rfl
  · obtain ⟨c, j, m, rfl, j0, j1, hm, k⟩ := h
    refine ⟨_, (pss_cons (ps_set (i := 3) sc__law_mixed.nd rfl (.inl rfl) (pe_op op_mod (pe_op op_mul (pe_op op_add (pe_op op_add (pe_op op_add (pv 0) (pe_op op_mul (pe_op op_mul pe_int (pv 1)) (pv 1))) (pe_op op_mul pe_int (pv 1))) pe_int) pe_int) pe_int))
      (pss_cons (ps_set (i := 3) sc__law_mixed.nd rfl (.inl rfl) (pe_op op_mod (pe_op op_mul (pv 3) (pv 3)) pe_int))
      (pss_one (ps_ret (pe_op op_mod (pe_op op_mul (pv 3) pe_int) (pv 2)))))), ?_⟩
    rw [show L2.start N__law_mixed [V.int c, .int j, .int m] = [some (.int c), some (.int j), some (.int m), none] from rfl]
    try dsimp only [cxOf]
    walk_at "rr"
    refine w_I (w_CMul1 (by omega) (by omega)) ?_
    walk_at "rr"
    refine w_I (w_CMul2 (by omega) (by omega)) ?_
    walk_at "rr"
    refine w_I (w_CMul1 (by omega) (by omega)) ?_
    walk_at "rr"
    refine w_I (w_CMul2 (by omega) (by omega)) ?_
    walk_at "rr"
    refine w_I (show (0 : Int) < 2147483647 by decide) ?_
    have b1 := Int.emod_nonneg ((c + 7 * j * j + 13 * j + 5) * 48271) (show (2147483647 : Int) ≠ 0 by decide)
    have b2 := Int.emod_lt_of_pos ((c + 7 * j * j + 13 * j + 5) * 48271) (show (0 : Int) < 2147483647 by decide)
    generalize (c + 7 * j * j + 13 * j + 5) * 48271 % 2147483647 = f at b1 b2
    walk_at "rr"
    refine w_I (w_CMul1 (by omega) (by omega)) ?_
    walk_at "rr"
    refine w_I (show (0 : Int) < 2147483629 by decide) ?_
    walk_at "rr"
    refine w_I (w_CMul2 (by omega) (by omega)) ?_
    walk_at "rr"
    refine w_I hm ?_
    exact k _ _ (Ex.refl H) ⟨_, rfl⟩
structure Drawn (ws out : List Int) : Prop where
  len : out.length = ws.length
  bd : ∀ (i : Nat) x w, out[i]? = some x → ws[i]? = some w → 0 ≤ x ∧ x < w
def sp__law_draws (K : PySem.W.Frag) : Sp := fun vs H Q _ => ∃ (p : Addr) (ws : List Int) (c m : Int), vs = [.int c, .ref p, .int m] ∧ SqL K H p (ws.map V.int) ∧ ws.length ≤ 60 ∧ 0 < m ∧ (∀ x ∈ ws, 0 < x ∧ x < 1073741824) ∧ Ret H Q fun H' v => ∃ out, IsL K H' v out ∧ Drawn ws out
theorem ok__law_draws (T : Txt K mg) (G__law_mixed : FnOk P w K mg base CX0 1 T._law_mixed.f T._law_mixed.fd ["_law_cell_here", "_law_k", "_law_prime"] sp__law_mixed) :
    FnOk P w K mg base CX0 2 T._law_draws.f T._law_draws.fd ["_law_cell_here", "_law_widths", "_law_prime"] (sp__law_draws K) := by
  refine T._law_draws.F.ok sc__law_draws (fun vs H Q E h => ?_) (fun cdv A outer s H vs Q E hr h => ?_)
  · obtain ⟨p, ws, c, m, rfl, _⟩ := h
    rfl
  · obtain ⟨p, ws, c, m, rfl, hx, hl, hm, hw, k⟩ := h
    refine ⟨_, (pss_cons (ps_set (i := 3) sc__law_draws.nd rfl (.inl rfl) pe_int)
      (pss_cons (ps_if (pt_cmpR op_ge (pv 0) (pe_op op_pow pe_int pe_int) (nomark _))
        (pss_one (ps_set (i := 3) sc__law_draws.nd rfl (.inl rfl) (pe_op op_sub (pv 0) (pe_op op_pow pe_int pe_int))))
        pss_nil)
      (pss_cons (ps_set (i := 4) sc__law_draws.nd rfl (.inl rfl) (pe_lst pa_nil))
      (pss_cons (ps_for PassesOwn.never rfl (pi_range1 (by rfl) T.n_range (pa_cons (pe_callB call_len_seq (by rfl) T.n_len (by decide +kernel) (pa_cons (pv 1) pa_nil)) pa_nil)) (pg_name (i := 5) sc__law_draws.nd rfl (.inl rfl))
        (pss_one (ps_if (pt_cmpR op_gt (pv 3) pe_int (nomark _))
            (pss_cons (ps_expr (pe_bm PySem.F.plainAttrs_list PySem.F.slot_list_append PySem.F.type_list_append mt_append (pv 4) (pa_cons (pe_op op_mod (pv 3) (pe_ix (r := rIxL K) ix_list (pv 1) (pv 5) (fun _ _ => rfl))) pa_nil)))
              (pss_one (ps_set (i := 3) sc__law_draws.nd rfl (.inl rfl) (pe_op op_fdiv (pv 3) (pe_ix (r := rIxL K) ix_list (pv 1) (pv 5) (fun _ _ => rfl))))))
            (pss_one (ps_expr (pe_bm PySem.F.plainAttrs_list PySem.F.slot_list_append PySem.F.type_list_append mt_append (pv 4) (pa_cons (pe_op op_mod (pe_call G__law_mixed (hr.mono (by omega)) (by rfl) T._law_mixed.g T._law_mixed.F.kp T._law_mixed.b .nil pass0 (pa_cons (pv 0) (pa_cons (pv 5) (pa_cons (pv 2) pa_nil)))) (pe_ix (r := rIxL K) ix_list (pv 1) (pv 5) (fun _ _ => rfl))) pa_nil)))))))
      (pss_one (ps_ret (pv 4))))))), ?_⟩
    rw [show L2.start N__law_draws [V.int c, .ref p, .int m] = [some (.int c), some (.ref p), some (.int m), none, none, none] from rfl]
    try dsimp only [cxOf]
    have go : ∀ lf : Int, tSeq (tAsg (tLst tNil) (gName 4)) (tSeq (tFor (iRng1 (tCons (tCB (fun xs H Q => ∃ p ys, xs = [V.ref p] ∧ (SqL K H p ys ∨ SqT K H p ys) ∧ Q (V.int ys.length) H) (tCons (tVar 1) tNil)) tNil)) (gName 5)
        (tIfS (tTest (tOp (rI0 fun i j => V.bl (decide (j < i))) (tVar 3) (tC (V.int 1))))
          (tSeq (tDrop (tBM K "list" rAppend (tVar 4) (tCons (tOp (rI (fun _ j => 0 < j) fun i j => V.int (i % j)) (tVar 3) (tOp (rIxL K) (tVar 1) (tVar 5))) tNil)))
            (tAsg (tOp (rI CDiv fun i j => V.int (i / j)) (tVar 3) (tOp (rIxL K) (tVar 1) (tVar 5))) (gName 3)))
          (tDrop (tBM K "list" rAppend (tVar 4) (tCons (tOp (rI (fun _ j => 0 < j) fun i j => V.int (i % j)) (tCall sp__law_mixed [] E0 (tCons (tVar 0) (tCons (tVar 5) (tCons (tVar 2) tNil)))) (tOp (rIxL K) (tVar 1) (tVar 5))) tNil)))))
        (tRet (tVar 4))) ⟨fun _ H' => Q .non H', Q, fun _ _ => False, fun _ _ => False⟩ [some (.int c), some (.ref p), some (.int m), some (.int lf), none, none] H := by
      intro lf
      walk_at "rr"
      refine ⟨Nat.zero_le _, fun L hL => ?_⟩
      have e1 : Ex H (upd H L (.lst [])) := Ex.new hL
      have h1 : (upd H L (.lst [])) L = some (.lst []) := upd_same
      generalize upd H L (.lst []) = H1 at e1 h1
      walk_at "rr"
      refine ⟨p, _, rfl, .inl (ex_l e1 hx), ?_⟩
      rw [List.length_map]
      walk_at "rr"
      refine f_r1 (by omega) (by omega) (fun i σ' H' => ∃ lf y5 out, σ' = [some (.int c), some (.ref p), some (.int m), some (.int lf), some (.ref L), y5] ∧ Ex H H' ∧ H' L = some (.lst (out.map V.int)) ∧ Drawn (ws.take i) out)
        ⟨lf, none, [], rfl, e1, h1, rfl, fun i x w h => by cases h⟩ (fun i σ' H' hi hq => ?_) (fun σ' H' hq => ?_)
      · obtain ⟨lf, y5, out, rfl, e, hL', hd⟩ := hq
        have hi' : i < ws.length := by omega
        have hwi := getD_get hi'
        have hol : out.length = i := by rw [hd.len, List.length_take]; omega
        have hwb := hw _ (List.mem_of_getElem? hwi)
        have next : ∀ z : Int, Drawn (ws.take (i + 1)) (out ++ [z % ws.getD i 0]) := fun z => ⟨by rw [List.length_append, List.length_singleton, hol, List.length_take]; omega, fun j x w hjx hjw => by
          rw [take_snoc hwi] at hjw
          by_cases hj : j < i
          · rw [List.getElem?_append_left (by omega)] at hjx
            rw [List.getElem?_append_left (by rw [List.length_take]; omega)] at hjw
            exact hd.bd j x w hjx hjw
          · have ej : j = i := by
              have := (List.getElem?_eq_some_iff.mp hjx).1
              rw [List.length_append, List.length_singleton] at this
              omega
            subst ej
            rw [List.getElem?_append_right (by omega), hol, Nat.sub_self] at hjx
            rw [List.getElem?_append_right (by rw [List.length_take]; omega), List.length_take, show j - min j ws.length = 0 by omega] at hjw
            cases hjx
            cases hjw
            exact ⟨Int.emod_nonneg _ (by omega), Int.emod_lt_of_pos _ (by omega)⟩⟩
        walk_at "rr"
        refine w_ite (fun hlf => ?_) (fun hlf => ?_)
        · walk_at "rr"
          refine w_tyL hL' ?_
          walk_at "rr"
          refine w_ixLn (ex_l e hx) (atI_nat hwi) ?_
          refine w_I hwb.1 ?_
          walk_at "rr"
          refine w_append hL' (by rw [List.length_map]; omega) ?_
          walk_at "rr"
          refine w_ixLn (ex_l (Ex.mut e hL) hx) (atI_nat hwi) ?_
          refine w_I (show CDiv _ _ from ⟨hwb.1, hwb.2⟩) ?_
          exact ⟨_, _, out ++ [lf % ws.getD i 0], rfl, Ex.mut e hL, by rw [upd_same, List.map_append] <;> rfl, next lf⟩
        · walk_at "rr"
          refine w_tyL hL' ?_
          walk_at "rr"
          refine ⟨c, (i : Int), m, rfl, by omega, by omega, hm, fun v H3 e3 r3 => ?_⟩
          obtain ⟨r, rfl⟩ := r3
          walk_at "rr"
          refine w_ixLn (ex_l (e.trans e3) hx) (atI_nat hwi) ?_
          refine w_I hwb.1 ?_
          walk_at "rr"
          refine w_append (e3 _ _ hL') (by rw [List.length_map]; omega) ?_
          exact ⟨_, _, out ++ [r % ws.getD i 0], rfl, Ex.mut (e.trans e3) hL, by rw [upd_same, List.map_append] <;> rfl, next r⟩
      · obtain ⟨lf, y5, out, rfl, e, hL', hd⟩ := hq
        rw [Int.toNat_natCast, List.take_length] at hd
        walk_at "rr"
        exact k _ _ e ⟨out, ⟨L, rfl, .inl (.inl hL')⟩, hd⟩
    refine w_seq ?_
    walk_at "rr"
    refine w_I (show CPow _ _ from ⟨by decide, by decide, by decide⟩) ?_
    walk_at "rr"
    refine w_ite (fun hc => ?_) (fun hc => ?_)
    · walk_at "rr"
      refine w_I (show CPow _ _ from ⟨by decide, by decide, by decide⟩) ?_
      refine w_I0 ?_
      exact go _
    · refine w_next ?_
      exact go _
end
end RH

set_option Elab.async false
set_option linter.all false
set_option maxRecDepth 100000
set_option maxHeartbeats 4000000
namespace RH
open PySem PySem.Spec PyProof.Rows L2 Evl
/-! ### x + s for x -/
def shIn (s : Int) (n : Nat) (l : List Int) : Nat → List Int
  | 0 => l
  | j + 1 => (shIn s n l j).set (n - 2 - j) ((shIn s n l j).getD (n - 2 - j) 0 + s * (shIn s n l j).getD (n - 2 - j + 1) 0)
theorem shIn_len {s : Int} {n : Nat} {l : List Int} : ∀ j, (shIn s n l j).length = l.length
  | 0 => rfl
  | j + 1 => by rw [shIn, List.length_set, shIn_len j]
def shRun (s : Int) (ns : List Int) : Nat → List Int
  | 0 => ns
  | i + 1 => shIn s ns.length (shRun s ns i) (ns.length - 1 - i)
theorem shRun_len {s : Int} {ns : List Int} : ∀ i, (shRun s ns i).length = ns.length
  | 0 => rfl
  | i + 1 => by rw [shRun, shIn_len, shRun_len i]
def shift (s : Int) (ns : List Int) : List Int := shRun s ns (ns.length - 1)
section
local macro_rules | `(tactic| walk_at "rs") => `(tactic| first
  | with_reducible refine w_seq ?_
  | with_reducible refine w_asg ?_
  | ((with_reducible refine' w_var ?h ?_); (case h => exact rfl))
  | with_reducible refine w_c ?_
  | with_reducible refine w_op ?_
  | with_reducible refine w_I0 ?_
  | with_reducible refine w_cb ?_
  | with_reducible refine w_cons ?_
  | with_reducible refine w_nil ?_
  | with_reducible refine w_ret ?_
  | with_reducible refine w_call ?_
  | with_reducible refine w_if ?_
  | with_reducible refine w_test ?_
  | with_reducible refine w_exbl ?_
  | with_reducible refine w_eqI ?_
  | with_reducible refine w_neI ?_
  | with_reducible refine w_next ?_
  | with_reducible refine w_un ?_
  | with_reducible refine w_U ?_
  | with_reducible refine w_B ?_
  | with_reducible refine w_and ?_
  | with_reducible refine w_or ?_
  | with_reducible refine w_not ?_
  | with_reducible refine w_andV ?_
  | with_reducible refine w_notV ?_
  | with_reducible refine w_tup ?_
  | with_reducible refine w_lst ?_
  | with_reducible refine w_for ?_
  | with_reducible refine w_rng1 ?_
  | with_reducible refine w_rng2 ?_
  | with_reducible refine w_rng3 ?_
  | with_reducible refine w_iList ?_
  | with_reducible refine w_iTup ?_
  | with_reducible refine w_iRevA ?_
  | with_reducible refine w_lc ?_
  | with_reducible refine w_drop ?_
  | with_reducible refine w_par ?_
  | ((with_reducible refine' w_aug ?h ?_); (case h => exact rfl))
  | with_reducible refine w_sl ?_
  | with_reducible refine w_noPart ?_
  | with_reducible refine w_part ?_
  | with_reducible refine w_exint ?_
  | with_reducible refine w_revL ?_
  | with_reducible refine w_bm ?_
  | with_reducible refine w_augS ?_
  | with_reducible refine w_ip ?_
  | with_reducible refine w_gSub ?_
  | with_reducible refine w_gName ?_
  | with_reducible refine w_gCons ?_
  | with_reducible refine w_gNil ?_
  | with_reducible refine w_chain ?_
  | with_reducible refine w_asgG ?_)
local macro_rules | `(tactic| walk_at "rr") => `(tactic| repeat walk_at "rs")
local macro_rules | `(tactic| walk_at "rn1") => `(tactic| first
  | with_reducible refine w_seq ?_
  | with_reducible refine w_asg ?_
  | ((with_reducible refine' w_var ?h ?_); (case h => exact rfl))
  | with_reducible refine w_c ?_
  | with_reducible refine w_op ?_
  | with_reducible refine w_I0 ?_
  | with_reducible refine w_cb ?_
  | with_reducible refine w_cons ?_
  | with_reducible refine w_nil ?_
  | with_reducible refine w_ret ?_
  | with_reducible refine w_call ?_
  | with_reducible refine w_if ?_
  | with_reducible refine w_test ?_
  | with_reducible refine w_exbl ?_
  | with_reducible refine w_eqI ?_
  | with_reducible refine w_neI ?_
  | with_reducible refine w_next ?_
  | with_reducible refine w_un ?_
  | with_reducible refine w_U ?_
  | with_reducible refine w_B ?_
  | with_reducible refine w_and ?_
  | with_reducible refine w_or ?_
  | with_reducible refine w_not ?_
  | with_reducible refine w_andV ?_
  | with_reducible refine w_notV ?_
  | with_reducible refine w_lst ?_
  | with_reducible refine w_for ?_
  | with_reducible refine w_rng1 ?_
  | with_reducible refine w_rng2 ?_
  | with_reducible refine w_rng3 ?_
  | with_reducible refine w_iList ?_
  | with_reducible refine w_iTup ?_
  | with_reducible refine w_iRevA ?_
  | with_reducible refine w_lc ?_
  | with_reducible refine w_drop ?_
  | with_reducible refine w_par ?_
  | ((with_reducible refine' w_aug ?h ?_); (case h => exact rfl))
  | with_reducible refine w_sl ?_
  | with_reducible refine w_noPart ?_
  | with_reducible refine w_part ?_
  | with_reducible refine w_exint ?_
  | with_reducible refine w_revL ?_
  | with_reducible refine w_bm ?_
  | with_reducible refine w_augS ?_
  | with_reducible refine w_ip ?_
  | with_reducible refine w_gSub ?_
  | with_reducible refine w_gName ?_
  | with_reducible refine w_gCons ?_
  | with_reducible refine w_gNil ?_
  | with_reducible refine w_chain ?_
  | with_reducible refine w_asgG ?_)
local macro_rules | `(tactic| walk_at "rn") => `(tactic| repeat walk_at "rn1")

variable {P : Program} {w : World} {K : PySem.W.Frag} {mg : Str → Option Value} {base : Heap}
def sp__law_shifted (K : PySem.W.Frag) : Sp := fun vs H Q _ => ∃ (p : Addr) (ns : List Int) (s : Int), vs = [.ref p, .int s] ∧ SqT K H p (ns.map V.int) ∧ 3 ≤ ns.length ∧ ns.length ≤ 5 ∧ -2 ≤ s ∧ s ≤ 2 ∧ Ret H Q fun H' v => IsT K H' v (shift s ns)
theorem ok__law_shifted (T : Txt K mg) : FnOk P w K mg base CX0 1 T._law_shifted.f T._law_shifted.fd ["_law_poly", "_law_s"] (sp__law_shifted K) := by
  refine T._law_shifted.F.ok sc__law_shifted (fun vs H Q E h => ?_) (fun cdv A outer st H vs Q E hr h => ?_)
  · obtain ⟨p, ns, s, rfl, _⟩ := h
    rfl
  · obtain ⟨p, ns, s, rfl, hx, l3, l5, s0, s1, k⟩ := h
    refine ⟨_, (pss_cons (ps_set (i := 2) sc__law_shifted.nd rfl (.inl rfl) (pe_callTy call_list_of (by rfl) T.n_list (by decide +kernel) (pa_cons (pv 0) pa_nil)))
      (pss_cons (ps_for PassesOwn.never rfl (pi_range1 (by rfl) T.n_range (pa_cons (pe_op op_sub (pe_callB call_len_seq (by rfl) T.n_len (by decide +kernel) (pa_cons (pv 2) pa_nil)) pe_int) pa_nil)) (pg_name (i := 3) sc__law_shifted.nd rfl (.inl rfl))
        (pss_one (ps_for PassesOwn.never rfl (pi_range3 (by rfl) T.n_range (pa_cons (pe_op op_sub (pe_callB call_len_seq (by rfl) T.n_len (by decide +kernel) (pa_cons (pv 2) pa_nil)) pe_int) (pa_cons (pe_op op_sub (pv 3) pe_int) (pa_cons (pe_un un_neg pe_int) pa_nil)))) (pg_name (i := 4) sc__law_shifted.nd rfl (.inl rfl))
            (pss_one (ps_asg (pe_op op_add (pe_ix (r := rIxL K) ix_list (pv 2) (pv 4) (fun _ _ => rfl)) (pe_op op_mul (pv 1) (pe_ix (r := rIxL K) ix_list (pv 2) (pe_op op_add (pv 4) pe_int) (fun _ _ => rfl)))) (pg_sub (pv 2) (pv 4) set_list))))))
      (pss_one (ps_ret (pe_callTy call_tuple_of (by rfl) T.n_tuple (by decide +kernel) (pa_cons (pv 2) pa_nil)))))), ?_⟩
    rw [show L2.start N__law_shifted [V.ref p, .int s] = [some (.ref p), some (.int s), none, none, none] from rfl]
    try dsimp only [cxOf]
    walk_at "rr"
    refine ⟨p, _, rfl, .inr hx, fun L hL => ?_⟩
    have e1 : Ex H (upd H L (.lst (ns.map V.int))) := Ex.new hL
    have h1 : (upd H L (.lst (ns.map V.int))) L = some (.lst (ns.map V.int)) := upd_same
    generalize upd H L (.lst (ns.map V.int)) = H1 at e1 h1
    walk_at "rr"
    refine ⟨L, _, rfl, .inl (.inl (.inl h1)), ?_⟩
    rw [List.length_map]
    walk_at "rr"
    refine f_r1 (by omega) (by omega) (fun i σ' H' => ∃ y3 y4, σ' = [some (.ref p), some (.int s), some (.ref L), y3, y4] ∧ Ex H H' ∧ H' L = some (.lst ((shRun s ns i).map V.int)))
      ⟨none, none, rfl, e1, h1⟩ (fun i σ' H' hi hq => ?_) (fun σ' H' hq => ?_)
    · obtain ⟨y3, y4, rfl, e, h1⟩ := hq
      have lr := shRun_len (s := s) (ns := ns) i
      walk_at "rr"
      refine ⟨L, _, rfl, .inl (.inl (.inl h1)), ?_⟩
      rw [List.length_map, lr]
      walk_at "rr"
      refine f_r3 (by omega) (by omega) (by omega) (by omega) (fun j σ' H' => ∃ y4, σ' = [some (.ref p), some (.int s), some (.ref L), some (.int (i : Int)), y4] ∧ Ex H H' ∧ H' L = some (.lst ((shIn s ns.length (shRun s ns i) j).map V.int)))
        ⟨y4, rfl, e, h1⟩ (fun j σ' H' hj hq => ?_) (fun σ' H' hq => ?_)
      · obtain ⟨y4, rfl, e, h1⟩ := hq
        have lj := shIn_len (s := s) (n := ns.length) (l := shRun s ns i) j
        rw [show (ns.length : Int) - 2 - (j : Int) = ((ns.length - 2 - j : Nat) : Int) by omega]
        walk_at "rr"
        refine w_ixLn (.inl (.inl h1)) (atI_nat (getD_get (show ns.length - 2 - j < (shIn s ns.length (shRun s ns i) j).length by omega))) ?_
        walk_at "rr"
        rw [show ((ns.length - 2 - j : Nat) : Int) + 1 = ((ns.length - 2 - j + 1 : Nat) : Int) by omega]
        refine w_ixLn (.inl (.inl h1)) (atI_nat (getD_get (show ns.length - 2 - j + 1 < (shIn s ns.length (shRun s ns i) j).length by omega))) ?_
        refine w_I (w_CMul1 (by omega) (by omega)) ?_
        walk_at "rr"
        refine w_setL h1 (by rw [List.length_map]; omega) ?_
        refine ⟨_, rfl, Ex.mut e hL, ?_⟩
        rw [upd_same, shIn, List.map_set]
      · obtain ⟨y4, rfl, e, h1⟩ := hq
        rw [show ((ns.length : Int) - 2 - ((i : Int) - 1)).toNat = ns.length - 1 - i by omega] at h1
        exact ⟨_, _, rfl, e, h1⟩
    · obtain ⟨y3, y4, rfl, e, h1⟩ := hq
      rw [show ((ns.length : Int) - 1).toNat = ns.length - 1 by omega] at h1
      walk_at "rr"
      refine ⟨L, _, rfl, .inl ⟨.inl (.inl h1), fun q n => ?_⟩⟩
      exact k _ _ (e.trans (Ex.new n)) ⟨q, rfl, .inl (.inl upd_same)⟩
/-! ### a drawn polynomial -/
def named : List (List Int) := [[-1, 199, 1], [-1, -14, -11, 1], [3, 0, 1], [-8, -2, -1, 1], [-19, 0, 0, 1], [1, 0, -1, 0, 1], [5, 2, 3, 2, 1], [1, 1, 1, 1, 1], [-99, 199, 1], [-100, 199, 1], [38, 6, 0, 1], [38, 7, 0, 1]]
structure DrawnP (b : List Int) (s : Int) : Prop where
  s0 : -2 ≤ s
  s1 : s ≤ 2
  hb : IsPoly b
  hp : IsPoly (shift s b)
theorem isPoly_of (cs : List Int) (h2 : 2 ≤ cs.length) (h4 : cs.length ≤ 4) (h : ∀ c ∈ cs, -499 ≤ c ∧ c ≤ 499) : IsPoly (cs ++ [1]) := ⟨⟨cs, rfl, h2, h4, h⟩⟩
theorem shift3 (s c0 c1 : Int) : shift s [c0, c1, 1] = [c0 + s * (c1 + s * 1), c1 + s * 1 + s * 1, 1] := rfl
theorem shift4 (s c0 c1 c2 : Int) : shift s [c0, c1, c2, 1] = [c0 + s * (c1 + s * (c2 + s * 1)), c1 + s * (c2 + s * 1) + s * (c2 + s * 1 + s * 1), c2 + s * 1 + s * 1 + s * 1, 1] := rfl
theorem shift5 (s c0 c1 c2 c3 : Int) : shift s [c0, c1, c2, c3, 1] = [c0 + s * (c1 + s * (c2 + s * (c3 + s * 1))), c1 + s * (c2 + s * (c3 + s * 1)) + s * (c2 + s * (c3 + s * 1) + s * (c3 + s * 1 + s * 1)),
    c2 + s * (c3 + s * 1) + s * (c3 + s * 1 + s * 1) + s * (c3 + s * 1 + s * 1 + s * 1), c3 + s * 1 + s * 1 + s * 1 + s * 1, 1] := rfl
theorem shift0 {b : List Int} (h : IsPoly b) : shift 0 b = b := by
  have hl := h.len
  have : b.length = 3 ∨ b.length = 4 ∨ b.length = 5 := by omega
  rcases this with e | e | e
  · obtain ⟨c0, c1, rfl⟩ := h.three e
    rw [shift3]; simp
  · obtain ⟨c0, c1, c2, rfl⟩ := h.four e
    rw [shift4]; simp
  · obtain ⟨c0, c1, c2, c3, rfl⟩ := h.five e
    rw [shift5]; simp
theorem drawn0 {b : List Int} (h : IsPoly b) : DrawnP b 0 := ⟨by decide, by decide, h, by rw [shift0 h]; exact h⟩
theorem drawn4 {s c0 c1 c2 : Int} (hs : -2 ≤ s ∧ s ≤ 2) (h0 : -9 ≤ c0 ∧ c0 ≤ 9) (h1 : -9 ≤ c1 ∧ c1 ≤ 9) (h2 : -9 ≤ c2 ∧ c2 ≤ 9) : DrawnP [c0, c1, c2, 1] s := by
  refine ⟨hs.1, hs.2, isPoly_of [c0, c1, c2] (by show 2 ≤ 3; decide) (by show 3 ≤ 4; decide) (fun c hc => ?_), ?_⟩
  · simp only [List.mem_cons, List.not_mem_nil, or_false] at hc
    rcases hc with rfl | rfl | rfl <;> omega
  · rw [shift4]
    refine isPoly_of [_, _, _] (by show 2 ≤ 3; decide) (by show 3 ≤ 4; decide) (fun c hc => ?_)
    have : s = -2 ∨ s = -1 ∨ s = 0 ∨ s = 1 ∨ s = 2 := by omega
    simp only [List.mem_cons, List.not_mem_nil, or_false] at hc
    rcases this with rfl | rfl | rfl | rfl | rfl <;> rcases hc with rfl | rfl | rfl <;> omega
theorem drawn5 {s c0 c1 c2 c3 : Int} (hs : -2 ≤ s ∧ s ≤ 2) (h0 : -4 ≤ c0 ∧ c0 ≤ 4) (h1 : -4 ≤ c1 ∧ c1 ≤ 4) (h2 : -4 ≤ c2 ∧ c2 ≤ 4) (h3 : -4 ≤ c3 ∧ c3 ≤ 4) : DrawnP [c0, c1, c2, c3, 1] s := by
  refine ⟨hs.1, hs.2, isPoly_of [c0, c1, c2, c3] (by show 2 ≤ 4; decide) (by show 4 ≤ 4; decide) (fun c hc => ?_), ?_⟩
  · simp only [List.mem_cons, List.not_mem_nil, or_false] at hc
    rcases hc with rfl | rfl | rfl | rfl <;> omega
  · rw [shift5]
    refine isPoly_of [_, _, _, _] (by show 2 ≤ 4; decide) (by show 4 ≤ 4; decide) (fun c hc => ?_)
    have : s = -2 ∨ s = -1 ∨ s = 0 ∨ s = 1 ∨ s = 2 := by omega
    simp only [List.mem_cons, List.not_mem_nil, or_false] at hc
    rcases this with rfl | rfl | rfl | rfl | rfl <;> rcases hc with rfl | rfl | rfl | rfl <;> omega
theorem named_poly : ∀ b ∈ named, IsPoly b := by
  intro b hb
  simp only [named, List.mem_cons, List.not_mem_nil, or_false] at hb
  rcases hb with rfl | rfl | rfl | rfl | rfl | rfl | rfl | rfl | rfl | rfl | rfl | rfl
  · exact isPoly_of [-1, 199] (by decide) (by decide) (by decide)
  · exact isPoly_of [-1, -14, -11] (by decide) (by decide) (by decide)
  · exact isPoly_of [3, 0] (by decide) (by decide) (by decide)
  · exact isPoly_of [-8, -2, -1] (by decide) (by decide) (by decide)
  · exact isPoly_of [-19, 0, 0] (by decide) (by decide) (by decide)
  · exact isPoly_of [1, 0, -1, 0] (by decide) (by decide) (by decide)
  · exact isPoly_of [5, 2, 3, 2] (by decide) (by decide) (by decide)
  · exact isPoly_of [1, 1, 1, 1] (by decide) (by decide) (by decide)
  · exact isPoly_of [-99, 199] (by decide) (by decide) (by decide)
  · exact isPoly_of [-100, 199] (by decide) (by decide) (by decide)
  · exact isPoly_of [38, 6, 0] (by decide) (by decide) (by decide)
  · exact isPoly_of [38, 7, 0] (by decide) (by decide) (by decide)
theorem AllR.cons {α : Type} {R : V → α → Prop} {x : V} {z : α} {xs : List V} {zs : List α} (r : R x z) (h : AllR R xs zs) : AllR R (x :: xs) (z :: zs) := by
  refine ⟨by rw [List.length_cons, List.length_cons, h.1], fun i y u a b => ?_⟩
  match i, a, b with
  | 0, a, b => cases a; cases b; exact r
  | i + 1, a, b => exact h.2 i y u a b
end
end RH

set_option Elab.async false
set_option linter.all false
set_option maxRecDepth 100000
set_option maxHeartbeats 4000000
namespace RH
open PySem PySem.Spec PyProof.Rows L2 Evl
section
local macro_rules | `(tactic| walk_at "rs") => `(tactic| first
  | with_reducible refine w_seq ?_
  | with_reducible refine w_asg ?_
  | ((with_reducible refine' w_var ?h ?_); (case h => exact rfl))
  | with_reducible refine w_c ?_
  | with_reducible refine w_op ?_
  | with_reducible refine w_I0 ?_
  | with_reducible refine w_cb ?_
  | with_reducible refine w_cons ?_
  | with_reducible refine w_nil ?_
  | with_reducible refine w_ret ?_
  | with_reducible refine w_call ?_
  | with_reducible refine w_if ?_
  | with_reducible refine w_test ?_
  | with_reducible refine w_exbl ?_
  | with_reducible refine w_eqI ?_
  | with_reducible refine w_neI ?_
  | with_reducible refine w_next ?_
  | with_reducible refine w_un ?_
  | with_reducible refine w_U ?_
  | with_reducible refine w_B ?_
  | with_reducible refine w_and ?_
  | with_reducible refine w_or ?_
  | with_reducible refine w_not ?_
  | with_reducible refine w_andV ?_
  | with_reducible refine w_notV ?_
  | with_reducible refine w_tup ?_
  | with_reducible refine w_lst ?_
  | with_reducible refine w_for ?_
  | with_reducible refine w_rng1 ?_
  | with_reducible refine w_rng2 ?_
  | with_reducible refine w_rng3 ?_
  | with_reducible refine w_iList ?_
  | with_reducible refine w_iTup ?_
  | with_reducible refine w_iRevA ?_
  | with_reducible refine w_lc ?_
  | with_reducible refine w_drop ?_
  | with_reducible refine w_par ?_
  | ((with_reducible refine' w_aug ?h ?_); (case h => exact rfl))
  | with_reducible refine w_sl ?_
  | with_reducible refine w_noPart ?_
  | with_reducible refine w_part ?_
  | with_reducible refine w_exint ?_
  | with_reducible refine w_revL ?_
  | with_reducible refine w_bm ?_
  | with_reducible refine w_augS ?_
  | with_reducible refine w_ip ?_
  | with_reducible refine w_gSub ?_
  | with_reducible refine w_gName ?_
  | with_reducible refine w_gCons ?_
  | with_reducible refine w_gNil ?_
  | with_reducible refine w_chain ?_
  | with_reducible refine w_asgG ?_)
local macro_rules | `(tactic| walk_at "rr") => `(tactic| repeat walk_at "rs")
local macro_rules | `(tactic| walk_at "rn1") => `(tactic| first
  | with_reducible refine w_seq ?_
  | with_reducible refine w_asg ?_
  | ((with_reducible refine' w_var ?h ?_); (case h => exact rfl))
  | with_reducible refine w_c ?_
  | with_reducible refine w_op ?_
  | with_reducible refine w_I0 ?_
  | with_reducible refine w_cb ?_
  | with_reducible refine w_cons ?_
  | with_reducible refine w_nil ?_
  | with_reducible refine w_ret ?_
  | with_reducible refine w_call ?_
  | with_reducible refine w_if ?_
  | with_reducible refine w_test ?_
  | with_reducible refine w_exbl ?_
  | with_reducible refine w_eqI ?_
  | with_reducible refine w_neI ?_
  | with_reducible refine w_next ?_
  | with_reducible refine w_un ?_
  | with_reducible refine w_U ?_
  | with_reducible refine w_B ?_
  | with_reducible refine w_and ?_
  | with_reducible refine w_or ?_
  | with_reducible refine w_not ?_
  | with_reducible refine w_andV ?_
  | with_reducible refine w_notV ?_
  | with_reducible refine w_lst ?_
  | with_reducible refine w_for ?_
  | with_reducible refine w_rng1 ?_
  | with_reducible refine w_rng2 ?_
  | with_reducible refine w_rng3 ?_
  | with_reducible refine w_iList ?_
  | with_reducible refine w_iTup ?_
  | with_reducible refine w_iRevA ?_
  | with_reducible refine w_lc ?_
  | with_reducible refine w_drop ?_
  | with_reducible refine w_par ?_
  | ((with_reducible refine' w_aug ?h ?_); (case h => exact rfl))
  | with_reducible refine w_sl ?_
  | with_reducible refine w_noPart ?_
  | with_reducible refine w_part ?_
  | with_reducible refine w_exint ?_
  | with_reducible refine w_revL ?_
  | with_reducible refine w_bm ?_
  | with_reducible refine w_augS ?_
  | with_reducible refine w_ip ?_
  | with_reducible refine w_gSub ?_
  | with_reducible refine w_gName ?_
  | with_reducible refine w_gCons ?_
  | with_reducible refine w_gNil ?_
  | with_reducible refine w_chain ?_
  | with_reducible refine w_asgG ?_)
local macro_rules | `(tactic| walk_at "rn") => `(tactic| repeat walk_at "rn1")

variable {P : Program} {w : World} {K : PySem.W.Frag} {mg : Str → Option Value} {base : Heap}
def sp__law_drawn (K : PySem.W.Frag) : Sp := fun vs H Q _ => ∃ (c : Int), vs = [.int c] ∧ Ret H Q fun H' v => ∃ b s, IsPr K H' v (fun x => IsT K H' x b) (fun y => y = .int s) ∧ DrawnP b s
theorem Drawn.at {ws out : List Int} (h : Drawn ws out) (i : Nat) {w : Int} (hw : ws[i]? = some w) : ∃ x, out[i]? = some x ∧ 0 ≤ x ∧ x < w := by
  have hi : i < out.length := by rw [h.len]; exact (List.getElem?_eq_some_iff.mp hw).1
  exact ⟨_, List.getElem?_eq_getElem hi, h.bd i _ w (List.getElem?_eq_getElem hi) hw⟩
theorem ok__law_drawn (T : Txt K mg) (G__law_draws : FnOk P w K mg base CX0 2 T._law_draws.f T._law_draws.fd ["_law_cell_here", "_law_widths", "_law_prime"] (sp__law_draws K)) :
    FnOk P w K mg base CX0 3 T._law_drawn.f T._law_drawn.fd ["_law_cell_here"] (sp__law_drawn K) := by
  refine T._law_drawn.F.ok sc__law_drawn (fun vs H Q E h => ?_) (fun cdv A outer st H vs Q E hr h => ?_)
  · obtain ⟨c, rfl, _⟩ := h
    rfl
  · obtain ⟨c, rfl, k⟩ := h
    refine ⟨_, (pss_cons (ps_set (i := 1) sc__law_drawn.nd rfl (.inl rfl) (pe_call G__law_draws (hr.mono (by omega)) (by rfl) T._law_draws.g T._law_draws.F.kp T._law_draws.b .nil pass0 (pa_cons (pv 0) (pa_cons (pe_lst (pa_cons pe_int (pa_cons pe_int (pa_cons pe_int (pa_cons pe_int pa_nil))))) (pa_cons pe_int pa_nil)))))
      (pss_cons (ps_if (pt_cmpR op_lt (pe_ix (r := rIxL K) ix_list (pv 1) pe_int (fun _ _ => rfl)) pe_int (nomark _))
        (pss_cons (ps_set (i := 2) sc__law_drawn.nd rfl (.inl rfl) (pe_lst (pa_cons (pe_tup (pa_cons (pe_un un_neg pe_int) (pa_cons pe_int (pa_cons pe_int pa_nil)))) (pa_cons (pe_tup (pa_cons (pe_un un_neg pe_int) (pa_cons (pe_un un_neg pe_int) (pa_cons (pe_un un_neg pe_int) (pa_cons pe_int pa_nil))))) (pa_cons (pe_tup (pa_cons pe_int (pa_cons pe_int (pa_cons pe_int pa_nil)))) (pa_cons (pe_tup (pa_cons (pe_un un_neg pe_int) (pa_cons (pe_un un_neg pe_int) (pa_cons (pe_un un_neg pe_int) (pa_cons pe_int pa_nil))))) (pa_cons (pe_tup (pa_cons (pe_un un_neg pe_int) (pa_cons pe_int (pa_cons pe_int (pa_cons pe_int pa_nil))))) (pa_cons (pe_tup (pa_cons pe_int (pa_cons pe_int (pa_cons (pe_un un_neg pe_int) (pa_cons pe_int (pa_cons pe_int pa_nil)))))) pa_nil))))))))
          (pss_cons (ps_set (i := 2) sc__law_drawn.nd rfl (.inl rfl) (pe_op op_cat (pv 2) (pe_lst (pa_cons (pe_tup (pa_cons pe_int (pa_cons pe_int (pa_cons pe_int (pa_cons pe_int (pa_cons pe_int pa_nil)))))) (pa_cons (pe_tup (pa_cons pe_int (pa_cons pe_int (pa_cons pe_int (pa_cons pe_int (pa_cons pe_int pa_nil)))))) (pa_cons (pe_tup (pa_cons (pe_un un_neg pe_int) (pa_cons pe_int (pa_cons pe_int pa_nil)))) (pa_cons (pe_tup (pa_cons (pe_un un_neg pe_int) (pa_cons pe_int (pa_cons pe_int pa_nil)))) pa_nil)))))))
          (pss_cons (ps_set (i := 2) sc__law_drawn.nd rfl (.inl rfl) (pe_op op_cat (pv 2) (pe_lst (pa_cons (pe_tup (pa_cons pe_int (pa_cons pe_int (pa_cons pe_int (pa_cons pe_int pa_nil))))) (pa_cons (pe_tup (pa_cons pe_int (pa_cons pe_int (pa_cons pe_int (pa_cons pe_int pa_nil))))) pa_nil)))))
          (pss_one (ps_ret (pe_tup (pa_cons (pe_ix (r := rIxL K) ix_list (pv 2) (pe_ix (r := rIxL K) ix_list (pv 1) pe_int (fun _ _ => rfl)) (fun _ _ => rfl)) (pa_cons pe_int pa_nil))))))))
        pss_nil)
      (pss_cons (ps_set (i := 3) sc__law_drawn.nd rfl (.inl rfl) (pe_call G__law_draws (hr.mono (by omega)) (by rfl) T._law_draws.g T._law_draws.F.kp T._law_draws.b .nil pass0 (pa_cons (pv 0) (pa_cons (pe_lst (pa_cons pe_int (pa_cons pe_int (pa_cons pe_int (pa_cons pe_int (pa_cons pe_int (pa_cons pe_int (pa_cons pe_int (pa_cons pe_int pa_nil))))))))) (pa_cons pe_int pa_nil)))))
      (pss_cons (ps_setLc (i := 4) (own := [("_law_place", 5)]) (g := gName 5) (by rfl) sc__law_drawn.nd rfl rfl (sw_true rfl rfl rfl (by decide +kernel)) (pi_list (pe_slice (r := rSlL K) sl_list (pv 3) (po_some pe_int) po_none)) (blkOk_by (own := [("_law_place", 5)]) (N := N__law_drawn) (sc := defScope s__law_drawn) (by decide +kernel)) (fun _ _ _ _ _ => pg_name (i := 5) sc__law_drawn.nd rfl (Or.inl rfl)) (fun _ _ _ _ _ => pts_nil) (fun _ _ _ _ _ => (pe_op op_sub (pv 5) pe_int)))
      (pss_cons (ps_if (pt_cmpR op_eq (pe_ix (r := rIxL K) ix_list (pv 1) pe_int (fun _ _ => rfl)) pe_int (nomark _))
        (pss_one (ps_ret (pe_tup (pa_cons (pe_callTy call_tuple_of (by rfl) T.n_tuple (by decide +kernel) (pa_cons (pe_op op_cat (pe_slice (r := rSlL K) sl_list (pv 4) po_none (po_some (pe_op op_sub (pe_ix (r := rIxL K) ix_list (pv 1) pe_int (fun _ _ => rfl)) pe_int))) (pe_lst (pa_cons pe_int pa_nil))) pa_nil)) (pa_cons pe_int pa_nil)))))
        pss_nil)
      (pss_cons (ps_if (pt_cmpR op_eq (pe_ix (r := rIxL K) ix_list (pv 1) pe_int (fun _ _ => rfl)) pe_int (nomark _))
        (pss_one (ps_ret (pe_tup (pa_cons (pe_tup (pa_cons (pe_ix (r := rIxL K) ix_list (pv 4) pe_int (fun _ _ => rfl)) (pa_cons (pe_op op_sub (pe_op op_mod (pe_ix (r := rIxL K) ix_list (pv 4) pe_int (fun _ _ => rfl)) pe_int) pe_int) (pa_cons pe_int pa_nil)))) (pa_cons pe_int pa_nil)))))
        pss_nil)
      (pss_cons (ps_if (pt_cmpR op_eq (pe_ix (r := rIxL K) ix_list (pv 1) pe_int (fun _ _ => rfl)) pe_int (nomark _))
        (pss_one (ps_ret (pe_tup (pa_cons (pe_callTy call_tuple_of (by rfl) T.n_tuple (by decide +kernel) (pa_cons (pe_op op_cat (pe_lc (own := [("_law_place", 5)]) (g := gName 5) (by rfl) sc__law_drawn.nd (pi_list (pe_slice (r := rSlL K) sl_list (pv 4) po_none (po_some pe_int))) (blkOk_by (own := [("_law_place", 5)]) (N := N__law_drawn) (sc := defScope s__law_drawn) (by decide +kernel)) (fun _ _ _ _ _ => pg_name (i := 5) sc__law_drawn.nd rfl (Or.inl rfl)) (fun _ _ _ _ _ => pts_nil) (fun _ _ _ _ _ => (pe_op op_sub (pe_op op_mod (pv 5) pe_int) pe_int))) (pe_lst (pa_cons pe_int pa_nil))) pa_nil)) (pa_cons (pe_op op_sub (pe_ix (r := rIxL K) ix_list (pv 1) pe_int (fun _ _ => rfl)) pe_int) pa_nil)))))
        pss_nil)
      (pss_one (ps_ret (pe_tup (pa_cons (pe_callTy call_tuple_of (by rfl) T.n_tuple (by decide +kernel) (pa_cons (pe_op op_cat (pe_lc (own := [("_law_place", 5)]) (g := gName 5) (by rfl) sc__law_drawn.nd (pi_list (pv 4)) (blkOk_by (own := [("_law_place", 5)]) (N := N__law_drawn) (sc := defScope s__law_drawn) (by decide +kernel)) (fun _ _ _ _ _ => pg_name (i := 5) sc__law_drawn.nd rfl (Or.inl rfl)) (fun _ _ _ _ _ => pts_nil) (fun _ _ _ _ _ => (pe_op op_sub (pe_op op_mod (pv 5) pe_int) pe_int))) (pe_lst (pa_cons pe_int pa_nil))) pa_nil)) (pa_cons (pe_op op_sub (pe_ix (r := rIxL K) ix_list (pv 1) pe_int (fun _ _ => rfl)) pe_int) pa_nil)))))))))))), ?_⟩
    rw [show L2.start N__law_drawn [V.int c] = [some (.int c), none, none, none, none, none] from rfl]
    try dsimp only [cxOf]
    walk_at "rr"
    refine ⟨by show 4 ≤ sizeLine; decide, fun q n => ?_⟩
    walk_at "rr"
    refine ⟨q, [7, 12, 5, 4], c, 999999757, rfl, .inl (.inl upd_same), by decide, by decide, by decide, fun v H1 e1 r1 => ?_⟩
    obtain ⟨deep, ⟨pd, rfl, hpd⟩, hd⟩ := r1
    obtain ⟨d0, hd0, d0a, d0b⟩ := hd.at 0 rfl
    obtain ⟨d1, hd1, d1a, d1b⟩ := hd.at 1 rfl
    obtain ⟨d2, hd2, d2a, d2b⟩ := hd.at 2 rfl
    obtain ⟨d3, hd3, d3a, d3b⟩ := hd.at 3 rfl
    have e01 : Ex H H1 := (Ex.new n).trans e1
    clear e1 n
    walk_at "rr"
    refine w_ixLn hpd (atI_nat (j := 0) hd0) ?_
    walk_at "rr"
    refine w_ite (fun hlt => ?_) (fun hge => ?_)
    · walk_at "rn"
      refine eu_tup (vs := [.int (-1), .int (199), .int (1)]) (ea_cons (ev_un ev_c ru_neg) (ea_cons ev_c (ea_cons ev_c ea_nil))) (by show 3 ≤ 100000; decide) H1 (Ex.refl H1) _ fun q0 G0 n0 e0 h0 => ?_
      walk_at "rn"
      refine eu_tup (vs := [.int (-1), .int (-14), .int (-11), .int (1)]) (ea_cons (ev_un ev_c ru_neg) (ea_cons (ev_un ev_c ru_neg) (ea_cons (ev_un ev_c ru_neg) (ea_cons ev_c ea_nil)))) (by show 4 ≤ 100000; decide) G0 (Ex.refl G0) _ fun q1 G1 n1 e1 h1 => ?_
      walk_at "rn"
      refine eu_tup (vs := [.int (3), .int (0), .int (1)]) (ea_cons ev_c (ea_cons ev_c (ea_cons ev_c ea_nil))) (by show 3 ≤ 100000; decide) G1 (Ex.refl G1) _ fun q2 G2 n2 e2 h2 => ?_
      walk_at "rn"
      refine eu_tup (vs := [.int (-8), .int (-2), .int (-1), .int (1)]) (ea_cons (ev_un ev_c ru_neg) (ea_cons (ev_un ev_c ru_neg) (ea_cons (ev_un ev_c ru_neg) (ea_cons ev_c ea_nil)))) (by show 4 ≤ 100000; decide) G2 (Ex.refl G2) _ fun q3 G3 n3 e3 h3 => ?_
      walk_at "rn"
      refine eu_tup (vs := [.int (-19), .int (0), .int (0), .int (1)]) (ea_cons (ev_un ev_c ru_neg) (ea_cons ev_c (ea_cons ev_c (ea_cons ev_c ea_nil)))) (by show 4 ≤ 100000; decide) G3 (Ex.refl G3) _ fun q4 G4 n4 e4 h4 => ?_
      walk_at "rn"
      refine eu_tup (vs := [.int (1), .int (0), .int (-1), .int (0), .int (1)]) (ea_cons ev_c (ea_cons ev_c (ea_cons (ev_un ev_c ru_neg) (ea_cons ev_c (ea_cons ev_c ea_nil))))) (by show 5 ≤ 100000; decide) G4 (Ex.refl G4) _ fun q5 G5 n5 e5 h5 => ?_
      walk_at "rn"
      refine ⟨by show 6 ≤ sizeLine; decide, fun L1 m1 => ?_⟩
      have f1 : Ex G5 (upd G5 L1 (.lst [.ref q0, .ref q1, .ref q2, .ref q3, .ref q4, .ref q5])) := Ex.new m1
      have g1 : (upd G5 L1 (.lst [.ref q0, .ref q1, .ref q2, .ref q3, .ref q4, .ref q5])) L1 = some (.lst [.ref q0, .ref q1, .ref q2, .ref q3, .ref q4, .ref q5]) := upd_same
      generalize upd G5 L1 (.lst [.ref q0, .ref q1, .ref q2, .ref q3, .ref q4, .ref q5]) = F1 at f1 g1
      walk_at "rn"
      refine eu_tup (vs := [.int (5), .int (2), .int (3), .int (2), .int (1)]) (ea_cons ev_c (ea_cons ev_c (ea_cons ev_c (ea_cons ev_c (ea_cons ev_c ea_nil))))) (by show 5 ≤ 100000; decide) F1 (Ex.refl F1) _ fun q6 G6 n6 e6 h6 => ?_
      walk_at "rn"
      refine eu_tup (vs := [.int (1), .int (1), .int (1), .int (1), .int (1)]) (ea_cons ev_c (ea_cons ev_c (ea_cons ev_c (ea_cons ev_c (ea_cons ev_c ea_nil))))) (by show 5 ≤ 100000; decide) G6 (Ex.refl G6) _ fun q7 G7 n7 e7 h7 => ?_
      walk_at "rn"
      refine eu_tup (vs := [.int (-99), .int (199), .int (1)]) (ea_cons (ev_un ev_c ru_neg) (ea_cons ev_c (ea_cons ev_c ea_nil))) (by show 3 ≤ 100000; decide) G7 (Ex.refl G7) _ fun q8 G8 n8 e8 h8 => ?_
      walk_at "rn"
      refine eu_tup (vs := [.int (-100), .int (199), .int (1)]) (ea_cons (ev_un ev_c ru_neg) (ea_cons ev_c (ea_cons ev_c ea_nil))) (by show 3 ≤ 100000; decide) G8 (Ex.refl G8) _ fun q9 G9 n9 e9 h9 => ?_
      walk_at "rn"
      refine ⟨by show 4 ≤ sizeLine; decide, fun L2 m2 => ?_⟩
      have g1' := (e6.trans (e7.trans (e8.trans (e9.trans (Ex.new (o := .lst [.ref q6, .ref q7, .ref q8, .ref q9]) m2))))) _ _ g1
      refine ⟨L1, L2, _, _, rfl, rfl, g1', upd_same, by show 6 + 4 ≤ sizeLine; decide, fun L3 m3 => ?_⟩
      have f2 : Ex G9 (upd (upd G9 L2 (.lst [.ref q6, .ref q7, .ref q8, .ref q9])) L3 (.lst [.ref q0, .ref q1, .ref q2, .ref q3, .ref q4, .ref q5, .ref q6, .ref q7, .ref q8, .ref q9])) := (Ex.new m2).trans (Ex.new m3)
      have g2 : (upd (upd G9 L2 (.lst [.ref q6, .ref q7, .ref q8, .ref q9])) L3 (.lst [.ref q0, .ref q1, .ref q2, .ref q3, .ref q4, .ref q5, .ref q6, .ref q7, .ref q8, .ref q9])) L3 = some (.lst [.ref q0, .ref q1, .ref q2, .ref q3, .ref q4, .ref q5, .ref q6, .ref q7, .ref q8, .ref q9]) := upd_same
      rw [show [V.ref q0, .ref q1, .ref q2, .ref q3, .ref q4, .ref q5] ++ [.ref q6, .ref q7, .ref q8, .ref q9] = [.ref q0, .ref q1, .ref q2, .ref q3, .ref q4, .ref q5, .ref q6, .ref q7, .ref q8, .ref q9] from rfl]
      generalize (upd (upd G9 L2 (.lst [.ref q6, .ref q7, .ref q8, .ref q9])) L3 (.lst [.ref q0, .ref q1, .ref q2, .ref q3, .ref q4, .ref q5, .ref q6, .ref q7, .ref q8, .ref q9])) = F2 at f2 g2
      walk_at "rn"
      refine eu_tup (vs := [.int (38), .int (6), .int (0), .int (1)]) (ea_cons ev_c (ea_cons ev_c (ea_cons ev_c (ea_cons ev_c ea_nil)))) (by show 4 ≤ 100000; decide) F2 (Ex.refl F2) _ fun q10 G10 n10 e10 h10 => ?_
      walk_at "rn"
      refine eu_tup (vs := [.int (38), .int (7), .int (0), .int (1)]) (ea_cons ev_c (ea_cons ev_c (ea_cons ev_c (ea_cons ev_c ea_nil)))) (by show 4 ≤ 100000; decide) G10 (Ex.refl G10) _ fun q11 G11 n11 e11 h11 => ?_
      walk_at "rn"
      refine ⟨by show 2 ≤ sizeLine; decide, fun L4 m4 => ?_⟩
      have g2' := (e10.trans (e11.trans (Ex.new (o := .lst [.ref q10, .ref q11]) m4))) _ _ g2
      refine ⟨L3, L4, _, _, rfl, rfl, g2', upd_same, by show 10 + 2 ≤ sizeLine; decide, fun L5 m5 => ?_⟩
      have f3 : Ex G11 (upd (upd G11 L4 (.lst [.ref q10, .ref q11])) L5 (.lst [.ref q0, .ref q1, .ref q2, .ref q3, .ref q4, .ref q5, .ref q6, .ref q7, .ref q8, .ref q9, .ref q10, .ref q11])) := (Ex.new m4).trans (Ex.new m5)
      have g3 : (upd (upd G11 L4 (.lst [.ref q10, .ref q11])) L5 (.lst [.ref q0, .ref q1, .ref q2, .ref q3, .ref q4, .ref q5, .ref q6, .ref q7, .ref q8, .ref q9, .ref q10, .ref q11])) L5 = some (.lst [.ref q0, .ref q1, .ref q2, .ref q3, .ref q4, .ref q5, .ref q6, .ref q7, .ref q8, .ref q9, .ref q10, .ref q11]) := upd_same
      rw [show [V.ref q0, .ref q1, .ref q2, .ref q3, .ref q4, .ref q5, .ref q6, .ref q7, .ref q8, .ref q9] ++ [.ref q10, .ref q11] = [.ref q0, .ref q1, .ref q2, .ref q3, .ref q4, .ref q5, .ref q6, .ref q7, .ref q8, .ref q9, .ref q10, .ref q11] from rfl]
      generalize (upd (upd G11 L4 (.lst [.ref q10, .ref q11])) L5 (.lst [.ref q0, .ref q1, .ref q2, .ref q3, .ref q4, .ref q5, .ref q6, .ref q7, .ref q8, .ref q9, .ref q10, .ref q11])) = F3 at f3 g3
      have x14 := f3
      have x13 := e11.trans x14
      have x12 := e10.trans x13
      have x11 := f2.trans x12
      have x10 := e9.trans x11
      have x9 := e8.trans x10
      have x8 := e7.trans x9
      have x7 := e6.trans x8
      have x6 := f1.trans x7
      have x5 := e5.trans x6
      have x4 := e4.trans x5
      have x3 := e3.trans x4
      have x2 := e2.trans x3
      have x1 := e1.trans x2
      have x0 := e0.trans x1
      have hall : AllR (IsT K F3) [.ref q0, .ref q1, .ref q2, .ref q3, .ref q4, .ref q5, .ref q6, .ref q7, .ref q8, .ref q9, .ref q10, .ref q11] named := (AllR.cons ⟨q0, rfl, ex_t x1 (.inl (.inl h0))⟩ (AllR.cons ⟨q1, rfl, ex_t x2 (.inl (.inl h1))⟩ (AllR.cons ⟨q2, rfl, ex_t x3 (.inl (.inl h2))⟩ (AllR.cons ⟨q3, rfl, ex_t x4 (.inl (.inl h3))⟩ (AllR.cons ⟨q4, rfl, ex_t x5 (.inl (.inl h4))⟩ (AllR.cons ⟨q5, rfl, ex_t x6 (.inl (.inl h5))⟩ (AllR.cons ⟨q6, rfl, ex_t x8 (.inl (.inl h6))⟩ (AllR.cons ⟨q7, rfl, ex_t x9 (.inl (.inl h7))⟩ (AllR.cons ⟨q8, rfl, ex_t x10 (.inl (.inl h8))⟩ (AllR.cons ⟨q9, rfl, ex_t x11 (.inl (.inl h9))⟩ (AllR.cons ⟨q10, rfl, ex_t x13 (.inl (.inl h10))⟩ (AllR.cons ⟨q11, rfl, ex_t x14 (.inl (.inl h11))⟩ AllR.nil))))))))))))
      walk_at "rn"
      refine w_tup ?_
      walk_at "rn"
      refine w_ixLn (ex_l x0 hpd) (atI_nat (j := 1) hd1) ?_
      have hn12 : d1.toNat < named.length := by show d1.toNat < 12; omega
      obtain ⟨y, hy, ry⟩ := hall.get (List.getElem?_eq_getElem hn12)
      refine w_ixL (.inl (.inl g3)) (atI_of d1a hy) ?_
      walk_at "rn"
      refine ⟨by show 2 ≤ sizeLine; decide, fun q9' n9' => ?_⟩
      exact k _ _ (e01.trans (x0.trans (Ex.new n9'))) ⟨_, 0, ⟨q9', _, _, rfl, .inl (.inl upd_same), ry.ex (Ex.new n9'), rfl⟩, drawn0 (named_poly _ (List.getElem_mem hn12))⟩
    · walk_at "rr"
      refine ⟨by show 8 ≤ sizeLine; decide, fun q2 n2 => ?_⟩
      walk_at "rr"
      refine ⟨q2, [7, 12, 5, 4, 999, 999, 999, 999], c, 999999757, rfl, .inl (.inl upd_same), by decide, by decide, by decide, fun v H2 e2 r2 => ?_⟩
      obtain ⟨found, ⟨pf, rfl, hpf⟩, hf⟩ := r2
      have e12 : Ex H1 H2 := (Ex.new n2).trans e2
      clear e2 n2
      obtain ⟨y4, hy4, b4⟩ := hf.at 4 rfl
      obtain ⟨y5, hy5, b5⟩ := hf.at 5 rfl
      obtain ⟨y6, hy6, b6⟩ := hf.at 6 rfl
      obtain ⟨y7, hy7, b7⟩ := hf.at 7 rfl
      have ef : found.drop 4 = [y4, y5, y6, y7] := by
        have hl := hf.len
        match found, hl with
        | [x0, x1, x2, x3, x4, x5, x6, x7], _ =>
          cases hy4; cases hy5; cases hy6; cases hy7
          rfl
      walk_at "rr"
      refine ⟨pf, _, rfl, hpf, fun q3 n3 => ?_⟩
      have h3 : SqL K (upd H2 q3 (.lst (cutV (found.map V.int) (some 4) none))) q3 ([y4, y5, y6, y7].map V.int) := by
        refine .inl (.inl ?_)
        rw [upd_same, show (4 : Int) = ((4 : Nat) : Int) from rfl, cutV_from _ (by rw [List.length_map, hf.len]; decide), ← List.map_drop, ef]
      have e23 : Ex H2 (upd H2 q3 (.lst (cutV (found.map V.int) (some 4) none))) := Ex.new n3
      generalize upd H2 q3 (.lst (cutV (found.map V.int) (some 4) none)) = H3 at h3 e23
      refine c_list (zs := [y4, y5, y6, y7]) (G := V.int) (fun _ => true) (fun z => .int (z - 499)) h3 (by show 4 ≤ 50000; decide) (fun _ => rfl) (fun z _ => gives_yes) (fun z _ _ H6 e6 Q' q' => ?_) (fun D H4 hD e34 hacc => ?_)
      · walk_at "rr"
        exact q' H6 (Ex.refl H6)
      rw [lcAcc_all] at hacc
      have hacc : H4 D = some (.lst ([y4 - 499, y5 - 499, y6 - 499, y7 - 499].map V.int)) := hacc
      have hz : ∃ z4 z5 z6 z7, [y4 - 499, y5 - 499, y6 - 499, y7 - 499] = [z4, z5, z6, z7] ∧ (-499 ≤ z4 ∧ z4 ≤ 499) ∧ (-499 ≤ z5 ∧ z5 ≤ 499) ∧ (-499 ≤ z6 ∧ z6 ≤ 499) ∧ (-499 ≤ z7 ∧ z7 ≤ 499) :=
        ⟨_, _, _, _, rfl, by omega, by omega, by omega, by omega⟩
      obtain ⟨z4, z5, z6, z7, ez, c4, c5, c6, c7⟩ := hz
      rw [ez] at hacc
      clear ez hy4 hy5 hy6 hy7 b4 b5 b6 b7 ef h3
      have e14 : Ex H1 H4 := e12.trans (e23.trans e34)
      have e04 := e01.trans e14
      walk_at "rr"
      refine w_ixLn (ex_l e14 hpd) (atI_nat (j := 3) hd3) ?_
      walk_at "rr"
      refine w_ite (fun h3z => ?_) (fun h3z => ?_)
      · walk_at "rr"
        refine w_ixLn (ex_l e14 hpd) (atI_nat (j := 0) hd0) ?_
        walk_at "rr"
        refine ⟨D, _, rfl, .inl (.inl hacc), fun q5 n5 => ?_⟩
        walk_at "rr"
        refine ⟨by show 1 ≤ sizeLine; decide, fun q6 n6 => ?_⟩
        have hm : d0 - 2 = (((d0 - 2).toNat : Nat) : Int) := by omega
        have hml : 2 ≤ (d0 - 2).toNat ∧ (d0 - 2).toNat ≤ 4 := by omega
        rw [hm] at n6 ⊢
        generalize (d0 - 2).toNat = mm at hml n6 ⊢
        rw [cutV_to _ (by show mm ≤ 4; exact hml.2), ← List.map_take] at n6 ⊢
        refine ⟨q5, q6, _, _, rfl, rfl, (Ex.new n6) _ _ upd_same, upd_same, ?_, fun q7 n7 => ?_⟩
        · refine Nat.le_of_lt (small1000 ?_)
          rw [List.length_map, List.length_take]
          show min mm 4 + 1 ≤ 1000
          omega
        walk_at "rr"
        refine ⟨q7, _, rfl, .inl ⟨.inl (.inl upd_same), fun q8 n8 => ?_⟩⟩
        walk_at "rr"
        refine ⟨by show 2 ≤ sizeLine; decide, fun q9 n9 => ?_⟩
        refine k _ _ (e04.trans ((Ex.new n5).trans ((Ex.new n6).trans ((Ex.new n7).trans ((Ex.new n8).trans (Ex.new n9)))))) ⟨[z4, z5, z6, z7].take mm ++ [1], 0, ⟨q9, _, _, rfl, .inl (.inl upd_same), ⟨q8, rfl, ex_t (Ex.new n9) (.inl (.inl ?_))⟩, rfl⟩, drawn0 (isPoly_of _ ?_ ?_ fun c hc => ?_)⟩
        · rw [upd_same, List.map_append]
          rfl
        · rw [List.length_take]; show 2 ≤ min mm 4; omega
        · rw [List.length_take]; show min mm 4 ≤ 4; omega
        · have := List.mem_of_mem_take hc
          simp only [List.mem_cons, List.not_mem_nil, or_false] at this
          rcases this with rfl | rfl | rfl | rfl <;> assumption
      · walk_at "rr"
        refine w_ixLn (ex_l e14 hpd) (atI_nat (j := 0) hd0) ?_
        walk_at "rr"
        refine w_ite (fun h4 => ?_) (fun h4 => ?_)
        · walk_at "rr"
          refine w_ixLn (.inl (.inl hacc)) (atI_nat (j := 0) rfl) ?_
          walk_at "rr"
          refine w_ixLn (.inl (.inl hacc)) (atI_nat (j := 1) rfl) ?_
          walk_at "rr"
          refine w_I (show (0 : Int) < 121 by decide) ?_
          walk_at "rr"
          refine ⟨by show 3 ≤ sizeLine; decide, fun q5 n5 => ?_⟩
          walk_at "rr"
          refine ⟨by show 2 ≤ sizeLine; decide, fun q6 n6 => ?_⟩
          refine k _ _ (e04.trans ((Ex.new n5).trans (Ex.new n6))) ⟨[z4, z5 % 121 - 60, 1], 0, ⟨q6, _, _, rfl, .inl (.inl upd_same), ⟨q5, rfl, ex_t (Ex.new n6) (.inl (.inl upd_same))⟩, rfl⟩, drawn0 (isPoly_of [z4, z5 % 121 - 60] (by show 2 ≤ 2; decide) (by show 2 ≤ 4; decide) fun c hc => ?_)⟩
          simp only [List.mem_cons, List.not_mem_nil, or_false] at hc
          rcases hc with rfl | rfl
          · exact c4
          · omega
        · walk_at "rr"
          refine w_ixLn (ex_l e14 hpd) (atI_nat (j := 0) hd0) ?_
          walk_at "rr"
          refine w_ite (fun h5 => ?_) (fun h5 => ?_)
          · walk_at "rr"
            refine ⟨D, _, rfl, .inl (.inl hacc), fun q5 n5 => ?_⟩
            have h5' : SqL K (upd H4 q5 (.lst (cutV ([z4, z5, z6, z7].map V.int) none (some 3)))) q5 ([z4, z5, z6].map V.int) := by
              refine .inl (.inl ?_)
              rw [upd_same, show (3 : Int) = ((3 : Nat) : Int) from rfl, cutV_to _ (by show 3 ≤ 4; decide)]
              rfl
            have e45 : Ex H4 (upd H4 q5 (.lst (cutV ([z4, z5, z6, z7].map V.int) none (some 3)))) := Ex.new n5
            generalize upd H4 q5 (.lst (cutV ([z4, z5, z6, z7].map V.int) none (some 3))) = H5 at h5' e45
            refine c_list (zs := [z4, z5, z6]) (G := V.int) (fun _ => true) (fun z => .int (z % 19 - 9)) h5' (by show 3 ≤ 50000; decide) (fun _ => rfl) (fun z _ => gives_yes) (fun z _ _ H6 e6 Q' q' => ?_) (fun D2 H6 hD2 e56 hacc2 => ?_)
            · walk_at "rr"
              refine w_I (show (0 : Int) < 19 by decide) ?_
              walk_at "rr"
              exact q' H6 (Ex.refl H6)
            rw [lcAcc_all] at hacc2
            have hacc2 : H6 D2 = some (.lst ([z4 % 19 - 9, z5 % 19 - 9, z6 % 19 - 9].map V.int)) := hacc2
            walk_at "rr"
            refine ⟨by show 1 ≤ sizeLine; decide, fun q6 n6 => ?_⟩
            refine ⟨D2, q6, _, _, rfl, rfl, (Ex.new n6) _ _ hacc2, upd_same, by show 3 + 1 ≤ sizeLine; decide, fun q7 n7 => ?_⟩
            walk_at "rr"
            refine ⟨q7, _, rfl, .inl ⟨.inl (.inl upd_same), fun q8 n8 => ?_⟩⟩
            have e68 := (Ex.new (o := .lst [.int 1]) n6).trans ((Ex.new (o := .lst ([z4 % 19 - 9, z5 % 19 - 9, z6 % 19 - 9].map V.int ++ [.int 1])) n7).trans (Ex.new (o := .tup ([z4 % 19 - 9, z5 % 19 - 9, z6 % 19 - 9].map V.int ++ [.int 1])) n8))
            walk_at "rr"
            refine w_ixLn (ex_l (e14.trans (e45.trans (e56.trans e68))) hpd) (atI_nat (j := 2) hd2) ?_
            walk_at "rr"
            refine ⟨by show 2 ≤ sizeLine; decide, fun q9 n9 => ?_⟩
            exact k _ _ (e04.trans (e45.trans (e56.trans (e68.trans (Ex.new n9))))) ⟨[z4 % 19 - 9, z5 % 19 - 9, z6 % 19 - 9, 1], d2 - 2, ⟨q9, _, _, rfl, .inl (.inl upd_same), ⟨q8, rfl, ex_t (Ex.new n9) (.inl (.inl upd_same))⟩, rfl⟩, drawn4 (by omega) (by omega) (by omega) (by omega)⟩
          · walk_at "rr"
            refine c_list (zs := [z4, z5, z6, z7]) (G := V.int) (fun _ => true) (fun z => .int (z % 9 - 4)) (.inl (.inl hacc)) (by show 4 ≤ 50000; decide) (fun _ => rfl) (fun z _ => gives_yes) (fun z _ _ H6 e6 Q' q' => ?_) (fun D2 H6 hD2 e56 hacc2 => ?_)
            · walk_at "rr"
              refine w_I (show (0 : Int) < 9 by decide) ?_
              walk_at "rr"
              exact q' H6 (Ex.refl H6)
            rw [lcAcc_all] at hacc2
            have hacc2 : H6 D2 = some (.lst ([z4 % 9 - 4, z5 % 9 - 4, z6 % 9 - 4, z7 % 9 - 4].map V.int)) := hacc2
            walk_at "rr"
            refine ⟨by show 1 ≤ sizeLine; decide, fun q6 n6 => ?_⟩
            refine ⟨D2, q6, _, _, rfl, rfl, (Ex.new n6) _ _ hacc2, upd_same, by show 4 + 1 ≤ sizeLine; decide, fun q7 n7 => ?_⟩
            walk_at "rr"
            refine ⟨q7, _, rfl, .inl ⟨.inl (.inl upd_same), fun q8 n8 => ?_⟩⟩
            have e68 := (Ex.new (o := .lst [.int 1]) n6).trans ((Ex.new (o := .lst ([z4 % 9 - 4, z5 % 9 - 4, z6 % 9 - 4, z7 % 9 - 4].map V.int ++ [.int 1])) n7).trans (Ex.new (o := .tup ([z4 % 9 - 4, z5 % 9 - 4, z6 % 9 - 4, z7 % 9 - 4].map V.int ++ [.int 1])) n8))
            walk_at "rr"
            refine w_ixLn (ex_l (e14.trans (e56.trans e68)) hpd) (atI_nat (j := 2) hd2) ?_
            walk_at "rr"
            refine ⟨by show 2 ≤ sizeLine; decide, fun q9 n9 => ?_⟩
            exact k _ _ (e04.trans (e56.trans (e68.trans (Ex.new n9)))) ⟨[z4 % 9 - 4, z5 % 9 - 4, z6 % 9 - 4, z7 % 9 - 4, 1], d2 - 2, ⟨q9, _, _, rfl, .inl (.inl upd_same), ⟨q8, rfl, ex_t (Ex.new n9) (.inl (.inl upd_same))⟩, rfl⟩, drawn5 (by omega) (by omega) (by omega) (by omega) (by omega)⟩
end
end RH

set_option Elab.async false
set_option linter.all false
set_option maxRecDepth 100000
set_option maxHeartbeats 4000000
namespace RH
open PySem PySem.Spec PyProof.Rows L2 Evl
theorem fact_a {c1 c3 a b c d : Int} (F1 : c1 = a * d + c * b) (F3 : c3 = a + c) : c1 - b * c3 = a * (d - b) := by
  subst F1 F3
  grind
theorem fact_c {c1 c3 a b d : Int} (h : c1 - b * c3 = a * (d - b)) : c1 = a * d + (c3 - a) * b := by grind
/-- a of two like lower places is not far -/
theorem fact_near {a c b c2 M : Int} (h : c2 = b + b + a * c) (hM : ∀ x, x = b ∨ x = c2 ∨ x = a + c → -M ≤ x ∧ x ≤ M) : -(2 + 2 * M) ≤ a ∧ a ≤ 2 + 2 * M := by
  have h1 := hM b (.inl rfl)
  have h2 := hM c2 (.inr (.inl rfl))
  have h3 := hM (a + c) (.inr (.inr rfl))
  by_cases q1 : a ≤ 2 + 2 * M
  · by_cases q2 : -(2 + 2 * M) ≤ a
    · exact ⟨q2, q1⟩
    · exfalso
      have p1 : M + 3 ≤ c := by omega
      have p2 : 2 * M + 3 ≤ -a := by omega
      have := Int.mul_le_mul p2 p1 (by omega) (by omega)
      have e : (2 * M + 3) * (M + 3) = 2 * (M * M) + 9 * M + 9 := by grind
      have e2 : -a * c = -(a * c) := Int.neg_mul a c
      have : 0 ≤ M * M := Int.mul_nonneg (by omega) (by omega)
      omega
  · exfalso
    have p1 : M + 3 ≤ -c := by omega
    have p2 : 2 * M + 3 ≤ a := by omega
    have := Int.mul_le_mul p2 p1 (by omega) (by omega)
    have e : (2 * M + 3) * (M + 3) = 2 * (M * M) + 9 * M + 9 := by grind
    have e2 : a * -c = -(a * c) := Int.mul_neg a c
    have : 0 ≤ M * M := Int.mul_nonneg (by omega) (by omega)
    omega
section
local macro_rules | `(tactic| walk_at "rs") => `(tactic| first
  | with_reducible refine w_seq ?_
  | with_reducible refine w_asg ?_
  | ((with_reducible refine' w_var ?h ?_); (case h => exact rfl))
  | with_reducible refine w_c ?_
  | with_reducible refine w_op ?_
  | with_reducible refine w_I0 ?_
  | with_reducible refine w_cb ?_
  | with_reducible refine w_cons ?_
  | with_reducible refine w_nil ?_
  | with_reducible refine w_ret ?_
  | with_reducible refine w_call ?_
  | with_reducible refine w_if ?_
  | with_reducible refine w_test ?_
  | with_reducible refine w_exbl ?_
  | with_reducible refine w_eqI ?_
  | with_reducible refine w_neI ?_
  | with_reducible refine w_next ?_
  | with_reducible refine w_un ?_
  | with_reducible refine w_U ?_
  | with_reducible refine w_B ?_
  | with_reducible refine w_and ?_
  | with_reducible refine w_or ?_
  | with_reducible refine w_not ?_
  | with_reducible refine w_andV ?_
  | with_reducible refine w_notV ?_
  | with_reducible refine w_tup ?_
  | with_reducible refine w_lst ?_
  | with_reducible refine w_for ?_
  | with_reducible refine w_rng1 ?_
  | with_reducible refine w_rng2 ?_
  | with_reducible refine w_rng3 ?_
  | with_reducible refine w_iList ?_
  | with_reducible refine w_iTup ?_
  | with_reducible refine w_iRevA ?_
  | with_reducible refine w_lc ?_
  | with_reducible refine w_drop ?_
  | with_reducible refine w_par ?_
  | ((with_reducible refine' w_aug ?h ?_); (case h => exact rfl))
  | with_reducible refine w_sl ?_
  | with_reducible refine w_noPart ?_
  | with_reducible refine w_part ?_
  | with_reducible refine w_exint ?_
  | with_reducible refine w_revL ?_
  | with_reducible refine w_bm ?_
  | with_reducible refine w_augS ?_
  | with_reducible refine w_ip ?_
  | with_reducible refine w_gSub ?_
  | with_reducible refine w_gName ?_
  | with_reducible refine w_gCons ?_
  | with_reducible refine w_gNil ?_
  | with_reducible refine w_chain ?_
  | with_reducible refine w_asgG ?_)
local macro_rules | `(tactic| walk_at "rr") => `(tactic| repeat walk_at "rs")
local macro_rules | `(tactic| walk_at "rn1") => `(tactic| first
  | with_reducible refine w_seq ?_
  | with_reducible refine w_asg ?_
  | ((with_reducible refine' w_var ?h ?_); (case h => exact rfl))
  | with_reducible refine w_c ?_
  | with_reducible refine w_op ?_
  | with_reducible refine w_I0 ?_
  | with_reducible refine w_cb ?_
  | with_reducible refine w_cons ?_
  | with_reducible refine w_nil ?_
  | with_reducible refine w_ret ?_
  | with_reducible refine w_call ?_
  | with_reducible refine w_if ?_
  | with_reducible refine w_test ?_
  | with_reducible refine w_exbl ?_
  | with_reducible refine w_eqI ?_
  | with_reducible refine w_neI ?_
  | with_reducible refine w_next ?_
  | with_reducible refine w_un ?_
  | with_reducible refine w_U ?_
  | with_reducible refine w_B ?_
  | with_reducible refine w_and ?_
  | with_reducible refine w_or ?_
  | with_reducible refine w_not ?_
  | with_reducible refine w_andV ?_
  | with_reducible refine w_notV ?_
  | with_reducible refine w_lst ?_
  | with_reducible refine w_for ?_
  | with_reducible refine w_rng1 ?_
  | with_reducible refine w_rng2 ?_
  | with_reducible refine w_rng3 ?_
  | with_reducible refine w_iList ?_
  | with_reducible refine w_iTup ?_
  | with_reducible refine w_iRevA ?_
  | with_reducible refine w_lc ?_
  | with_reducible refine w_drop ?_
  | with_reducible refine w_par ?_
  | ((with_reducible refine' w_aug ?h ?_); (case h => exact rfl))
  | with_reducible refine w_sl ?_
  | with_reducible refine w_noPart ?_
  | with_reducible refine w_part ?_
  | with_reducible refine w_exint ?_
  | with_reducible refine w_revL ?_
  | with_reducible refine w_bm ?_
  | with_reducible refine w_augS ?_
  | with_reducible refine w_ip ?_
  | with_reducible refine w_gSub ?_
  | with_reducible refine w_gName ?_
  | with_reducible refine w_gCons ?_
  | with_reducible refine w_gNil ?_
  | with_reducible refine w_chain ?_
  | with_reducible refine w_asgG ?_)
local macro_rules | `(tactic| walk_at "rn") => `(tactic| repeat walk_at "rn1")

variable {P : Program} {w : World} {K : PySem.W.Frag} {mg : Str → Option Value} {base : Heap}
def sp__law_falls (K : PySem.W.Frag) : Sp := fun vs H Q _ => ∃ (p : Addr) (ns : List Int), vs = [.ref p] ∧ SqT K H p (ns.map V.int) ∧ IsPoly ns ∧ Ret H Q fun _ v => ∃ b : Bool, v = .bl b ∧ (b = true ↔ Red ns)
theorem ok__law_falls (T : Txt K mg) (G__law_value : FnOk P w K mg base CX0 1 T._law_value.f T._law_value.fd ["_law_poly", "_law_r"] (sp__law_value K)) :
    FnOk P w K mg base CX0 2 T._law_falls.f T._law_falls.fd ["_law_poly"] (sp__law_falls K) := by
  refine T._law_falls.F.ok sc__law_falls (fun vs H Q E h => ?_) (fun cdv A outer st H vs Q E hr h => ?_)
  · obtain ⟨p, ns, rfl, _⟩ := h
    rfl
  · obtain ⟨p, ns, rfl, hx, hp, k⟩ := h
    have hl := hp.len
    obtain ⟨c, cs, ens⟩ := hp.cons
    have hc : -499 ≤ c ∧ c ≤ 499 := hp.bd (by rw [ens]; exact List.mem_cons_self ..)
    have i0 : ns[0]? = some c := by rw [ens]; rfl
    refine ⟨_, (pss_cons (ps_set (i := 1) sc__law_falls.nd rfl (.inl rfl) (pe_callB call_abs (by rfl) T.n_abs (by decide +kernel) (pa_cons (pe_ix (r := rIxT K) ix_tup (pv 0) pe_int (fun _ _ => rfl)) pa_nil)))
      (pss_cons (ps_if (pt_cmpR op_eq (pv 1) pe_int (nomark _))
        (pss_one (ps_ret pe_bl))
        pss_nil)
      (pss_cons (ps_for PassesOwn.never rfl (pi_range2 (by rfl) T.n_range (pa_cons pe_int (pa_cons (pe_op op_add (pv 1) pe_int) pa_nil))) (pg_name (i := 2) sc__law_falls.nd rfl (.inl rfl))
        (pss_one (ps_if (PW.pt (pw_and (pt_cmpR op_eq (pe_op op_mod (pv 1) (pv 2)) pe_int (nomark _)) (pw_and1 (PW.pt (pw_or (pt_cmpR op_eq (pe_call G__law_value (hr.mono (by omega)) (by rfl) T._law_value.g T._law_value.F.kp T._law_value.b .nil pass0 (pa_cons (pv 0) (pa_cons (pv 2) pa_nil))) pe_int (nomark _)) (pw_or1 (pt_cmpR op_eq (pe_call G__law_value (hr.mono (by omega)) (by rfl) T._law_value.g T._law_value.F.kp T._law_value.b .nil pass0 (pa_cons (pv 0) (pa_cons (pe_un un_neg (pv 2)) pa_nil))) pe_int (nomark _))))))))
            (pss_one (ps_ret pe_bl))
            pss_nil)))
      (pss_cons (ps_if (pt_cmpR op_lt (pe_callB call_len_seq (by rfl) T.n_len (by decide +kernel) (pa_cons (pv 0) pa_nil)) pe_int (nomark _))
        (pss_one (ps_ret pe_bl))
        pss_nil)
      (pss_cons (ps_set (i := 3) sc__law_falls.nd rfl (.inl rfl) (pe_op op_add pe_int (pe_op op_mul pe_int (pe_callB (cr_max rfl) (by rfl) T.n_max (by decide +kernel) (pa_cons (pe_lc (own := [("_law_place", 8)]) (g := gName 8) (by rfl) sc__law_falls.nd (pi_tup (pv 0)) (blkOk_by (own := [("_law_place", 8)]) (N := N__law_falls) (sc := defScope s__law_falls) (by decide +kernel)) (fun _ _ _ _ _ => pg_name (i := 8) sc__law_falls.nd rfl (Or.inl rfl)) (fun _ _ _ _ _ => pts_nil) (fun _ _ _ _ _ => (pe_callB call_abs (by rfl) T.n_abs (by decide +kernel) (pa_cons (pv 8) pa_nil)))) pa_nil)))))
      (pss_cons (ps_for PassesOwn.never rfl (pi_range2 (by rfl) T.n_range (pa_cons (pe_un un_neg (pv 1)) (pa_cons (pe_op op_add (pv 1) pe_int) pa_nil))) (pg_name (i := 4) sc__law_falls.nd rfl (.inl rfl))
        (pss_one (ps_if (PW.pt (pw_and (pt_cmpR op_ne (pv 4) pe_int (nomark _)) (pw_and1 (pt_cmpR op_eq (pe_op op_modN (pv 1) (pv 4)) pe_int (nomark _)))))
            (pss_cons (ps_set (i := 5) sc__law_falls.nd rfl (.inl rfl) (pe_op op_fdivN (pe_ix (r := rIxT K) ix_tup (pv 0) pe_int (fun _ _ => rfl)) (pv 4)))
              (pss_cons (ps_set (i := 6) sc__law_falls.nd rfl (.inl rfl) (pe_op op_sub (pe_ix (r := rIxT K) ix_tup (pv 0) pe_int (fun _ _ => rfl)) (pe_op op_mul (pv 4) (pe_ix (r := rIxT K) ix_tup (pv 0) pe_int (fun _ _ => rfl)))))
              (pss_cons (ps_if (PW.pt (pw_and (pt_cmpR op_ne (pv 5) (pv 4) (nomark _)) (pw_and1 (pt_cmpR op_eq (pe_op op_modN (pv 6) (pe_op op_sub (pv 5) (pv 4))) pe_int (nomark _)))))
                (pss_cons (ps_set (i := 7) sc__law_falls.nd rfl (.inl rfl) (pe_op op_fdivN (pv 6) (pe_op op_sub (pv 5) (pv 4))))
                  (pss_one (ps_if (pt_cmpR op_eq (pe_op op_add (pe_op op_add (pv 4) (pv 5)) (pe_op op_mul (pv 7) (pe_op op_sub (pe_ix (r := rIxT K) ix_tup (pv 0) pe_int (fun _ _ => rfl)) (pv 7)))) (pe_ix (r := rIxT K) ix_tup (pv 0) pe_int (fun _ _ => rfl)) (nomark _))
                    (pss_one (ps_ret pe_bl))
                    pss_nil)))
                pss_nil)
              (pss_one (ps_if (PW.pt (pw_and (pt_cmpR op_eq (pv 5) (pv 4) (nomark _)) (pw_and1 (pt_cmpR op_eq (pv 6) pe_int (nomark _)))))
                (pss_one (ps_for PassesOwn.never rfl (pi_range2 (by rfl) T.n_range (pa_cons (pe_un un_neg (pv 3)) (pa_cons (pe_op op_add (pv 3) pe_int) pa_nil))) (pg_name (i := 7) sc__law_falls.nd rfl (.inl rfl))
                    (pss_one (ps_if (pt_cmpR op_eq (pe_op op_add (pe_op op_mul pe_int (pv 4)) (pe_op op_mul (pv 7) (pe_op op_sub (pe_ix (r := rIxT K) ix_tup (pv 0) pe_int (fun _ _ => rfl)) (pv 7)))) (pe_ix (r := rIxT K) ix_tup (pv 0) pe_int (fun _ _ => rfl)) (nomark _))
                        (pss_one (ps_ret pe_bl))
                        pss_nil))))
                pss_nil)))))
            pss_nil)))
      (pss_one (ps_ret pe_bl)))))))), ?_⟩
    rw [show L2.start N__law_falls [V.ref p] = [some (.ref p), none, none, none, none, none, none, none, none] from rfl]
    try dsimp only [cxOf]
    walk_at "rr"
    refine w_ixTn hx (atI_nat (j := 0) i0) ?_
    walk_at "rr"
    refine ⟨_, rfl, ?_⟩
    rw [show (if c < 0 then -c else c) = ((c.natAbs : Nat) : Int) by split <;> omega]
    walk_at "rr"
    refine w_ite (fun h0 => ?_) (fun h0 => ?_)
    · walk_at "rr"
      refine k _ _ (Ex.refl H) ⟨true, rfl, fun _ => .inl ⟨0, ?_⟩, fun _ => rfl⟩
      rw [ens, evalP_cons]
      omega
    · walk_at "rr"
      refine f_r2 (by omega) (by omega) (by omega) (by omega) (fun i σ' H' => ∃ y2, σ' = [some (.ref p), some (.int ((c.natAbs : Nat) : Int)), y2, none, none, none, none, none, none] ∧ Ex H H' ∧ ∀ r : Int, r.natAbs ≤ i → evalP ns r ≠ 0)
        ⟨none, rfl, Ex.refl H, fun r hr h => ?_⟩ (fun i σ' H' hi hq => ?_) (fun σ' H' hq => ?_)
      · have e : r = 0 := by omega
        rw [e, ens, evalP_cons] at h
        omega
      · obtain ⟨y2, rfl, e, hn⟩ := hq
        have hno : ¬ ((1 + (i : Int)) ∣ c) ∨ (evalP ns (1 + (i : Int)) ≠ 0 ∧ evalP ns (-(1 + (i : Int))) ≠ 0) → ∀ r : Int, r.natAbs ≤ i + 1 → evalP ns r ≠ 0 := by
          intro hh r hr h
          by_cases hri : r.natAbs ≤ i
          · exact hn r hri h
          · have e2 : r = 1 + (i : Int) ∨ r = -(1 + (i : Int)) := by omega
            have hd : r ∣ c := root_dvd (by rw [← ens]; exact h)
            rcases hh with hh | hh
            · rcases e2 with e2 | e2
              · rw [e2] at hd; exact hh hd
              · rw [e2] at hd; exact hh (Int.neg_dvd.mp hd)
            · rcases e2 with e2 | e2
              · rw [e2] at h; exact hh.1 h
              · rw [e2] at h; exact hh.2 h
        walk_at "rr"
        refine w_I (show (0 : Int) < 1 + (i : Int) by omega) ?_
        walk_at "rr"
        refine w_ite (fun hd => ?_) (fun hd => ?_)
        · walk_at "rr"
          refine ⟨p, ns, 1 + (i : Int), rfl, ex_t e hx, ⟨by omega, by omega⟩, fun v H1 e1 r1 => ?_⟩
          subst r1
          walk_at "rr"
          refine w_ite (fun h1 => ?_) (fun h1 => ?_)
          · refine iteT ?_
            walk_at "rr"
            exact k _ _ (e.trans e1) ⟨true, rfl, fun _ => .inl ⟨_, h1⟩, fun _ => rfl⟩
          · walk_at "rr"
            refine ⟨p, ns, -(1 + (i : Int)), rfl, ex_t (e.trans e1) hx, ⟨by omega, by omega⟩, fun v H2 e2 r2 => ?_⟩
            subst r2
            walk_at "rr"
            refine w_ite (fun h2 => ?_) (fun h2 => ?_)
            · walk_at "rr"
              exact k _ _ (e.trans (e1.trans e2)) ⟨true, rfl, fun _ => .inl ⟨_, h2⟩, fun _ => rfl⟩
            · walk_at "rr"
              exact ⟨_, rfl, e.trans (e1.trans e2), hno (.inr ⟨h1, h2⟩)⟩
        · refine iteF ?_
          walk_at "rr"
          refine ⟨_, rfl, e, hno (.inl fun z => hd ?_)⟩
          exact Int.emod_eq_zero_of_dvd (Int.dvd_natAbs.mpr z)
      · obtain ⟨y2, rfl, e, hn⟩ := hq
        have hnoroot : ∀ r, evalP ns r ≠ 0 := fun r h => by
          refine hn r ?_ h
          have := dvd_bound (r := r) (c := c) (root_dvd (by rw [← ens]; exact h)) (by omega)
          omega
        walk_at "rr"
        refine ⟨p, _, rfl, .inr (ex_t e hx), ?_⟩
        rw [List.length_map]
        walk_at "rr"
        refine w_ite (fun h5 => ?_) (fun h5 => ?_)
        · walk_at "rr"
          refine k _ _ e ⟨false, rfl, (fun z => by cases z), fun z => ?_⟩
          rcases z with ⟨r, hr0⟩ | ⟨x0, x1, x2, x3, a, b, c, d, ex, F⟩
          · exact absurd hr0 (hnoroot r)
          · rw [ex] at h5
            exact absurd h5 (by show ¬ ((5 : Nat) : Int) < 5; decide)
        · obtain ⟨c0, c1, c2, c3, rfl⟩ := hp.five (by omega)
          have ec : c0 = c := Option.some.inj i0
          subst ec
          have bc : ∀ x ∈ [c0, c1, c2, c3, 1], -499 ≤ x ∧ x ≤ 499 := fun x hx => hp.bd hx
          have b1 := bc c1 (by simp)
          have b2 := bc c2 (by simp)
          have b3 := bc c3 (by simp)
          have n0 : c0 ≠ 0 := by omega
          walk_at "rr"
          refine c_tup (zs := [c0, c1, c2, c3, 1]) (G := V.int) (fun _ => true) (fun z => .int (if z < 0 then -z else z)) (ex_t e hx) (by show 5 ≤ 50000; decide) (fun _ => rfl) (fun z _ => gives_yes) (fun z _ _ H6 e6 Q' q' => ?_) (fun D H6 hD e6 hacc => ?_)
          · walk_at "rr"
            exact ⟨z, rfl, q' H6 (Ex.refl H6)⟩
          rw [lcAcc_all] at hacc
          walk_at "rr"
          refine ⟨D, [c0, c1, c2, c3, 1].map fun z => if z < 0 then -z else z, rfl, .inl (.inl (by rw [hacc, List.map_map] <;> rfl)), by show 0 < 5; decide, fun M hM hmax => ?_⟩
          have hM0 : 1 ≤ M ∧ M ≤ 499 := by
            have := hmax 1 (by simp)
            refine ⟨this, ?_⟩
            obtain ⟨z, hz, rfl⟩ := List.mem_map.mp hM
            have := bc z hz
            split <;> omega
          have hMc : ∀ z ∈ [c0, c1, c2, c3, 1], -M ≤ z ∧ z ≤ M := fun z hz => by
            have := hmax _ (List.mem_map.mpr ⟨z, hz, rfl⟩)
            split at this <;> omega
          have hx6 := ex_t (e.trans e6) hx
          have e06 := e.trans e6
          walk_at "rr"
          refine w_I (w_CMul1 (by decide) (by decide)) ?_
          walk_at "rr"
          have j0 : atI [c0, c1, c2, c3, 1] 0 = some c0 := rfl
          have j1 : atI [c0, c1, c2, c3, 1] 1 = some c1 := rfl
          have j2 : atI [c0, c1, c2, c3, 1] 2 = some c2 := rfl
          have j3 : atI [c0, c1, c2, c3, 1] 3 = some c3 := rfl
          have redF : ∀ a b c d, Fact c0 c1 c2 c3 a b c d → Red [c0, c1, c2, c3, 1] := fun a b c d F => .inr ⟨_, _, _, _, _, _, _, _, rfl, F⟩
          refine f_r2 (by omega) (by omega) (by omega) (by omega) (fun i σ' H' => ∃ y2 y4 y5 y6 y7 y8, σ' = [some (.ref p), some (.int ((c0.natAbs : Nat) : Int)), y2, some (.int (2 + 2 * M)), y4, y5, y6, y7, y8] ∧ Ex H H' ∧ ∀ b : Int, -(c0.natAbs : Int) ≤ b → b < -(c0.natAbs : Int) + i → b ≠ 0 → ∀ a c d, ¬ Fact c0 c1 c2 c3 a b c d)
            ⟨_, none, none, none, none, none, rfl, e06, fun b q1 q2 => by omega⟩ (fun i σ' H' hi hq => ?_) (fun σ' H' hq => ?_)
          · obtain ⟨y2, y4, y5, y6, y7, y8, rfl, e', hnb⟩ := hq
            have hnext : ∀ b : Int, b = -(c0.natAbs : Int) + i → (b ≠ 0 → ∀ a c d, ¬ Fact c0 c1 c2 c3 a b c d) → ∀ b : Int, -(c0.natAbs : Int) ≤ b → b < -(c0.natAbs : Int) + (i + 1 : Nat) → b ≠ 0 → ∀ a c d, ¬ Fact c0 c1 c2 c3 a b c d := by
              intro b hb h b' q1 q2 q3
              by_cases hbi : b' < -(c0.natAbs : Int) + i
              · exact hnb b' q1 hbi q3
              · have : b' = b := by omega
                subst this
                exact h q3
            have hbb : -499 ≤ -(c0.natAbs : Int) + i ∧ -(c0.natAbs : Int) + i ≤ 499 ∧ -(c0.natAbs : Int) + i ≤ c0.natAbs ∧ -(c0.natAbs : Int) ≤ -(c0.natAbs : Int) + i := by omega
            generalize hbe : -(c0.natAbs : Int) + (i : Int) = b at hbb
            have hnext := hnext b hbe.symm
            walk_at "rr"
            refine w_iteN (fun hb0 => ?_) (fun hb0 => ?_)
            · walk_at "rr"
              refine w_I (show b ≠ 0 from hb0) ?_
              walk_at "rr"
              refine w_ite (fun hm => ?_) (fun hm => ?_)
              · obtain ⟨d, hd⟩ := Int.dvd_natAbs.mp (Int.dvd_of_fmod_eq_zero hm)
                have hdu : ∀ a c d', Fact c0 c1 c2 c3 a b c d' → d' = d := fun a c d' F => Int.eq_of_mul_eq_mul_left hb0 (F.f0.symm.trans hd)
                have ld : d.natAbs ≤ c0.natAbs := dvd_bound ⟨b, by rw [Int.mul_comm]; exact hd⟩ n0
                walk_at "rr"
                refine w_ixTn (ex_t e' hx) j0 ?_
                walk_at "rr"
                refine w_I (show CDivN _ _ from ⟨hb0, by omega⟩) ?_
                rw [fdiv_at hb0 (by rw [Int.mul_comm]; exact hd)]
                walk_at "rr"
                refine w_ixTn (ex_t e' hx) j1 ?_
                walk_at "rr"
                refine w_ixTn (ex_t e' hx) j3 ?_
                refine w_I (w_CMul1 (by omega) (by omega)) ?_
                have m1 := mul_bound (a := b) (b := c3) (A := 499) (B := 499) (by omega) (by omega)
                walk_at "rr"
                have second : (d ≠ b → ∀ a c d, ¬ Fact c0 c1 c2 c3 a b c d) → ∀ (y7 : Option V) (bk ct : L2.St → Hp → Prop),
                    tIfS (tAnd (tTest (tOp rEq (tVar 5) (tVar 4))) (tTest (tOp rEq (tVar 6) (tC (V.int 0)))))
                      (tFor (iRng2 (tCons (tUn (rU fun i => V.int (-i)) (tVar 3)) (tCons (tOp (rI0 fun i j => V.int (i + j)) (tVar 3) (tC (V.int 1))) tNil))) (gName 7)
                        (tIfS (tTest (tOp rEq (tOp (rI0 fun i j => V.int (i + j)) (tOp (rI CMul fun i j => V.int (i * j)) (tC (V.int 2)) (tVar 4)) (tOp (rI CMul fun i j => V.int (i * j)) (tVar 7) (tOp (rI0 fun i j => V.int (i - j)) (tOp (rIxT K) (tVar 0) (tC (V.int 3))) (tVar 7)))) (tOp (rIxT K) (tVar 0) (tC (V.int 2)))))
                          (tRet (tC (V.bl true))) tNext)) tNext
                      ⟨fun σ' H' => ∃ y2 y4 y5 y6 y7 y8, σ' = [some (.ref p), some (.int ((c0.natAbs : Nat) : Int)), y2, some (.int (2 + 2 * M)), y4, y5, y6, y7, y8] ∧ Ex H H' ∧ ∀ b : Int, -(c0.natAbs : Int) ≤ b → b < -(c0.natAbs : Int) + (i + 1 : Nat) → b ≠ 0 → ∀ a c d, ¬ Fact c0 c1 c2 c3 a b c d, Q, bk, ct⟩
                      [some (.ref p), some (.int ((c0.natAbs : Nat) : Int)), y2, some (.int (2 + 2 * M)), some (.int b), some (.int d), some (.int (c1 - b * c3)), y7, y8] H' := by
                  intro hn y7 bk ct
                  walk_at "rr"
                  refine w_ite (fun hdb => ?_) (fun hdb => ?_)
                  · walk_at "rr"
                    refine w_ite (fun hp0 => ?_) (fun hp0 => ?_)
                    · walk_at "rr"
                      refine f_r2 (by omega) (by omega) (by omega) (by omega) (fun j σ' H' => ∃ y7, σ' = [some (.ref p), some (.int ((c0.natAbs : Nat) : Int)), y2, some (.int (2 + 2 * M)), some (.int b), some (.int d), some (.int (c1 - b * c3)), y7, y8] ∧ Ex H H' ∧ ∀ a : Int, -(2 + 2 * M) ≤ a → a < -(2 + 2 * M) + j → 2 * b + a * (c3 - a) ≠ c2)
                        ⟨y7, rfl, e', fun a q1 q2 => by omega⟩ (fun j σ' H' hj hq => ?_) (fun σ' H' hq => ?_)
                      · obtain ⟨y7, rfl, e', hna⟩ := hq
                        have hanext : ∀ a : Int, a = -(2 + 2 * M) + j → 2 * b + a * (c3 - a) ≠ c2 → ∀ a : Int, -(2 + 2 * M) ≤ a → a < -(2 + 2 * M) + (j + 1 : Nat) → 2 * b + a * (c3 - a) ≠ c2 := by
                          intro a ha h a' q1 q2
                          by_cases haj : a' < -(2 + 2 * M) + j
                          · exact hna a' q1 haj
                          · have : a' = a := by omega
                            subst this
                            exact h
                        have hab : -1000 ≤ -(2 + 2 * M) + (j : Int) ∧ -(2 + 2 * M) + (j : Int) ≤ 1000 := by omega
                        generalize hae : -(2 + 2 * M) + (j : Int) = a at hab
                        have hanext := hanext a hae.symm
                        walk_at "rr"
                        refine w_I (w_CMul1 (by decide) (by decide)) ?_
                        walk_at "rr"
                        refine w_ixTn (ex_t e' hx) j3 ?_
                        walk_at "rr"
                        refine w_I (w_CMul1 (by omega) (by omega)) ?_
                        walk_at "rr"
                        refine w_ixTn (ex_t e' hx) j2 ?_
                        walk_at "rr"
                        refine w_ite (fun hyes => ?_) (fun hno => ?_)
                        · walk_at "rr"
                          subst hdb
                          refine k _ _ e' ⟨true, rfl, fun _ => redF a d (c3 - a) d ⟨hd, ?_, by omega, by omega⟩, fun _ => rfl⟩
                          rw [Int.sub_mul, Int.mul_comm c3 d]
                          omega
                        · walk_at "rr"
                          exact ⟨_, rfl, e', hanext hno⟩
                      · obtain ⟨y7, rfl, e', hna⟩ := hq
                        refine ⟨_, _, _, _, _, _, rfl, e', hnext fun _ a c d' F => ?_⟩
                        have ed := hdu a c d' F
                        subst ed
                        subst hdb
                        have hnear := fact_near (M := M) F.f2 (fun x hx => by
                          rcases hx with rfl | rfl | rfl
                          · have := hMc c0 (by simp); omega
                          · exact hMc x (by simp)
                          · rw [← F.f3]; exact hMc c3 (by simp))
                        refine hna a (by omega) (by omega) ?_
                        have h2 := F.f2
                        have h3 := F.f3
                        rw [show c3 - a = c by omega]
                        omega
                    · refine ⟨_, _, _, _, _, _, rfl, e', hnext fun _ a c d' F => hp0 ?_⟩
                      have ed := hdu a c d' F
                      subst ed
                      rw [fact_a F.f1 F.f3, hdb, Int.sub_self, Int.mul_zero]
                  · refine iteF ?_
                    walk_at "rr"
                    exact ⟨_, _, _, _, _, _, rfl, e', hnext fun _ a c d' F => hn hdb a c d' F⟩
                refine w_iteN (fun hne => ?_) (fun heq => ?_)
                · walk_at "rr"
                  refine w_I (show d - b ≠ 0 by omega) ?_
                  walk_at "rr"
                  refine w_ite (fun hm2 => ?_) (fun hm2 => ?_)
                  · obtain ⟨a, ha⟩ := Int.dvd_of_fmod_eq_zero hm2
                    walk_at "rr"
                    refine w_I (show CDivN _ _ from ⟨by omega, by omega⟩) ?_
                    rw [fdiv_at (k := a) (by omega) (by rw [ha, Int.mul_comm])]
                    have la : a.natAbs ≤ 300000 := by
                      by_cases hz : c1 - b * c3 = 0
                      · rw [hz] at ha
                        rcases Int.mul_eq_zero.mp ha.symm with q | q
                        · omega
                        · omega
                      · have := dvd_bound (r := a) (c := c1 - b * c3) ⟨d - b, by rw [ha, Int.mul_comm]⟩ hz
                        omega
                    walk_at "rr"
                    refine w_ixTn (ex_t e' hx) j3 ?_
                    walk_at "rr"
                    refine w_I (w_CMul1 (by omega) (by omega)) ?_
                    walk_at "rr"
                    refine w_ixTn (ex_t e' hx) j2 ?_
                    walk_at "rr"
                    refine w_ite (fun hyes => ?_) (fun hno => ?_)
                    · walk_at "rr"
                      exact k _ _ e' ⟨true, rfl, fun _ => redF a b (c3 - a) d ⟨hd, fact_c (by rw [ha, Int.mul_comm]), by omega, by omega⟩, fun _ => rfl⟩
                    · refine w_next ?_
                      refine second (fun _ a' c' d' F => hno ?_) _ _ _
                      have ed := hdu a' c' d' F
                      subst ed
                      have e1 : (d' - b) * a' = (d' - b) * a := by rw [← ha, fact_a F.f1 F.f3, Int.mul_comm]
                      have e2 : a' = a := Int.eq_of_mul_eq_mul_left (by omega) e1
                      subst e2
                      have h2 := F.f2
                      have h3 := F.f3
                      rw [show c3 - a' = c' by omega]
                      omega
                  · refine w_next ?_
                    refine second (fun _ a' c' d' F => hm2 ?_) _ _ _
                    have ed := hdu a' c' d' F
                    subst ed
                    exact fmod_zero ⟨a', by rw [fact_a F.f1 F.f3, Int.mul_comm]⟩
                · refine iteF ?_
                  refine w_next ?_
                  exact second (fun z => absurd heq z) _ _ _
              · walk_at "rr"
                refine ⟨_, _, _, _, _, _, rfl, e', hnext fun _ a c d F => hm ?_⟩
                exact fmod_zero (Int.dvd_natAbs.mpr ⟨d, F.f0⟩)
            · refine iteF ?_
              walk_at "rr"
              exact ⟨_, _, _, _, _, _, rfl, e', hnext fun z => absurd hb0 z⟩
          · obtain ⟨y2, y4, y5, y6, y7, y8, rfl, e', hnb⟩ := hq
            walk_at "rr"
            refine k _ _ e' ⟨false, rfl, (fun z => by cases z), fun z => ?_⟩
            rcases z with ⟨r, hr0⟩ | ⟨x0, x1, x2, x3, a, b, c, d, ex, F⟩
            · exact absurd hr0 (hnoroot r)
            · cases ex
              have hb0 : b ≠ 0 := fun z => n0 (by rw [F.f0, z, Int.zero_mul])
              have hb1 := dvd_bound (r := b) (c := c0) ⟨d, F.f0⟩ n0
              exact absurd F (hnb b (by omega) (by omega) hb0 a c d)
end
end RH

set_option Elab.async false
set_option linter.all false
set_option maxRecDepth 100000
set_option maxHeartbeats 4000000
namespace RH
open PySem PySem.Spec PyProof.Rows L2 Evl
/-! ### the closed measure -/
def closedM : List Int → Int
  | [c0, c1, _] => c1 * c1 - 4 * c0
  | [d, c, b, _] => b * b * c * c - 4 * c * c * c - 4 * b * b * b * d - 27 * d * d + 18 * b * c * d
  | [e, d, c, b, _] => (4 * (12 * e - 3 * b * d + c * c) * (12 * e - 3 * b * d + c * c) * (12 * e - 3 * b * d + c * c) - (72 * c * e + 9 * b * c * d - 27 * d * d - 27 * b * b * e - 2 * c * c * c) * (72 * c * e + 9 * b * c * d - 27 * d * d - 27 * b * b * e - 2 * c * c * c)) / 27
  | _ => 0
section
local macro_rules | `(tactic| walk_at "rs") => `(tactic| first
  | with_reducible refine w_seq ?_
  | with_reducible refine w_asg ?_
  | ((with_reducible refine' w_var ?h ?_); (case h => exact rfl))
  | with_reducible refine w_c ?_
  | with_reducible refine w_op ?_
  | with_reducible refine w_I0 ?_
  | with_reducible refine w_cb ?_
  | with_reducible refine w_cons ?_
  | with_reducible refine w_nil ?_
  | with_reducible refine w_ret ?_
  | with_reducible refine w_call ?_
  | with_reducible refine w_if ?_
  | with_reducible refine w_test ?_
  | with_reducible refine w_exbl ?_
  | with_reducible refine w_eqI ?_
  | with_reducible refine w_neI ?_
  | with_reducible refine w_next ?_
  | with_reducible refine w_un ?_
  | with_reducible refine w_U ?_
  | with_reducible refine w_B ?_
  | with_reducible refine w_and ?_
  | with_reducible refine w_or ?_
  | with_reducible refine w_not ?_
  | with_reducible refine w_andV ?_
  | with_reducible refine w_notV ?_
  | with_reducible refine w_tup ?_
  | with_reducible refine w_lst ?_
  | with_reducible refine w_for ?_
  | with_reducible refine w_rng1 ?_
  | with_reducible refine w_rng2 ?_
  | with_reducible refine w_rng3 ?_
  | with_reducible refine w_iList ?_
  | with_reducible refine w_iTup ?_
  | with_reducible refine w_iRevA ?_
  | with_reducible refine w_lc ?_
  | with_reducible refine w_drop ?_
  | with_reducible refine w_par ?_
  | ((with_reducible refine' w_aug ?h ?_); (case h => exact rfl))
  | with_reducible refine w_sl ?_
  | with_reducible refine w_noPart ?_
  | with_reducible refine w_part ?_
  | with_reducible refine w_exint ?_
  | with_reducible refine w_revL ?_
  | with_reducible refine w_bm ?_
  | with_reducible refine w_augS ?_
  | with_reducible refine w_ip ?_
  | with_reducible refine w_gSub ?_
  | with_reducible refine w_gName ?_
  | with_reducible refine w_gCons ?_
  | with_reducible refine w_gNil ?_
  | with_reducible refine w_chain ?_
  | with_reducible refine w_asgG ?_)
local macro_rules | `(tactic| walk_at "rr") => `(tactic| repeat walk_at "rs")
local macro_rules | `(tactic| walk_at "rn1") => `(tactic| first
  | with_reducible refine w_seq ?_
  | with_reducible refine w_asg ?_
  | ((with_reducible refine' w_var ?h ?_); (case h => exact rfl))
  | with_reducible refine w_c ?_
  | with_reducible refine w_op ?_
  | with_reducible refine w_I0 ?_
  | with_reducible refine w_cb ?_
  | with_reducible refine w_cons ?_
  | with_reducible refine w_nil ?_
  | with_reducible refine w_ret ?_
  | with_reducible refine w_call ?_
  | with_reducible refine w_if ?_
  | with_reducible refine w_test ?_
  | with_reducible refine w_exbl ?_
  | with_reducible refine w_eqI ?_
  | with_reducible refine w_neI ?_
  | with_reducible refine w_next ?_
  | with_reducible refine w_un ?_
  | with_reducible refine w_U ?_
  | with_reducible refine w_B ?_
  | with_reducible refine w_and ?_
  | with_reducible refine w_or ?_
  | with_reducible refine w_not ?_
  | with_reducible refine w_andV ?_
  | with_reducible refine w_notV ?_
  | with_reducible refine w_lst ?_
  | with_reducible refine w_for ?_
  | with_reducible refine w_rng1 ?_
  | with_reducible refine w_rng2 ?_
  | with_reducible refine w_rng3 ?_
  | with_reducible refine w_iList ?_
  | with_reducible refine w_iTup ?_
  | with_reducible refine w_iRevA ?_
  | with_reducible refine w_lc ?_
  | with_reducible refine w_drop ?_
  | with_reducible refine w_par ?_
  | ((with_reducible refine' w_aug ?h ?_); (case h => exact rfl))
  | with_reducible refine w_sl ?_
  | with_reducible refine w_noPart ?_
  | with_reducible refine w_part ?_
  | with_reducible refine w_exint ?_
  | with_reducible refine w_revL ?_
  | with_reducible refine w_bm ?_
  | with_reducible refine w_augS ?_
  | with_reducible refine w_ip ?_
  | with_reducible refine w_gSub ?_
  | with_reducible refine w_gName ?_
  | with_reducible refine w_gCons ?_
  | with_reducible refine w_gNil ?_
  | with_reducible refine w_chain ?_
  | with_reducible refine w_asgG ?_)
local macro_rules | `(tactic| walk_at "rn") => `(tactic| repeat walk_at "rn1")

local macro_rules | `(tactic| walk_at "rm") => `(tactic| repeat (first | refine w_I (w_CMul2 (by omega) (by omega)) ?_ | walk_at "rs"))
variable {P : Program} {w : World} {K : PySem.W.Frag} {mg : Str → Option Value} {base : Heap}
def sp__law_closed (K : PySem.W.Frag) : Sp := fun vs H Q _ => ∃ (p : Addr) (ns : List Int), vs = [.ref p] ∧ SqT K H p (ns.map V.int) ∧ IsPoly ns ∧ Ret H Q fun _ v => v = .int (closedM ns)
theorem ok__law_closed (T : Txt K mg) : FnOk P w K mg base CX0 1 T._law_closed.f T._law_closed.fd ["_law_poly"] (sp__law_closed K) := by
  refine T._law_closed.F.ok sc__law_closed (fun vs H Q E h => ?_) (fun cdv A outer st H vs Q E hr h => ?_)
  · obtain ⟨p, ns, rfl, _⟩ := h
    rfl
  · obtain ⟨p, ns, rfl, hx, hp, k⟩ := h
    have hl := hp.len
    refine ⟨_, (pss_cons (ps_if (pt_cmpR op_eq (pe_callB call_len_seq (by rfl) T.n_len (by decide +kernel) (pa_cons (pv 0) pa_nil)) pe_int (nomark _))
        (pss_one (ps_ret (pe_op op_sub (pe_op op_mul (pe_ix (r := rIxT K) ix_tup (pv 0) pe_int (fun _ _ => rfl)) (pe_ix (r := rIxT K) ix_tup (pv 0) pe_int (fun _ _ => rfl))) (pe_op op_mul pe_int (pe_ix (r := rIxT K) ix_tup (pv 0) pe_int (fun _ _ => rfl))))))
        pss_nil)
      (pss_cons (ps_if (pt_cmpR op_eq (pe_callB call_len_seq (by rfl) T.n_len (by decide +kernel) (pa_cons (pv 0) pa_nil)) pe_int (nomark _))
        (pss_cons (ps_asg (pe_slice (r := rSlA K) sl_tupA (pv 0) po_none (po_some pe_int)) (pg_tup (by rfl) (pgs_cons (pg_name (i := 1) sc__law_closed.nd rfl (.inl rfl)) (pgs_cons (pg_name (i := 2) sc__law_closed.nd rfl (.inl rfl)) (pgs_cons (pg_name (i := 3) sc__law_closed.nd rfl (.inl rfl)) pgs_nil)))))
          (pss_cons (ps_set (i := 4) sc__law_closed.nd rfl (.inl rfl) (pe_op op_sub (pe_op op_mul (pe_op op_mul (pe_op op_mul (pv 3) (pv 3)) (pv 2)) (pv 2)) (pe_op op_mul (pe_op op_mul (pe_op op_mul pe_int (pv 2)) (pv 2)) (pv 2))))
          (pss_cons (ps_set (i := 4) sc__law_closed.nd rfl (.inl rfl) (pe_op op_sub (pv 4) (pe_op op_mul (pe_op op_mul (pe_op op_mul (pe_op op_mul pe_int (pv 3)) (pv 3)) (pv 3)) (pv 1))))
          (pss_one (ps_ret (pe_op op_add (pe_op op_sub (pv 4) (pe_op op_mul (pe_op op_mul pe_int (pv 1)) (pv 1))) (pe_op op_mul (pe_op op_mul (pe_op op_mul pe_int (pv 3)) (pv 2)) (pv 1))))))))
        pss_nil)
      (pss_cons (ps_asg (pe_slice (r := rSlA K) sl_tupA (pv 0) po_none (po_some pe_int)) (pg_tup (by rfl) (pgs_cons (pg_name (i := 5) sc__law_closed.nd rfl (.inl rfl)) (pgs_cons (pg_name (i := 1) sc__law_closed.nd rfl (.inl rfl)) (pgs_cons (pg_name (i := 2) sc__law_closed.nd rfl (.inl rfl)) (pgs_cons (pg_name (i := 3) sc__law_closed.nd rfl (.inl rfl)) pgs_nil))))))
      (pss_cons (ps_set (i := 6) sc__law_closed.nd rfl (.inl rfl) (pe_op op_add (pe_op op_sub (pe_op op_mul pe_int (pv 5)) (pe_op op_mul (pe_op op_mul pe_int (pv 3)) (pv 1))) (pe_op op_mul (pv 2) (pv 2))))
      (pss_cons (ps_set (i := 7) sc__law_closed.nd rfl (.inl rfl) (pe_op op_sub (pe_op op_add (pe_op op_mul (pe_op op_mul pe_int (pv 2)) (pv 5)) (pe_op op_mul (pe_op op_mul (pe_op op_mul pe_int (pv 3)) (pv 2)) (pv 1))) (pe_op op_mul (pe_op op_mul pe_int (pv 1)) (pv 1))))
      (pss_cons (ps_set (i := 7) sc__law_closed.nd rfl (.inl rfl) (pe_op op_sub (pe_op op_sub (pv 7) (pe_op op_mul (pe_op op_mul (pe_op op_mul pe_int (pv 3)) (pv 3)) (pv 5))) (pe_op op_mul (pe_op op_mul (pe_op op_mul pe_int (pv 2)) (pv 2)) (pv 2))))
      (pss_one (ps_ret (pe_op op_fdiv (pe_op op_sub (pe_op op_mul (pe_op op_mul (pe_op op_mul pe_int (pv 6)) (pv 6)) (pv 6)) (pe_op op_mul (pv 7) (pv 7))) pe_int))))))))), ?_⟩
    rw [show L2.start N__law_closed [V.ref p] = [some (.ref p), none, none, none, none, none, none, none] from rfl]
    try dsimp only [cxOf]
    walk_at "rr"
    refine ⟨p, _, rfl, .inr hx, ?_⟩
    rw [List.length_map]
    walk_at "rr"
    refine w_ite (fun h3 => ?_) (fun h3 => ?_)
    · obtain ⟨c0, c1, rfl⟩ := hp.three (by omega)
      have b0 := hp.bd (c := c0) (by simp)
      have b1 := hp.bd (c := c1) (by simp)
      walk_at "rr"
      refine w_ixTn hx (n := c1) rfl ?_
      walk_at "rr"
      refine w_ixTn hx (n := c1) rfl ?_
      refine w_I (w_CMul1 (by omega) (by omega)) ?_
      walk_at "rr"
      refine w_ixTn hx (n := c0) rfl ?_
      refine w_I (w_CMul1 (by decide) (by decide)) ?_
      walk_at "rr"
      exact k _ _ (Ex.refl H) rfl
    · walk_at "rr"
      refine ⟨p, _, rfl, .inr hx, ?_⟩
      rw [List.length_map]
      walk_at "rr"
      refine w_ite (fun h4 => ?_) (fun h4 => ?_)
      · obtain ⟨d, c, b, rfl⟩ := hp.four (by omega)
        have b0 := hp.bd (c := d) (by simp)
        have b1 := hp.bd (c := c) (by simp)
        have b2 := hp.bd (c := b) (by simp)
        walk_at "rr"
        refine w_slA hx fun q H1 e1 h1 => ?_
        have h1 : SqT K H1 q [.int d, .int c, .int b] := by
          rw [show (3 : Int) = ((3 : Nat) : Int) from rfl, cutV_to _ (by show 3 ≤ 4; decide)] at h1
          exact h1
        refine w_gTup h1 rfl ?_
        walk_at "rm"
        exact k _ _ e1 rfl
      · obtain ⟨e, d, c, b, rfl⟩ := hp.five (by omega)
        have b0 := hp.bd (c := e) (by simp)
        have b1 := hp.bd (c := d) (by simp)
        have b2 := hp.bd (c := c) (by simp)
        have b3 := hp.bd (c := b) (by simp)
        walk_at "rr"
        refine w_slA hx fun q H1 e1 h1 => ?_
        have h1 : SqT K H1 q [.int e, .int d, .int c, .int b] := by
          rw [show (4 : Int) = ((4 : Nat) : Int) from rfl, cutV_to _ (by show 4 ≤ 5; decide)] at h1
          exact h1
        refine w_gTup h1 rfl ?_
        have hk : closedM [e, d, c, b, 1] = (4 * (12 * e - 3 * b * d + c * c) * (12 * e - 3 * b * d + c * c) * (12 * e - 3 * b * d + c * c) - (72 * c * e + 9 * b * c * d - 27 * d * d - 27 * b * b * e - 2 * c * c * c) * (72 * c * e + 9 * b * c * d - 27 * d * d - 27 * b * b * e - 2 * c * c * c)) / 27 := rfl
        have q1 := mul_bound (a := 3 * b) (b := d) (A := 1497) (B := 499) (by omega) (by omega)
        have q2 := mul_bound (a := c) (b := c) (A := 499) (B := 499) (by omega) (by omega)
        have hone : -(2 ^ 40) < 12 * e - 3 * b * d + c * c ∧ 12 * e - 3 * b * d + c * c < 2 ^ 40 := by omega
        have r1 := mul_bound (a := 72 * c) (b := e) (A := 35928) (B := 499) (by omega) (by omega)
        have r2 := mul_bound (a := 9 * b) (b := c) (A := 4491) (B := 499) (by omega) (by omega)
        have r2' := mul_bound (a := 9 * b * c) (b := d) (A := 4491 * 499) (B := 499) (by omega) (by omega)
        have r3 := mul_bound (a := 27 * d) (b := d) (A := 13473) (B := 499) (by omega) (by omega)
        have r4 := mul_bound (a := 27 * b) (b := b) (A := 13473) (B := 499) (by omega) (by omega)
        have r4' := mul_bound (a := 27 * b * b) (b := e) (A := 13473 * 499) (B := 499) (by omega) (by omega)
        have r5 := mul_bound (a := 2 * c) (b := c) (A := 998) (B := 499) (by omega) (by omega)
        have r5' := mul_bound (a := 2 * c * c) (b := c) (A := 998 * 499) (B := 499) (by omega) (by omega)
        have htwo : -(2 ^ 60) < 72 * c * e + 9 * b * c * d - 27 * d * d - 27 * b * b * e - 2 * c * c * c ∧ 72 * c * e + 9 * b * c * d - 27 * d * d - 27 * b * b * e - 2 * c * c * c < 2 ^ 60 := by omega
        walk_at "rm"
        refine w_I (show CDiv _ _ from ⟨by decide, by decide⟩) ?_
        rw [← hk]
        exact k _ _ e1 rfl
end
end RH

set_option Elab.async false
set_option linter.all false
set_option maxRecDepth 100000
set_option maxHeartbeats 4000000
namespace RH
open PySem PySem.Spec PyProof.Rows L2 Evl
/-! ### the law's square factor -/
def sqA (m c3 : Int) : Int := if m = 2 then 1 else c3 * ((m + 1) / 2) % m
def sqB (m c2 c3 : Int) : Int := if m = 2 then 1 else (c2 - c3 * ((m + 1) / 2) % m * (c3 * ((m + 1) / 2) % m)) * ((m + 1) / 2) % m
structure SqOk (m c0 c1 c2 c3 a b : Int) : Prop where
  e3 : (2 * a - c3) % m = 0
  e2 : (a * a + 2 * b - c2) % m = 0
  e1 : (2 * a * b - c1) % m = 0
  e0 : (b * b - c0) % m = 0
  nr : ∀ r, 0 ≤ r → r < m → (r * r + a * r + b) % m ≠ 0
  d1 : (c1 - b * (c3 - a) - a * (c2 - b - a * (c3 - a))) % (m * m) = 0
  d0 : (c0 - b * (c2 - b - a * (c3 - a))) % (m * m) = 0
theorem w_cutA {s : TS} {a c d : L2.St → Hp → Prop} {b : VK} {σ : L2.St} {H : Hp} (W : L2.St → Hp → Prop) (h : ∀ a', (∀ σ H, W σ H → a' σ H) → s ⟨a', b, c, d⟩ σ H) (go : ∀ σ H, W σ H → a σ H) : s ⟨a, b, c, d⟩ σ H := h a go
section
local macro_rules | `(tactic| walk_at "rs") => `(tactic| first
  | with_reducible refine w_seq ?_
  | with_reducible refine w_asg ?_
  | ((with_reducible refine' w_var ?h ?_); (case h => exact rfl))
  | with_reducible refine w_c ?_
  | with_reducible refine w_op ?_
  | with_reducible refine w_I0 ?_
  | with_reducible refine w_cb ?_
  | with_reducible refine w_cons ?_
  | with_reducible refine w_nil ?_
  | with_reducible refine w_ret ?_
  | with_reducible refine w_call ?_
  | with_reducible refine w_if ?_
  | with_reducible refine w_test ?_
  | with_reducible refine w_exbl ?_
  | with_reducible refine w_eqI ?_
  | with_reducible refine w_neI ?_
  | with_reducible refine w_next ?_
  | with_reducible refine w_un ?_
  | with_reducible refine w_U ?_
  | with_reducible refine w_B ?_
  | with_reducible refine w_and ?_
  | with_reducible refine w_or ?_
  | with_reducible refine w_not ?_
  | with_reducible refine w_andV ?_
  | with_reducible refine w_notV ?_
  | with_reducible refine w_tup ?_
  | with_reducible refine w_lst ?_
  | with_reducible refine w_for ?_
  | with_reducible refine w_rng1 ?_
  | with_reducible refine w_rng2 ?_
  | with_reducible refine w_rng3 ?_
  | with_reducible refine w_iList ?_
  | with_reducible refine w_iTup ?_
  | with_reducible refine w_iRevA ?_
  | with_reducible refine w_lc ?_
  | with_reducible refine w_drop ?_
  | with_reducible refine w_par ?_
  | ((with_reducible refine' w_aug ?h ?_); (case h => exact rfl))
  | with_reducible refine w_sl ?_
  | with_reducible refine w_noPart ?_
  | with_reducible refine w_part ?_
  | with_reducible refine w_exint ?_
  | with_reducible refine w_revL ?_
  | with_reducible refine w_bm ?_
  | with_reducible refine w_augS ?_
  | with_reducible refine w_ip ?_
  | with_reducible refine w_gSub ?_
  | with_reducible refine w_gName ?_
  | with_reducible refine w_gCons ?_
  | with_reducible refine w_gNil ?_
  | with_reducible refine w_chain ?_
  | with_reducible refine w_asgG ?_)
local macro_rules | `(tactic| walk_at "rr") => `(tactic| repeat walk_at "rs")
local macro_rules | `(tactic| walk_at "rn1") => `(tactic| first
  | with_reducible refine w_seq ?_
  | with_reducible refine w_asg ?_
  | ((with_reducible refine' w_var ?h ?_); (case h => exact rfl))
  | with_reducible refine w_c ?_
  | with_reducible refine w_op ?_
  | with_reducible refine w_I0 ?_
  | with_reducible refine w_cb ?_
  | with_reducible refine w_cons ?_
  | with_reducible refine w_nil ?_
  | with_reducible refine w_ret ?_
  | with_reducible refine w_call ?_
  | with_reducible refine w_if ?_
  | with_reducible refine w_test ?_
  | with_reducible refine w_exbl ?_
  | with_reducible refine w_eqI ?_
  | with_reducible refine w_neI ?_
  | with_reducible refine w_next ?_
  | with_reducible refine w_un ?_
  | with_reducible refine w_U ?_
  | with_reducible refine w_B ?_
  | with_reducible refine w_and ?_
  | with_reducible refine w_or ?_
  | with_reducible refine w_not ?_
  | with_reducible refine w_andV ?_
  | with_reducible refine w_notV ?_
  | with_reducible refine w_lst ?_
  | with_reducible refine w_for ?_
  | with_reducible refine w_rng1 ?_
  | with_reducible refine w_rng2 ?_
  | with_reducible refine w_rng3 ?_
  | with_reducible refine w_iList ?_
  | with_reducible refine w_iTup ?_
  | with_reducible refine w_iRevA ?_
  | with_reducible refine w_lc ?_
  | with_reducible refine w_drop ?_
  | with_reducible refine w_par ?_
  | ((with_reducible refine' w_aug ?h ?_); (case h => exact rfl))
  | with_reducible refine w_sl ?_
  | with_reducible refine w_noPart ?_
  | with_reducible refine w_part ?_
  | with_reducible refine w_exint ?_
  | with_reducible refine w_revL ?_
  | with_reducible refine w_bm ?_
  | with_reducible refine w_augS ?_
  | with_reducible refine w_ip ?_
  | with_reducible refine w_gSub ?_
  | with_reducible refine w_gName ?_
  | with_reducible refine w_gCons ?_
  | with_reducible refine w_gNil ?_
  | with_reducible refine w_chain ?_
  | with_reducible refine w_asgG ?_)
local macro_rules | `(tactic| walk_at "rn") => `(tactic| repeat walk_at "rn1")

local macro_rules | `(tactic| walk_at "rm") => `(tactic| repeat (first | refine w_I (w_CMul2 (by omega) (by omega)) ?_ | refine w_I (w_CMul1 (by omega) (by omega)) ?_ | walk_at "rs"))
variable {P : Program} {w : World} {K : PySem.W.Frag} {mg : Str → Option Value} {base : Heap}
def sp__law_square_lacks (K : PySem.W.Frag) : Sp := fun vs H Q _ => ∃ (p : Addr) (c0 c1 c2 c3 m : Int), vs = [.ref p, .int m] ∧ SqT K H p ([c0, c1, c2, c3, 1].map V.int) ∧ IsPoly [c0, c1, c2, c3, 1] ∧ 2 ≤ m ∧ m ≤ 199 ∧ Ret H Q fun _ v => ∃ b : Bool, v = .bl b ∧ (b = true ↔ SqOk m c0 c1 c2 c3 (sqA m c3) (sqB m c2 c3))
theorem ok__law_square_lacks (T : Txt K mg) : FnOk P w K mg base CX0 1 T._law_square_lacks.f T._law_square_lacks.fd ["_law_poly", "_law_p"] (sp__law_square_lacks K) := by
  refine T._law_square_lacks.F.ok sc__law_square_lacks (fun vs H Q E h => ?_) (fun cdv A outer st H vs Q E hr h => ?_)
  · obtain ⟨p, c0, c1, c2, c3, m, rfl, _⟩ := h
    rfl
  · obtain ⟨p, c0, c1, c2, c3, m, rfl, hx, hp, m2, m199, k⟩ := h
    have b0 := hp.bd (c := c0) (by simp)
    have b1 := hp.bd (c := c1) (by simp)
    have b2 := hp.bd (c := c2) (by simp)
    have b3 := hp.bd (c := c3) (by simp)
    have j0 : atI [c0, c1, c2, c3, 1] 0 = some c0 := rfl
    have j1 : atI [c0, c1, c2, c3, 1] 1 = some c1 := rfl
    have j2 : atI [c0, c1, c2, c3, 1] 2 = some c2 := rfl
    have j3 : atI [c0, c1, c2, c3, 1] 3 = some c3 := rfl
    have hm0 : (0 : Int) < m := by omega
    have hmm : (0 : Int) < m * m := Int.mul_pos hm0 hm0
    refine ⟨_, (pss_cons (ps_set (i := 2) sc__law_square_lacks.nd rfl (.inl rfl) (pe_op op_fdiv (pe_op op_add (pv 1) pe_int) pe_int))
      (pss_cons (ps_set (i := 3) sc__law_square_lacks.nd rfl (.inr rfl) (pe_op op_mod (pe_op op_mul (pe_ix (r := rIxT K) ix_tup (pv 0) pe_int (fun _ _ => rfl)) (pv 2)) (pv 1)))
      (pss_cons (ps_set (i := 4) sc__law_square_lacks.nd rfl (.inr rfl) (pe_op op_mod (pe_op op_mul (pe_op op_sub (pe_ix (r := rIxT K) ix_tup (pv 0) pe_int (fun _ _ => rfl)) (pe_op op_mul (pv 3) (pv 3))) (pv 2)) (pv 1)))
      (pss_cons (ps_if (pt_cmpR op_eq (pv 1) pe_int (nomark _))
        (pss_cons (ps_set (i := 3) sc__law_square_lacks.nd rfl (.inr rfl) pe_int)
          (pss_one (ps_set (i := 4) sc__law_square_lacks.nd rfl (.inr rfl) pe_int)))
        pss_nil)
      (pss_cons (ps_if (PW.pt (pw_or (pt_cmpR op_ne (pe_op op_mod (pe_op op_sub (pe_op op_mul pe_int (pv 3)) (pe_ix (r := rIxT K) ix_tup (pv 0) pe_int (fun _ _ => rfl))) (pv 1)) pe_int (nomark _)) (pw_or1 (pt_cmpR op_ne (pe_op op_mod (pe_op op_sub (pe_op op_add (pe_op op_mul (pv 3) (pv 3)) (pe_op op_mul pe_int (pv 4))) (pe_ix (r := rIxT K) ix_tup (pv 0) pe_int (fun _ _ => rfl))) (pv 1)) pe_int (nomark _)))))
        (pss_one (ps_ret pe_bl))
        pss_nil)
      (pss_cons (ps_if (PW.pt (pw_or (pt_cmpR op_ne (pe_op op_mod (pe_op op_sub (pe_op op_mul (pe_op op_mul pe_int (pv 3)) (pv 4)) (pe_ix (r := rIxT K) ix_tup (pv 0) pe_int (fun _ _ => rfl))) (pv 1)) pe_int (nomark _)) (pw_or1 (pt_cmpR op_ne (pe_op op_mod (pe_op op_sub (pe_op op_mul (pv 4) (pv 4)) (pe_ix (r := rIxT K) ix_tup (pv 0) pe_int (fun _ _ => rfl))) (pv 1)) pe_int (nomark _)))))
        (pss_one (ps_ret pe_bl))
        pss_nil)
      (pss_cons (ps_if (pt_val (pe_callB (cr_any rfl) (by rfl) T.n_any (by decide +kernel) (pa_cons (pe_lc (own := [("_law_r", 7)]) (g := gName 7) (by rfl) sc__law_square_lacks.nd (pi_range1 (by rfl) T.n_range (pa_cons (pv 1) pa_nil)) (blkOk_by (own := [("_law_r", 7)]) (N := N__law_square_lacks) (sc := defScope s__law_square_lacks) (by decide +kernel)) (fun _ _ _ _ _ => pg_name (i := 7) sc__law_square_lacks.nd rfl (Or.inl rfl)) (fun _ _ _ _ _ => pts_nil) (fun _ _ _ _ _ => (pe_cmpR op_eq (pe_op op_mod (pe_op op_add (pe_op op_add (pe_op op_mul (pv 7) (pv 7)) (pe_op op_mul (pv 3) (pv 7))) (pv 4)) (pv 1)) pe_int (nomark _)))) pa_nil)))
        (pss_one (ps_ret pe_bl))
        pss_nil)
      (pss_cons (ps_set (i := 5) sc__law_square_lacks.nd rfl (.inl rfl) (pe_op op_sub (pe_ix (r := rIxT K) ix_tup (pv 0) pe_int (fun _ _ => rfl)) (pv 3)))
      (pss_cons (ps_set (i := 6) sc__law_square_lacks.nd rfl (.inl rfl) (pe_op op_sub (pe_op op_sub (pe_ix (r := rIxT K) ix_tup (pv 0) pe_int (fun _ _ => rfl)) (pv 4)) (pe_op op_mul (pv 3) (pv 5))))
      (pss_one (ps_ret (pe_and (pe_cmpR op_eq (pe_op op_mod (pe_op op_sub (pe_op op_sub (pe_ix (r := rIxT K) ix_tup (pv 0) pe_int (fun _ _ => rfl)) (pe_op op_mul (pv 4) (pv 5))) (pe_op op_mul (pv 3) (pv 6))) (pe_op op_mul (pv 1) (pv 1))) pe_int (nomark _)) (pe_one (pe_cmpR op_eq (pe_op op_mod (pe_op op_sub (pe_ix (r := rIxT K) ix_tup (pv 0) pe_int (fun _ _ => rfl)) (pe_op op_mul (pv 4) (pv 6))) (pe_op op_mul (pv 1) (pv 1))) pe_int (nomark _))))))))))))))), ?_⟩
    rw [show L2.start N__law_square_lacks [V.ref p, .int m] = [some (.ref p), some (.int m), none, none, none, none, none, none] from rfl]
    try dsimp only [cxOf]
    walk_at "rr"
    refine w_I (show CDiv _ _ from ⟨by decide, by decide⟩) ?_
    have hh : 0 ≤ (m + 1) / 2 ∧ (m + 1) / 2 ≤ 100 := by omega
    have eA : sqA m c3 = if m = 2 then 1 else c3 * ((m + 1) / 2) % m := rfl
    have eB : sqB m c2 c3 = if m = 2 then 1 else (c2 - c3 * ((m + 1) / 2) % m * (c3 * ((m + 1) / 2) % m)) * ((m + 1) / 2) % m := rfl
    generalize (m + 1) / 2 = hf at hh eA eB
    walk_at "rr"
    refine w_ixTn hx j3 ?_
    walk_at "rm"
    refine w_I hm0 ?_
    have ha := md_bd (x := c3 * hf) m2
    generalize c3 * hf % m = a at ha eA eB
    walk_at "rr"
    refine w_ixTn hx j2 ?_
    walk_at "rm"
    refine w_I hm0 ?_
    have hb := md_bd (x := (c2 - a * a) * hf) m2
    generalize (c2 - a * a) * hf % m = b at hb eB
    refine w_seq ?_
    refine w_cutA (fun σ' H' => σ' = [some (.ref p), some (.int m), some (.int hf), some (.int (sqA m c3)), some (.int (sqB m c2 c3)), none, none, none] ∧ H' = H) (fun A' hA => ?_) (fun σ' H' hq => ?_)
    · walk_at "rr"
      refine w_ite (fun h2 => ?_) (fun h2 => ?_)
      · walk_at "rr"
        refine hA _ _ ⟨?_, rfl⟩
        rw [eA, eB, if_pos h2, if_pos h2]
        rfl
      · walk_at "rr"
        refine hA _ _ ⟨?_, rfl⟩
        rw [eA, eB, if_neg h2, if_neg h2]
        rfl
    obtain ⟨rfl, rfl⟩ := hq
    have hA1 : 0 ≤ sqA m c3 ∧ sqA m c3 < 199 := by rw [eA]; split <;> omega
    have hB1 : 0 ≤ sqB m c2 c3 ∧ sqB m c2 c3 < 199 := by rw [eB]; split <;> omega
    clear eA eB
    generalize sqA m c3 = a at hA1 k
    generalize sqB m c2 c3 = b at hB1 k
    have no : ¬ SqOk m c0 c1 c2 c3 a b → Q (.bl false) H' := fun h => k _ _ (Ex.refl H') ⟨false, rfl, (fun z => by cases z), fun z => absurd z h⟩
    walk_at "rm"
    refine w_ixTn hx j3 ?_
    walk_at "rr"
    refine w_I hm0 ?_
    walk_at "rr"
    refine w_iteN (fun h3 => ?_) (fun h3 => ?_)
    · refine iteT ?_
      walk_at "rr"
      exact no fun z => h3 z.e3
    walk_at "rm"
    refine w_ixTn hx j2 ?_
    walk_at "rr"
    refine w_I hm0 ?_
    walk_at "rr"
    refine w_iteN (fun h2 => ?_) (fun h2 => ?_)
    · walk_at "rr"
      exact no fun z => h2 z.e2
    walk_at "rm"
    refine w_ixTn hx j1 ?_
    walk_at "rr"
    refine w_I hm0 ?_
    walk_at "rr"
    refine w_iteN (fun h1 => ?_) (fun h1 => ?_)
    · refine iteT ?_
      walk_at "rr"
      exact no fun z => h1 z.e1
    walk_at "rm"
    refine w_ixTn hx j0 ?_
    walk_at "rr"
    refine w_I hm0 ?_
    walk_at "rr"
    refine w_iteN (fun h0 => ?_) (fun h0 => ?_)
    · walk_at "rr"
      exact no fun z => h0 z.e0
    walk_at "rr"
    refine c_r1 (by omega) (by omega) (c_rng (fun _ => true) (fun r => .bl (decide ((r * r + a * r + b) % m = 0))) (by omega) (fun _ => rfl) (fun _ _ => gives_yes) (fun i hi _ H1 e1 Q1 q1 => ?_) (fun D H1 hD e1 hacc => ?_))
    · have hi' : 0 ≤ (0 : Int) + (i : Int) ∧ (0 : Int) + (i : Int) < 199 := by omega
      walk_at "rm"
      refine w_I hm0 ?_
      walk_at "rr"
      exact q1 _ (Ex.refl _)
    rw [lcAcc_all, List.map_map] at hacc
    have no : ¬ SqOk m c0 c1 c2 c3 a b → Q (.bl false) H1 := fun h => k _ _ e1 ⟨false, rfl, (fun z => by cases z), fun z => absurd z h⟩
    walk_at "rr"
    refine ⟨D, (List.range m.toNat).map fun i : Nat => decide (((0 + (i : Int)) * (0 + (i : Int)) + a * (0 + (i : Int)) + b) % m = 0), rfl, .inl (.inl (by rw [hacc, List.map_map] <;> rfl)), ?_⟩
    walk_at "rr"
    refine w_iteB (fun hany => ?_) (fun hany => ?_)
    · walk_at "rr"
      refine no fun z => ?_
      obtain ⟨x, hx1, hx2⟩ := List.any_eq_true.mp hany
      obtain ⟨i, hi, rfl⟩ := List.mem_map.mp hx1
      rw [List.mem_range] at hi
      exact z.nr (0 + (i : Int)) (by omega) (by omega) (of_decide_eq_true hx2)
    have hnr : ∀ r, 0 ≤ r → r < m → (r * r + a * r + b) % m ≠ 0 := fun r r0 rm h => by
      rw [List.any_eq_false] at hany
      refine hany _ (List.mem_map.mpr ⟨r.toNat, List.mem_range.mpr (by omega), rfl⟩) ?_
      rw [show 0 + ((r.toNat : Nat) : Int) = r by omega]
      exact decide_eq_true h
    have hx := ex_t e1 hx
    walk_at "rr"
    refine w_ixTn hx j3 ?_
    walk_at "rr"
    refine w_ixTn hx j2 ?_
    walk_at "rm"
    refine w_ixTn hx j1 ?_
    walk_at "rm"
    refine w_I hmm ?_
    walk_at "rr"
    refine w_ite (fun d1 => ?_) (fun d1 => ?_)
    · walk_at "rr"
      refine w_ixTn hx j0 ?_
      walk_at "rm"
      refine w_I hmm ?_
      walk_at "rr"
      refine k _ _ e1 ⟨_, rfl, fun z => ⟨h3, h2, h1, h0, hnr, d1, of_decide_eq_true z⟩, fun z => decide_eq_true z.d0⟩
    · refine k _ _ e1 ⟨false, rfl, (fun z => by cases z), fun z => absurd z.d1 d1⟩
end
end RH

set_option Elab.async false
set_option linter.all false
set_option maxRecDepth 100000
set_option maxHeartbeats 4000000
namespace RH
open PySem PySem.Spec PyProof.Rows L2 Evl
/-! ### the law's word on a lack -/
structure LLackAt (ns : List Int) (n m : Int) : Prop where
  mp : m ∈ primes
  mm : n % (m * m) = 0
  at' : (∃ r, 0 ≤ r ∧ r < m ∧ evalP ns r % (m * m) = 0 ∧ evalP (dP ns) r % m = 0) ∨ ∃ c0 c1 c2 c3, ns = [c0, c1, c2, c3, 1] ∧ SqOk m c0 c1 c2 c3 (sqA m c3) (sqB m c2 c3)
def LLacks (ns : List Int) (n : Int) : Prop := ∃ m, LLackAt ns n m
theorem prime_all : ∀ i, i < 198 → ((List.range i).map fun j : Nat => decide ((2 + (i : Int)) % (2 + (j : Int)) > 0)).all id = primes.contains (2 + (i : Int)) := by decide +kernel
theorem steep_eq {ns : List Int} (h : IsPoly ns) : (List.range (ns.length - 1)).map (fun i : Nat => (1 + (i : Int)) * ns.getD (1 + (i : Int)).toNat 0) = dP ns := by
  have hl := h.len
  have : ns.length = 3 ∨ ns.length = 4 ∨ ns.length = 5 := by omega
  rcases this with e | e | e
  · obtain ⟨c0, c1, rfl⟩ := h.three e
    rfl
  · obtain ⟨c0, c1, c2, rfl⟩ := h.four e
    rfl
  · obtain ⟨c0, c1, c2, c3, rfl⟩ := h.five e
    rfl
theorem primes_hi : ∀ m ∈ primes, 2 ≤ m ∧ m < 200 := by decide +kernel
section
local macro_rules | `(tactic| walk_at "rs") => `(tactic| first
  | with_reducible refine w_seq ?_
  | with_reducible refine w_asg ?_
  | ((with_reducible refine' w_var ?h ?_); (case h => exact rfl))
  | with_reducible refine w_c ?_
  | with_reducible refine w_op ?_
  | with_reducible refine w_I0 ?_
  | with_reducible refine w_cb ?_
  | with_reducible refine w_cons ?_
  | with_reducible refine w_nil ?_
  | with_reducible refine w_ret ?_
  | with_reducible refine w_call ?_
  | with_reducible refine w_if ?_
  | with_reducible refine w_test ?_
  | with_reducible refine w_exbl ?_
  | with_reducible refine w_eqI ?_
  | with_reducible refine w_neI ?_
  | with_reducible refine w_next ?_
  | with_reducible refine w_un ?_
  | with_reducible refine w_U ?_
  | with_reducible refine w_B ?_
  | with_reducible refine w_and ?_
  | with_reducible refine w_or ?_
  | with_reducible refine w_not ?_
  | with_reducible refine w_andV ?_
  | with_reducible refine w_notV ?_
  | with_reducible refine w_tup ?_
  | with_reducible refine w_lst ?_
  | with_reducible refine w_for ?_
  | with_reducible refine w_rng1 ?_
  | with_reducible refine w_rng2 ?_
  | with_reducible refine w_rng3 ?_
  | with_reducible refine w_iList ?_
  | with_reducible refine w_iTup ?_
  | with_reducible refine w_iRevA ?_
  | with_reducible refine w_lc ?_
  | with_reducible refine w_drop ?_
  | with_reducible refine w_par ?_
  | ((with_reducible refine' w_aug ?h ?_); (case h => exact rfl))
  | with_reducible refine w_sl ?_
  | with_reducible refine w_noPart ?_
  | with_reducible refine w_part ?_
  | with_reducible refine w_exint ?_
  | with_reducible refine w_revL ?_
  | with_reducible refine w_bm ?_
  | with_reducible refine w_augS ?_
  | with_reducible refine w_ip ?_
  | with_reducible refine w_gSub ?_
  | with_reducible refine w_gName ?_
  | with_reducible refine w_gCons ?_
  | with_reducible refine w_gNil ?_
  | with_reducible refine w_chain ?_
  | with_reducible refine w_asgG ?_)
local macro_rules | `(tactic| walk_at "rr") => `(tactic| repeat walk_at "rs")
local macro_rules | `(tactic| walk_at "rn1") => `(tactic| first
  | with_reducible refine w_seq ?_
  | with_reducible refine w_asg ?_
  | ((with_reducible refine' w_var ?h ?_); (case h => exact rfl))
  | with_reducible refine w_c ?_
  | with_reducible refine w_op ?_
  | with_reducible refine w_I0 ?_
  | with_reducible refine w_cb ?_
  | with_reducible refine w_cons ?_
  | with_reducible refine w_nil ?_
  | with_reducible refine w_ret ?_
  | with_reducible refine w_call ?_
  | with_reducible refine w_if ?_
  | with_reducible refine w_test ?_
  | with_reducible refine w_exbl ?_
  | with_reducible refine w_eqI ?_
  | with_reducible refine w_neI ?_
  | with_reducible refine w_next ?_
  | with_reducible refine w_un ?_
  | with_reducible refine w_U ?_
  | with_reducible refine w_B ?_
  | with_reducible refine w_and ?_
  | with_reducible refine w_or ?_
  | with_reducible refine w_not ?_
  | with_reducible refine w_andV ?_
  | with_reducible refine w_notV ?_
  | with_reducible refine w_lst ?_
  | with_reducible refine w_for ?_
  | with_reducible refine w_rng1 ?_
  | with_reducible refine w_rng2 ?_
  | with_reducible refine w_rng3 ?_
  | with_reducible refine w_iList ?_
  | with_reducible refine w_iTup ?_
  | with_reducible refine w_iRevA ?_
  | with_reducible refine w_lc ?_
  | with_reducible refine w_drop ?_
  | with_reducible refine w_par ?_
  | ((with_reducible refine' w_aug ?h ?_); (case h => exact rfl))
  | with_reducible refine w_sl ?_
  | with_reducible refine w_noPart ?_
  | with_reducible refine w_part ?_
  | with_reducible refine w_exint ?_
  | with_reducible refine w_revL ?_
  | with_reducible refine w_bm ?_
  | with_reducible refine w_augS ?_
  | with_reducible refine w_ip ?_
  | with_reducible refine w_gSub ?_
  | with_reducible refine w_gName ?_
  | with_reducible refine w_gCons ?_
  | with_reducible refine w_gNil ?_
  | with_reducible refine w_chain ?_
  | with_reducible refine w_asgG ?_)
local macro_rules | `(tactic| walk_at "rn") => `(tactic| repeat walk_at "rn1")

variable {P : Program} {w : World} {K : PySem.W.Frag} {mg : Str → Option Value} {base : Heap}
def sp__law_lacks (K : PySem.W.Frag) : Sp := fun vs H Q _ => ∃ (p : Addr) (ns : List Int) (n : Int), vs = [.ref p, .int n] ∧ SqT K H p (ns.map V.int) ∧ IsPoly ns ∧ Ret H Q fun _ v => ∃ b : Bool, v = .bl b ∧ (b = true ↔ LLacks ns n)
theorem ok__law_lacks (T : Txt K mg) (G__law_value : FnOk P w K mg base CX0 1 T._law_value.f T._law_value.fd ["_law_poly", "_law_r"] (sp__law_value K))
    (G__law_square_lacks : FnOk P w K mg base CX0 1 T._law_square_lacks.f T._law_square_lacks.fd ["_law_poly", "_law_p"] (sp__law_square_lacks K)) :
    FnOk P w K mg base CX0 2 T._law_lacks.f T._law_lacks.fd ["_law_poly", "_law_amount"] (sp__law_lacks K) := by
  refine T._law_lacks.F.ok sc__law_lacks (fun vs H Q E h => ?_) (fun cdv A outer st H vs Q E hr h => ?_)
  · obtain ⟨p, ns, n, rfl, _⟩ := h
    rfl
  · obtain ⟨p, ns, n, rfl, hx, hp, k⟩ := h
    have hl := hp.len
    refine ⟨_, (pss_cons (ps_set (i := 2) sc__law_lacks.nd rfl (.inl rfl) (pe_callTy call_tuple_of (by rfl) T.n_tuple (by decide +kernel) (pa_cons (pe_lc (own := [("_law_k", 5)]) (g := gName 5) (by rfl) sc__law_lacks.nd (pi_range2 (by rfl) T.n_range (pa_cons pe_int (pa_cons (pe_callB call_len_seq (by rfl) T.n_len (by decide +kernel) (pa_cons (pv 0) pa_nil)) pa_nil))) (blkOk_by (own := [("_law_k", 5)]) (N := N__law_lacks) (sc := defScope s__law_lacks) (by decide +kernel)) (fun _ _ _ _ _ => pg_name (i := 5) sc__law_lacks.nd rfl (Or.inl rfl)) (fun _ _ _ _ _ => pts_nil) (fun _ _ _ _ _ => (pe_op op_mul (pv 5) (pe_ix (r := rIxT K) ix_tup (pv 0) (pv 5) (fun _ _ => rfl))))) pa_nil)))
      (pss_cons (ps_for PassesOwn.never rfl (pi_range2 (by rfl) T.n_range (pa_cons pe_int (pa_cons pe_int pa_nil))) (pg_name (i := 3) sc__law_lacks.nd rfl (.inr rfl))
        (pss_one (ps_if (PW.pt (pw_and (pt_cmpR op_eq (pe_op op_mod (pv 1) (pe_op op_mul (pv 3) (pv 3))) pe_int (nomark _)) (pw_and1 (pt_val (pe_callB (cr_all rfl) (by rfl) T.n_all (by decide +kernel) (pa_cons (pe_lc (own := [("_law_q", 6)]) (g := gName 6) (by rfl) sc__law_lacks.nd (pi_range2 (by rfl) T.n_range (pa_cons pe_int (pa_cons (pv 3) pa_nil))) (blkOk_by (own := [("_law_q", 6)]) (N := N__law_lacks) (sc := defScope s__law_lacks) (by decide +kernel)) (fun _ _ _ _ _ => pg_name (i := 6) sc__law_lacks.nd rfl (Or.inl rfl)) (fun _ _ _ _ _ => pts_nil) (fun _ _ _ _ _ => (pe_cmpR op_gt (pe_op op_mod (pv 3) (pv 6)) pe_int (nomark _)))) pa_nil))))))
            (pss_cons (ps_for PassesOwn.never rfl (pi_range1 (by rfl) T.n_range (pa_cons (pv 3) pa_nil)) (pg_name (i := 4) sc__law_lacks.nd rfl (.inl rfl))
                (pss_one (ps_if (PW.pt (pw_and (pt_cmpR op_eq (pe_op op_mod (pe_call G__law_value (hr.mono (by omega)) (by rfl) T._law_value.g T._law_value.F.kp T._law_value.b .nil pass0 (pa_cons (pv 0) (pa_cons (pv 4) pa_nil))) (pe_op op_mul (pv 3) (pv 3))) pe_int (nomark _)) (pw_and1 (pt_cmpR op_eq (pe_op op_mod (pe_call G__law_value (hr.mono (by omega)) (by rfl) T._law_value.g T._law_value.F.kp T._law_value.b .nil pass0 (pa_cons (pv 2) (pa_cons (pv 4) pa_nil))) (pv 3)) pe_int (nomark _)))))
                    (pss_one (ps_ret pe_bl))
                    pss_nil)))
              (pss_one (ps_if (PW.pt (pw_and (pt_cmpR op_eq (pe_callB call_len_seq (by rfl) T.n_len (by decide +kernel) (pa_cons (pv 0) pa_nil)) pe_int (nomark _)) (pw_and1 (pt_val (pe_call G__law_square_lacks (hr.mono (by omega)) (by rfl) T._law_square_lacks.g T._law_square_lacks.F.kp T._law_square_lacks.b .nil pass0 (pa_cons (pv 0) (pa_cons (pv 3) pa_nil)))))))
                (pss_one (ps_ret pe_bl))
                pss_nil)))
            pss_nil)))
      (pss_one (ps_ret pe_bl)))), ?_⟩
    rw [show L2.start N__law_lacks [V.ref p, .int n] = [some (.ref p), some (.int n), none, none, none, none, none] from rfl]
    try dsimp only [cxOf]
    walk_at "rr"
    refine ⟨p, _, rfl, .inr hx, ?_⟩
    rw [List.length_map]
    refine c_r2 (by omega) (by omega) (c_rng (fun _ => true) (fun z => .int (z * ns.getD z.toNat 0)) (by omega) (fun _ => rfl) (fun _ _ => gives_yes) (fun i hi _ H1 e1 Q1 q1 => ?_) (fun D H1 hD e1 hacc => ?_))
    · walk_at "rr"
      refine w_ixTn (ex_t e1 hx) (atI_getD (d := 0) (by omega) (by omega)) ?_
      refine w_I (w_CMul1 (by omega) (by omega)) ?_
      exact q1 _ (Ex.refl _)
    have hacc' : H1 D = some (.lst ((dP ns).map V.int)) := by
      rw [hacc, lcAcc_all, ← steep_eq hp, List.map_map, List.map_map, show ((ns.length : Int) - 1).toNat = ns.length - 1 by omega]
      rfl
    clear hacc
    walk_at "rr"
    refine ⟨D, _, rfl, .inl ⟨.inl (.inl hacc'), fun q n' => ?_⟩⟩
    have hs : SqT K (upd H1 q (.tup ((dP ns).map V.int))) q ((dP ns).map V.int) := .inl (.inl upd_same)
    have e2 : Ex H (upd H1 q (.tup ((dP ns).map V.int))) := e1.trans (Ex.new n')
    generalize upd H1 q (.tup ((dP ns).map V.int)) = H2 at hs e2
    walk_at "rr"
    refine f_r2 (by omega) (by omega) (by omega) (by omega) (fun i σ' H' => ∃ y3 y4, σ' = [some (.ref p), some (.int n), some (.ref q), y3, y4, none, none] ∧ Ex H H' ∧ Ex H2 H' ∧ ∀ m, m < 2 + (i : Int) → ¬ LLackAt ns n m)
      ⟨none, none, rfl, e2, Ex.refl _, fun m hm h => by have := primes_hi m h.mp; omega⟩ (fun i σ' H' hi hq => ?_) (fun σ' H' hq => ?_)
    · obtain ⟨y3, y4, rfl, e, e', hno⟩ := hq
      have next : ¬ LLackAt ns n (2 + (i : Int)) → ∀ m, m < 2 + ((i + 1 : Nat) : Int) → ¬ LLackAt ns n m := fun h m hm => by
        by_cases hmi : m < 2 + (i : Int)
        · exact hno m hmi
        · have : m = 2 + (i : Int) := by omega
          rw [this]
          exact h
      have hpa := prime_all i (by omega)
      have hm0 : (0 : Int) < 2 + (i : Int) ∧ (2 + (i : Int)) < 200 ∧ 2 ≤ 2 + (i : Int) := by omega
      have hin : i = ((2 + (i : Int)) - 2).toNat := by omega
      generalize hme : 2 + (i : Int) = m at hm0 hpa next hno hin
      have hmm : (0 : Int) < m * m := Int.mul_pos hm0.1 hm0.1
      walk_at "rr"
      refine w_I (w_CMul1 (by omega) (by omega)) ?_
      refine w_I hmm ?_
      walk_at "rr"
      refine w_ite (fun hmn => ?_) (fun hmn => ?_)
      · walk_at "rr"
        refine c_r2 (by omega) (by omega) (c_rng (fun _ => true) (fun z => .bl (decide (m % z > 0))) (by omega) (fun _ => rfl) (fun _ _ => gives_yes) (fun j hj _ H3 e3 Q1 q1 => ?_) (fun D3 H3 hD3 e3 hacc3 => ?_))
        · walk_at "rr"
          refine w_I (show (0 : Int) < 2 + (j : Int) by omega) ?_
          walk_at "rr"
          exact q1 _ (Ex.refl _)
        walk_at "rr"
        refine ⟨D3, (List.range i).map fun j : Nat => decide (m % (2 + (j : Int)) > 0), rfl, .inl (.inl (by rw [hacc3, lcAcc_all, List.map_map, List.map_map, ← hin] <;> rfl)), ?_⟩
        rw [hpa]
        walk_at "rr"
        refine w_iteB (fun hpr => ?_) (fun hpr => ?_)
        · have hmp : m ∈ primes := List.contains_iff_mem.mp hpr
          have yes : _ → LLacks ns n := fun h => ⟨m, hmp, hmn, h⟩
          walk_at "rr"
          refine f_r1 (by omega) (by omega) (fun j σ' H' => ∃ y4, σ' = [some (.ref p), some (.int n), some (.ref q), some (.int m), y4, none, none] ∧ Ex H H' ∧ Ex H2 H' ∧ ∀ r, 0 ≤ r → r < (j : Int) → ¬ (evalP ns r % (m * m) = 0 ∧ evalP (dP ns) r % m = 0))
            ⟨_, rfl, e.trans e3, e'.trans e3, fun r r0 r1 => by omega⟩ (fun j σ' H' hj hq => ?_) (fun σ' H' hq => ?_)
          · obtain ⟨y4, rfl, e, e', hnr⟩ := hq
            have nextr : ¬ (evalP ns (j : Int) % (m * m) = 0 ∧ evalP (dP ns) (j : Int) % m = 0) → ∀ r, 0 ≤ r → r < ((j + 1 : Nat) : Int) → ¬ (evalP ns r % (m * m) = 0 ∧ evalP (dP ns) r % m = 0) := fun h r r0 r1 => by
              by_cases hrj : r < (j : Int)
              · exact hnr r r0 hrj
              · have : r = (j : Int) := by omega
                rw [this]
                exact h
            walk_at "rr"
            refine ⟨p, ns, (j : Int), rfl, ex_t e hx, ⟨by omega, by omega⟩, fun v H4 e4 r4 => ?_⟩
            subst r4
            walk_at "rr"
            refine w_I (w_CMul1 (by omega) (by omega)) ?_
            refine w_I hmm ?_
            walk_at "rr"
            refine w_ite (fun q1 => ?_) (fun q1 => ?_)
            · walk_at "rr"
              refine ⟨q, dP ns, (j : Int), rfl, ex_t (e'.trans e4) hs, ⟨by omega, by omega⟩, fun v H5 e5 r5 => ?_⟩
              subst r5
              walk_at "rr"
              refine w_I hm0.1 ?_
              walk_at "rr"
              refine w_ite (fun q2 => ?_) (fun q2 => ?_)
              · walk_at "rr"
                exact k _ _ (e.trans (e4.trans e5)) ⟨true, rfl, fun _ => yes (.inl ⟨(j : Int), by omega, by omega, q1, q2⟩), fun _ => rfl⟩
              · walk_at "rr"
                exact ⟨_, rfl, e.trans (e4.trans e5), e'.trans (e4.trans e5), nextr fun z => q2 z.2⟩
            · refine iteF ?_
              walk_at "rr"
              exact ⟨_, rfl, e.trans e4, e'.trans e4, nextr fun z => q1 z.1⟩
          · obtain ⟨y4, rfl, e, e', hnr⟩ := hq
            have hnr' : ¬ ∃ r, 0 ≤ r ∧ r < m ∧ evalP ns r % (m * m) = 0 ∧ evalP (dP ns) r % m = 0 := fun ⟨r, r0, r1, h⟩ => hnr r r0 (by omega) h
            walk_at "rr"
            refine ⟨p, _, rfl, .inr (ex_t e hx), ?_⟩
            rw [List.length_map]
            walk_at "rr"
            refine w_ite (fun h5 => ?_) (fun h5 => ?_)
            · obtain ⟨c0, c1, c2, c3, rfl⟩ := hp.five (by omega)
              walk_at "rr"
              refine ⟨p, c0, c1, c2, c3, m, rfl, ex_t e hx, hp, hm0.2.2, by omega, fun v H5 e5 r5 => ?_⟩
              obtain ⟨b, rfl, hb⟩ := r5
              walk_at "rr"
              refine w_iteB (fun hbt => ?_) (fun hbt => ?_)
              · walk_at "rr"
                exact k _ _ (e.trans e5) ⟨true, rfl, fun _ => yes (.inr ⟨c0, c1, c2, c3, rfl, hb.mp hbt⟩), fun _ => rfl⟩
              · walk_at "rr"
                refine ⟨_, _, rfl, e.trans e5, e'.trans e5, next fun z => ?_⟩
                rcases z.at' with z | ⟨_, _, _, _, z1, z2⟩
                · exact hnr' z
                · cases z1
                  rw [hb.mpr z2] at hbt
                  cases hbt
            · refine iteF ?_
              walk_at "rr"
              refine ⟨_, _, rfl, e, e', next fun z => ?_⟩
              rcases z.at' with z | ⟨_, _, _, _, z1, z2⟩
              · exact hnr' z
              · rw [z1] at h5
                exact h5 rfl
        · walk_at "rr"
          refine ⟨_, _, rfl, e.trans e3, e'.trans e3, next fun z => ?_⟩
          rw [List.contains_iff_mem.mpr z.mp] at hpr
          cases hpr
      · refine iteF ?_
        walk_at "rr"
        exact ⟨_, _, rfl, e, e', next fun z => hmn z.mm⟩
    · obtain ⟨y3, y4, rfl, e, e', hno⟩ := hq
      walk_at "rr"
      refine k _ _ e ⟨false, rfl, (fun z => by cases z), fun ⟨m, z⟩ => ?_⟩
      exact absurd z (hno m (by have := primes_hi m z.mp; omega))
end
end RH

set_option Elab.async false
set_option linter.all false
set_option maxRecDepth 100000
set_option maxHeartbeats 4000000
namespace RH
open PySem PySem.Spec PyProof.Rows L2 Evl
theorem tyx_t {K : PySem.W.Frag} {H : Hp} {p : Addr} {xs : List V} (h : SqT K H p xs) : TyX K H (.ref p) (.type "tuple") := by
  rcases h with (h | ⟨o, h⟩) | ⟨o, _, _, h, c, _⟩
  · exact .base (.tup h)
  · exact .fTuple h
  · exact .kTuple h c
section
local macro_rules | `(tactic| walk_at "rs") => `(tactic| first
  | with_reducible refine w_seq ?_
  | with_reducible refine w_asg ?_
  | ((with_reducible refine' w_var ?h ?_); (case h => exact rfl))
  | with_reducible refine w_c ?_
  | with_reducible refine w_op ?_
  | with_reducible refine w_I0 ?_
  | with_reducible refine w_cb ?_
  | with_reducible refine w_cons ?_
  | with_reducible refine w_nil ?_
  | with_reducible refine w_ret ?_
  | with_reducible refine w_call ?_
  | with_reducible refine w_if ?_
  | with_reducible refine w_test ?_
  | with_reducible refine w_exbl ?_
  | with_reducible refine w_eqI ?_
  | with_reducible refine w_neI ?_
  | with_reducible refine w_next ?_
  | with_reducible refine w_un ?_
  | with_reducible refine w_U ?_
  | with_reducible refine w_B ?_
  | with_reducible refine w_and ?_
  | with_reducible refine w_or ?_
  | with_reducible refine w_not ?_
  | with_reducible refine w_andV ?_
  | with_reducible refine w_notV ?_
  | with_reducible refine w_tup ?_
  | with_reducible refine w_lst ?_
  | with_reducible refine w_for ?_
  | with_reducible refine w_rng1 ?_
  | with_reducible refine w_rng2 ?_
  | with_reducible refine w_rng3 ?_
  | with_reducible refine w_iList ?_
  | with_reducible refine w_iTup ?_
  | with_reducible refine w_iRevA ?_
  | with_reducible refine w_lc ?_
  | with_reducible refine w_drop ?_
  | with_reducible refine w_par ?_
  | ((with_reducible refine' w_aug ?h ?_); (case h => exact rfl))
  | with_reducible refine w_sl ?_
  | with_reducible refine w_noPart ?_
  | with_reducible refine w_part ?_
  | with_reducible refine w_exint ?_
  | with_reducible refine w_revL ?_
  | with_reducible refine w_bm ?_
  | with_reducible refine w_augS ?_
  | with_reducible refine w_ip ?_
  | with_reducible refine w_gSub ?_
  | with_reducible refine w_gName ?_
  | with_reducible refine w_gCons ?_
  | with_reducible refine w_gNil ?_
  | with_reducible refine w_chain ?_
  | with_reducible refine w_asgG ?_)
local macro_rules | `(tactic| walk_at "rr") => `(tactic| repeat walk_at "rs")
local macro_rules | `(tactic| walk_at "rn1") => `(tactic| first
  | with_reducible refine w_seq ?_
  | with_reducible refine w_asg ?_
  | ((with_reducible refine' w_var ?h ?_); (case h => exact rfl))
  | with_reducible refine w_c ?_
  | with_reducible refine w_op ?_
  | with_reducible refine w_I0 ?_
  | with_reducible refine w_cb ?_
  | with_reducible refine w_cons ?_
  | with_reducible refine w_nil ?_
  | with_reducible refine w_ret ?_
  | with_reducible refine w_call ?_
  | with_reducible refine w_if ?_
  | with_reducible refine w_test ?_
  | with_reducible refine w_exbl ?_
  | with_reducible refine w_eqI ?_
  | with_reducible refine w_neI ?_
  | with_reducible refine w_next ?_
  | with_reducible refine w_un ?_
  | with_reducible refine w_U ?_
  | with_reducible refine w_B ?_
  | with_reducible refine w_and ?_
  | with_reducible refine w_or ?_
  | with_reducible refine w_not ?_
  | with_reducible refine w_andV ?_
  | with_reducible refine w_notV ?_
  | with_reducible refine w_lst ?_
  | with_reducible refine w_for ?_
  | with_reducible refine w_rng1 ?_
  | with_reducible refine w_rng2 ?_
  | with_reducible refine w_rng3 ?_
  | with_reducible refine w_iList ?_
  | with_reducible refine w_iTup ?_
  | with_reducible refine w_iRevA ?_
  | with_reducible refine w_lc ?_
  | with_reducible refine w_drop ?_
  | with_reducible refine w_par ?_
  | ((with_reducible refine' w_aug ?h ?_); (case h => exact rfl))
  | with_reducible refine w_sl ?_
  | with_reducible refine w_noPart ?_
  | with_reducible refine w_part ?_
  | with_reducible refine w_exint ?_
  | with_reducible refine w_revL ?_
  | with_reducible refine w_bm ?_
  | with_reducible refine w_augS ?_
  | with_reducible refine w_ip ?_
  | with_reducible refine w_gSub ?_
  | with_reducible refine w_gName ?_
  | with_reducible refine w_gCons ?_
  | with_reducible refine w_gNil ?_
  | with_reducible refine w_chain ?_
  | with_reducible refine w_asgG ?_)
local macro_rules | `(tactic| walk_at "rn") => `(tactic| repeat walk_at "rn1")

variable {P : Program} {w : World} {K : PySem.W.Frag} {mg : Str → Option Value} {base : Heap}
def sp__law_whole : Sp := fun vs H Q _ => ∃ n, vs = [.int n] ∧ Ret H Q fun _ v => v = .bl true
theorem ok__law_whole (T : Txt K mg) : FnOk P w K mg base CX0 1 T._law_whole.f T._law_whole.fd ["_law_found"] sp__law_whole := by
  refine T._law_whole.F.ok sc__law_whole (fun vs H Q E h => ?_) (fun cdv A outer st H vs Q E hr h => ?_)
  · obtain ⟨n, rfl, _⟩ := h
    rfl
  · obtain ⟨n, rfl, k⟩ := h
    refine ⟨_, (pss_one (ps_ret (pe_and (pe_callB call_isi (by rfl) T.n_isinstance (by decide +kernel) (pa_cons (pv 0) (pa_cons (pe_bltn (v := .ty "int") (by rfl) T.n_int (by decide +kernel) rfl) pa_nil))) (pe_one (pe_not (pe_callB call_isi (by rfl) T.n_isinstance (by decide +kernel) (pa_cons (pv 0) (pa_cons (pe_bltn (v := .ty "bool") (by rfl) T.n_bool (by decide +kernel) rfl) pa_nil)))))))), ?_⟩
    rw [show L2.start N__law_whole [V.int n] = [some (.int n)] from rfl]
    try dsimp only [cxOf]
    walk_at "rr"
    refine ⟨.int n, .ty "int", .type "int", .type "int", true, rfl, .ty _, .base (.int n), kit_ty (by decide +kernel), ?_⟩
    walk_at "rr"
    refine iteT ?_
    walk_at "rr"
    refine ⟨.int n, .ty "bool", .type "int", .type "bool", false, rfl, .ty _, .base (.int n), kit_ty (by decide +kernel), ?_⟩
    walk_at "rr"
    exact k _ _ (Ex.refl H) rfl
def sp__law_row (K : PySem.W.Frag) : Sp := fun vs H Q _ => ∃ (p : Addr) (ns : List Int) (m : Int), vs = [.ref p, .int m] ∧ SqT K H p (ns.map V.int) ∧ (ns.length : Int) = m ∧ m ≤ 1000 ∧ Ret H Q fun _ v => v = .bl true
theorem ok__law_row (T : Txt K mg) (G__law_whole : FnOk P w K mg base CX0 1 T._law_whole.f T._law_whole.fd ["_law_found"] sp__law_whole) :
    FnOk P w K mg base CX0 2 T._law_row.f T._law_row.fd ["_law_found", "_law_many"] (sp__law_row K) := by
  refine T._law_row.F.ok sc__law_row (fun vs H Q E h => ?_) (fun cdv A outer st H vs Q E hr h => ?_)
  · obtain ⟨p, ns, m, rfl, _⟩ := h
    rfl
  · obtain ⟨p, ns, m, rfl, hx, hl, hm, k⟩ := h
    refine ⟨_, (pss_cons (ps_if (PW.pt (pw_or (pt_not (pt_val (pe_callB call_isi (by rfl) T.n_isinstance (by decide +kernel) (pa_cons (pv 0) (pa_cons (pe_bltn (v := .ty "tuple") (by rfl) T.n_tuple (by decide +kernel) rfl) pa_nil))))) (pw_or1 (pt_cmpR op_ne (pe_callB call_len_seq (by rfl) T.n_len (by decide +kernel) (pa_cons (pv 0) pa_nil)) (pv 1) (nomark _)))))
        (pss_one (ps_ret pe_bl))
        pss_nil)
      (pss_one (ps_ret (pe_callB (cr_all rfl) (by rfl) T.n_all (by decide +kernel) (pa_cons (pe_lc (own := [("_law_place", 2)]) (g := gName 2) (by rfl) sc__law_row.nd (pi_tup (pv 0)) (blkOk_by (own := [("_law_place", 2)]) (N := N__law_row) (sc := defScope s__law_row) (by decide +kernel)) (fun _ _ _ _ _ => pg_name (i := 2) sc__law_row.nd rfl (Or.inl rfl)) (fun _ _ _ _ _ => pts_nil) (fun _ _ _ _ _ => (pe_call G__law_whole (hr.mono (by omega)) (by rfl) T._law_whole.g T._law_whole.F.kp T._law_whole.b .nil pass0 (pa_cons (pv 2) pa_nil)))) pa_nil))))), ?_⟩
    rw [show L2.start N__law_row [V.ref p, .int m] = [some (.ref p), some (.int m), none] from rfl]
    try dsimp only [cxOf]
    walk_at "rr"
    refine ⟨.ref p, .ty "tuple", .type "tuple", .type "tuple", true, rfl, .ty _, tyx_t hx, kit_ty (by decide +kernel), ?_⟩
    walk_at "rr"
    refine iteF ?_
    walk_at "rr"
    refine ⟨p, _, rfl, .inr hx, ?_⟩
    rw [List.length_map]
    walk_at "rr"
    refine w_iteN (fun h => absurd hl h) (fun _ => ?_)
    walk_at "rr"
    refine c_tup (zs := ns) (G := V.int) (fun _ => true) (fun _ => .bl true) hx (by omega) (fun _ => rfl) (fun z _ => gives_yes) (fun z _ _ H1 e Q q => ?_) (fun D H' hD e hacc => ?_)
    · walk_at "rr"
      refine ⟨z, rfl, fun v H2 e2 r2 => ?_⟩
      subst r2
      exact q _ e2
    rw [lcAcc_all] at hacc
    walk_at "rr"
    refine ⟨D, ns.map (fun _ => true), rfl, .inl (.inl (by rw [hacc, List.map_map] <;> rfl)), k _ _ e ?_⟩
    congr 1
    rw [List.all_eq_true]
    intro x hx
    obtain ⟨_, _, rfl⟩ := List.mem_map.mp hx
    rfl
end
end RH

set_option Elab.async false
set_option linter.all false
set_option maxRecDepth 100000
set_option maxHeartbeats 4000000
namespace RH
open PySem PySem.Spec PyProof.Rows L2 Evl
/-- a list of ints that was laid -/
def IsN (H : Hp) (v : V) (z : List Int) : Prop := ∃ q, v = .ref q ∧ H q = some (.lst (z.map V.int))
theorem IsN.ex {H H' : Hp} {v : V} {z : List Int} (h : IsN H v z) (e : Ex H H') : IsN H' v z := let ⟨q, r, s⟩ := h; ⟨q, r, e _ _ s⟩
theorem IsN.l {K : PySem.W.Frag} {H : Hp} {v : V} {z : List Int} (h : IsN H v z) : IsL K H v z := let ⟨q, r, s⟩ := h; ⟨q, r, .inl (.inl s)⟩
section
variable {K : PySem.W.Frag} {σ : L2.St} {H : Hp} {Q : VK} {te : TE}
/-- a comprehension over a list that makes new lists -/
theorem c_listN {α : Type} {Rin : V → α → Prop} {p : Addr} {xs : List V} {zs : List α} {j : Nat} {vs : List Nat} (F : α → List Int) (hx : SqL K H p xs) (ha : AllR Rin xs zs) (hz : zs.length ≤ 50000) (hw : ∀ y, wipe ((wipe σ vs).set j (some y)) vs = wipe σ vs)
    (he : ∀ x z, z ∈ zs → Rin x z → ∀ H1, Ex H H1 → ∀ Q : VK, (∀ q H2, H1 q = none → Ex H1 H2 → H2 q = some (.lst ((F z).map V.int)) → Q (.ref q) H2) → te ((wipe σ vs).set j (some x)) H1 Q)
    (hd : ∀ D H' out, H D = none → Ex H H' → H' D = some (.lst out) → AllR (IsN H') out (zs.map F) → Q (.ref D) H') :
    ∃ p', V.ref p = V.ref p' ∧ (∃ xs, SqL K H p' xs) ∧ lcR (gName j) tYes te vs σ Q (Itl K p') H := by
  refine ⟨p, rfl, ⟨_, hx⟩, fun D hD => lc_list (xs := xs) (fun i H' => Ex H H' ∧ ∃ out, H' D = some (.lst out) ∧ AllR (fun v (z : List Int) => ∃ q, v = .ref q ∧ q ≠ D ∧ H' q = some (.lst (z.map V.int))) out ((zs.take i).map F)) ⟨Ex.new hD, [], upd_same, AllR.nil⟩ (fun i H' _ q => ex_l q.1 hx) (fun i y H' hi q => ?_) (fun H' q => ?_)⟩
  · obtain ⟨e, out, h1, h2⟩ := q
    obtain ⟨z, hz', rz⟩ := ha.getx hi
    have hm : z ∈ zs := List.mem_of_getElem? hz'
    have hlen : out.length < 100000 := by
      rw [h2.1, List.length_map, List.length_take]
      omega
    refine ⟨hw y, ?_⟩
    show te ((wipe σ vs).set j (some y)) H' fun y H4 => ∃ acc, H4 D = some (.lst acc) ∧ acc.length < sizeLine ∧ (Ex H (upd H4 D (.lst (acc ++ [y]))) ∧ ∃ out, (upd H4 D (.lst (acc ++ [y]))) D = some (.lst out) ∧ AllR (fun v (z : List Int) => ∃ q, v = .ref q ∧ q ≠ D ∧ (upd H4 D (.lst (acc ++ [y]))) q = some (.lst (z.map V.int))) out ((zs.take (i + 1)).map F))
    refine he y z hm rz H' e _ fun q H4 nq e4 r4 => ?_
    have nqD : q ≠ D := fun zz => by rw [zz, h1] at nq; cases nq
    refine ⟨out, e4 D _ h1, Nat.lt_of_lt_of_le hlen (by decide), Ex.mut (e.trans e4) hD, out ++ [.ref q], upd_same, ?_⟩
    rw [take_snoc hz', List.map_append]
    refine (h2.mono fun x z r => ?_).snoc ⟨q, rfl, nqD, by rw [upd_ne nqD]; exact r4⟩
    obtain ⟨q', rq, ne, hq'⟩ := r
    exact ⟨q', rq, ne, by rw [upd_ne ne]; exact e4 _ _ hq'⟩
  · obtain ⟨e, out, h1, h2⟩ := q
    rw [ha.1, List.take_length] at h2
    exact hd D H' out hD e h1 (h2.mono fun x z ⟨q, r, _, s⟩ => ⟨q, r, s⟩)
end
theorem det_term {r f : Int} {i : Nat} : (1 - 2 * ((i : Int) % 2)) * r * f = if i % 2 = 1 then -(r * f) else r * f := by
  split
  · rename_i h
    rw [show (i : Int) % 2 = 1 by omega, show (1 : Int) - 2 * 1 = -1 by decide, Int.neg_one_mul, Int.neg_mul]
  · rename_i h
    rw [show (i : Int) % 2 = 0 by omega, show (1 : Int) - 2 * 0 = 1 by decide, Int.one_mul]
theorem sgn_bd {i : Nat} {r : Int} (h : -(2 ^ 62) < r ∧ r < 2 ^ 62) : -(2 ^ 64) < (1 - 2 * ((i : Int) % 2)) * r ∧ (1 - 2 * ((i : Int) % 2)) * r < 2 ^ 64 := by
  by_cases hi : i % 2 = 1
  · rw [show (i : Int) % 2 = 1 by omega, show (1 : Int) - 2 * 1 = -1 by decide]; omega
  · rw [show (i : Int) % 2 = 0 by omega, show (1 : Int) - 2 * 0 = 1 by decide]; omega
section
local macro_rules | `(tactic| walk_at "rs") => `(tactic| first
  | with_reducible refine w_seq ?_
  | with_reducible refine w_asg ?_
  | ((with_reducible refine' w_var ?h ?_); (case h => exact rfl))
  | with_reducible refine w_c ?_
  | with_reducible refine w_op ?_
  | with_reducible refine w_I0 ?_
  | with_reducible refine w_cb ?_
  | with_reducible refine w_cons ?_
  | with_reducible refine w_nil ?_
  | with_reducible refine w_ret ?_
  | with_reducible refine w_call ?_
  | with_reducible refine w_if ?_
  | with_reducible refine w_test ?_
  | with_reducible refine w_exbl ?_
  | with_reducible refine w_eqI ?_
  | with_reducible refine w_neI ?_
  | with_reducible refine w_next ?_
  | with_reducible refine w_un ?_
  | with_reducible refine w_U ?_
  | with_reducible refine w_B ?_
  | with_reducible refine w_and ?_
  | with_reducible refine w_or ?_
  | with_reducible refine w_not ?_
  | with_reducible refine w_andV ?_
  | with_reducible refine w_notV ?_
  | with_reducible refine w_tup ?_
  | with_reducible refine w_lst ?_
  | with_reducible refine w_for ?_
  | with_reducible refine w_rng1 ?_
  | with_reducible refine w_rng2 ?_
  | with_reducible refine w_rng3 ?_
  | with_reducible refine w_iList ?_
  | with_reducible refine w_iTup ?_
  | with_reducible refine w_iRevA ?_
  | with_reducible refine w_lc ?_
  | with_reducible refine w_drop ?_
  | with_reducible refine w_par ?_
  | ((with_reducible refine' w_aug ?h ?_); (case h => exact rfl))
  | with_reducible refine w_sl ?_
  | with_reducible refine w_noPart ?_
  | with_reducible refine w_part ?_
  | with_reducible refine w_exint ?_
  | with_reducible refine w_revL ?_
  | with_reducible refine w_bm ?_
  | with_reducible refine w_augS ?_
  | with_reducible refine w_ip ?_
  | with_reducible refine w_gSub ?_
  | with_reducible refine w_gName ?_
  | with_reducible refine w_gCons ?_
  | with_reducible refine w_gNil ?_
  | with_reducible refine w_chain ?_
  | with_reducible refine w_asgG ?_)
local macro_rules | `(tactic| walk_at "rr") => `(tactic| repeat walk_at "rs")
local macro_rules | `(tactic| walk_at "rn1") => `(tactic| first
  | with_reducible refine w_seq ?_
  | with_reducible refine w_asg ?_
  | ((with_reducible refine' w_var ?h ?_); (case h => exact rfl))
  | with_reducible refine w_c ?_
  | with_reducible refine w_op ?_
  | with_reducible refine w_I0 ?_
  | with_reducible refine w_cb ?_
  | with_reducible refine w_cons ?_
  | with_reducible refine w_nil ?_
  | with_reducible refine w_ret ?_
  | with_reducible refine w_call ?_
  | with_reducible refine w_if ?_
  | with_reducible refine w_test ?_
  | with_reducible refine w_exbl ?_
  | with_reducible refine w_eqI ?_
  | with_reducible refine w_neI ?_
  | with_reducible refine w_next ?_
  | with_reducible refine w_un ?_
  | with_reducible refine w_U ?_
  | with_reducible refine w_B ?_
  | with_reducible refine w_and ?_
  | with_reducible refine w_or ?_
  | with_reducible refine w_not ?_
  | with_reducible refine w_andV ?_
  | with_reducible refine w_notV ?_
  | with_reducible refine w_lst ?_
  | with_reducible refine w_for ?_
  | with_reducible refine w_rng1 ?_
  | with_reducible refine w_rng2 ?_
  | with_reducible refine w_rng3 ?_
  | with_reducible refine w_iList ?_
  | with_reducible refine w_iTup ?_
  | with_reducible refine w_iRevA ?_
  | with_reducible refine w_lc ?_
  | with_reducible refine w_drop ?_
  | with_reducible refine w_par ?_
  | ((with_reducible refine' w_aug ?h ?_); (case h => exact rfl))
  | with_reducible refine w_sl ?_
  | with_reducible refine w_noPart ?_
  | with_reducible refine w_part ?_
  | with_reducible refine w_exint ?_
  | with_reducible refine w_revL ?_
  | with_reducible refine w_bm ?_
  | with_reducible refine w_augS ?_
  | with_reducible refine w_ip ?_
  | with_reducible refine w_gSub ?_
  | with_reducible refine w_gName ?_
  | with_reducible refine w_gCons ?_
  | with_reducible refine w_gNil ?_
  | with_reducible refine w_chain ?_
  | with_reducible refine w_asgG ?_)
local macro_rules | `(tactic| walk_at "rn") => `(tactic| repeat walk_at "rn1")

variable {P : Program} {w : World} {K : PySem.W.Frag} {mg : Str → Option Value} {base : Heap}
def sp__law_det (K : PySem.W.Frag) (k : Nat) : Sp := fun vs H Q _ => ∃ (p : Addr) (rs : List V) (rows : List (List Int)), vs = [.ref p] ∧ SqL K H p rs ∧ AllR (IsL K H) rs rows ∧ Sq (k + 1) rows ∧ k ≤ 3 ∧ Ret H Q fun _ v => v = .int (detL (k + 1) rows)
theorem ok__law_det (T : Txt K mg) : ∀ k, FnOk P w K mg base CX0 (k + 1) T._law_det.f T._law_det.fd ["_law_rows"] (sp__law_det K k)
  | 0 => by
    refine T._law_det.F.ok sc__law_det (fun vs H Q E h => ?_) (fun cdv A outer s H vs Q E hr h => ?_)
    · obtain ⟨p, rs, rows, rfl, _⟩ := h
      rfl
    · obtain ⟨p, rs, rows, rfl, hx, ha, hs, hk, k⟩ := h
      obtain ⟨r, hr0, hr1, hr2, hr3, hb⟩ := hs.at (i := 0) (by omega)
      obtain ⟨x, hx0, hxT⟩ := ha.get hr0
      obtain ⟨px, rfl, hpx⟩ := hxT
      have hl : rs.length = 1 := by rw [ha.1, hs.len]
      refine ⟨_, pss_cons (ps_if (pt_cmpR op_eq (pe_callB call_len_seq (by rfl) T.n_len (by decide +kernel) (pa_cons (pv 0) pa_nil)) pe_int (nomark _)) (pss_one (ps_ret (pe_ix (r := rIxL K) ix_list (pe_ix (r := rIxL K) ix_list (pv 0) pe_int (fun _ _ => rfl)) pe_int (fun _ _ => rfl)))) pss_nil) pss_never, ?_⟩
      rw [show L2.start N__law_det [V.ref p] = [some (.ref p), none, none, none, none] from rfl]
      try dsimp only [cxOf]
      walk_at "rr"
      refine ⟨p, _, rfl, .inl hx, ?_⟩
      rw [hl]
      walk_at "rr"
      refine iteT ?_
      walk_at "rr"
      refine w_ixL hx (atI_nat (j := 0) hx0) ?_
      walk_at "rr"
      refine w_ixLn hpx (atI_nat (j := 0) hr3) ?_
      refine k _ _ (Ex.refl H) ?_
      rw [detL, hr2]
  | n + 1 => by
    have G__law_det : FnOk P w K mg base CX0 (n + 1) T._law_det.f T._law_det.fd ["_law_rows"] (sp__law_det K n) := ok__law_det T n
    refine T._law_det.F.ok sc__law_det (fun vs H Q E h => ?_) (fun cdv A outer s H vs Q E hr h => ?_)
    · obtain ⟨p, rs, rows, rfl, _⟩ := h
      rfl
    · obtain ⟨p, rs, rows, rfl, hx, ha, hs, hk, k⟩ := h
      have hl : rs.length = n + 2 := by rw [ha.1, hs.len]
      refine ⟨_, (pss_cons (ps_if (pt_cmpR op_eq (pe_callB call_len_seq (by rfl) T.n_len (by decide +kernel) (pa_cons (pv 0) pa_nil)) pe_int (nomark _))
        (pss_one (ps_ret (pe_ix (r := rIxL K) ix_list (pe_ix (r := rIxL K) ix_list (pv 0) pe_int (fun _ _ => rfl)) pe_int (fun _ _ => rfl))))
        pss_nil)
      (pss_cons (ps_set (i := 1) sc__law_det.nd rfl (.inl rfl) pe_int)
      (pss_cons (ps_for PassesOwn.never rfl (pi_range1 (by rfl) T.n_range (pa_cons (pe_callB call_len_seq (by rfl) T.n_len (by decide +kernel) (pa_cons (pv 0) pa_nil)) pa_nil)) (pg_name (i := 2) sc__law_det.nd rfl (.inl rfl))
        (pss_cons (ps_setLc (i := 3) (own := [("_law_row_here", 4)]) (g := gName 4) (by rfl) sc__law_det.nd rfl rfl (sw_true rfl rfl rfl (by decide +kernel)) (pi_list (pe_op op_cat (pe_slice (r := rSlL K) sl_list (pv 0) po_none (po_some (pv 2))) (pe_slice (r := rSlL K) sl_list (pv 0) (po_some (pe_op op_add (pv 2) pe_int)) po_none))) (blkOk_by (own := [("_law_row_here", 4)]) (N := N__law_det) (sc := defScope s__law_det) (by decide +kernel)) (fun _ _ _ _ _ => pg_name (i := 4) sc__law_det.nd rfl (Or.inl rfl)) (fun _ _ _ _ _ => pts_nil) (fun _ _ _ _ _ => (pe_slice (r := rSlL K) sl_list (pv 4) (po_some pe_int) po_none)))
          (pss_one (ps_set (i := 1) sc__law_det.nd rfl (.inl rfl) (pe_op op_add (pv 1) (pe_op op_mul (pe_op op_mul (pe_op op_sub pe_int (pe_op op_mul pe_int (pe_op op_mod (pv 2) pe_int))) (pe_ix (r := rIxL K) ix_list (pe_ix (r := rIxL K) ix_list (pv 0) (pv 2) (fun _ _ => rfl)) pe_int (fun _ _ => rfl))) (pe_call G__law_det (hr.mono (by omega)) (by rfl) T._law_det.g T._law_det.F.kp T._law_det.b .nil pass0 (pa_cons (pv 3) pa_nil))))))))
      (pss_one (ps_ret (pv 1)))))), ?_⟩
      rw [show L2.start N__law_det [V.ref p] = [some (.ref p), none, none, none, none] from rfl]
      try dsimp only [cxOf]
      walk_at "rr"
      refine ⟨p, _, rfl, .inl hx, ?_⟩
      rw [hl]
      walk_at "rr"
      refine w_ite (fun h => by omega) (fun _ => ?_)
      walk_at "rr"
      refine ⟨p, _, rfl, .inl hx, ?_⟩
      rw [hl]
      walk_at "rr"
      refine f_r1 (by omega) (by omega) (fun i σ' H' => ∃ y2 y3, σ' = [some (.ref p), some (.int (detS (detL (n + 1)) rows i)), y2, y3, none] ∧ Ex H H') ⟨none, none, rfl, Ex.refl H⟩ (fun i σ' H' hi hq => ?_) (fun σ' H' hq => ?_)
      · obtain ⟨y2, y3, rfl, e⟩ := hq
        have hi' : i < n + 2 := by omega
        obtain ⟨r, hr0, hr1, hr2, hr3, hb⟩ := hs.at hi'
        obtain ⟨x, hx0, hxT⟩ := ha.get hr0
        obtain ⟨px, rfl, hpx⟩ := hxT
        walk_at "rr"
        refine ⟨p, _, rfl, ex_l e hx, fun q1 n1 => ?_⟩
        walk_at "rr"
        refine ⟨p, _, rfl, ex_l (e.trans (Ex.new n1)) hx, fun q2 n2 => ?_⟩
        have n12 : q1 ≠ q2 := fun z => by rw [← z, upd_same] at n2; cases n2
        have h1 : (upd (upd H' q1 (.lst (cutV rs none (some (i : Int))))) q2 (.lst (cutV rs (some ((i : Int) + 1)) none))) q1 = some (.lst (rs.take i)) := by
          rw [upd_ne n12, upd_same, cutV_to _ (by omega)]
        have h2 : (upd (upd H' q1 (.lst (cutV rs none (some (i : Int))))) q2 (.lst (cutV rs (some ((i : Int) + 1)) none))) q2 = some (.lst (rs.drop (i + 1))) := by
          rw [upd_same, show (i : Int) + 1 = ((i + 1 : Nat) : Int) by omega, cutV_from _ (by omega)]
        have e2 : Ex H' (upd (upd H' q1 (.lst (cutV rs none (some (i : Int))))) q2 (.lst (cutV rs (some ((i : Int) + 1)) none))) := (Ex.new n1).trans (Ex.new n2)
        generalize (upd (upd H' q1 (.lst (cutV rs none (some (i : Int))))) q2 (.lst (cutV rs (some ((i : Int) + 1)) none))) = H2 at h1 h2 e2
        refine ⟨q1, q2, _, _, rfl, rfl, h1, h2, Nat.le_of_lt (small1000 (by rw [List.length_take, List.length_drop]; omega)), fun q3 n3 => ?_⟩
        have h3 : SqL K (upd H2 q3 (.lst (rs.take i ++ rs.drop (i + 1)))) q3 (rs.take i ++ rs.drop (i + 1)) := .inl (.inl upd_same)
        have e3 : Ex H2 (upd H2 q3 (.lst (rs.take i ++ rs.drop (i + 1)))) := Ex.new n3
        generalize upd H2 q3 (.lst (rs.take i ++ rs.drop (i + 1))) = H3 at h3 e3
        have e03 : Ex H H3 := e.trans (e2.trans e3)
        refine c_listN (Rin := IsL K H3) (zs := rows.take i ++ rows.drop (i + 1)) (fun z : List Int => z.drop 1) h3 (((ha.take i).append (ha.drop (i + 1))).mono fun x z r => r.ex e03) (by rw [List.length_append, List.length_take, List.length_drop, hs.len]; omega) (fun _ => rfl) (fun x z hz r H4 e4 Q' q' => ?_) (fun D H4 out hD e4 h4 ha4 => ?_)
        · obtain ⟨px, rfl, hpx⟩ := r
          have hzl : z.length = n + 2 := hs.wid z ((List.mem_append.mp hz).elim List.mem_of_mem_take List.mem_of_mem_drop)
          walk_at "rr"
          refine ⟨px, _, rfl, ex_l e4 hpx, fun q5 n5 => ?_⟩
          refine q' q5 _ n5 (Ex.new n5) ?_
          rw [upd_same, show (1 : Int) = ((1 : Nat) : Int) from rfl, cutV_from _ (by rw [List.length_map]; omega), ← List.map_drop]
        · walk_at "rr"
          refine w_I (show (0 : Int) < 2 by decide) ?_
          walk_at "rr"
          refine w_I (w_CMul1 (by decide) (by decide)) ?_
          walk_at "rr"
          refine w_ixL (ex_l (e03.trans e4) hx) (atI_nat hx0) ?_
          walk_at "rr"
          refine w_ixLn (ex_l (e03.trans e4) hpx) (atI_nat (j := 0) hr3) ?_
          refine w_I (w_CMul1 (by omega) (by omega)) ?_
          have hsb := sgn_bd (i := i) hb
          walk_at "rr"
          refine ⟨D, out, minorL rows i, rfl, .inl (.inl h4), ha4.mono fun _ _ r => r.l, hs.minor hi', by omega, fun v H5 e5 r5 => ?_⟩
          subst r5
          refine w_I (w_CMul1 hsb.1 hsb.2) ?_
          walk_at "rr"
          refine ⟨some (.int i), some (.ref D), ?_, e03.trans (e4.trans e5)⟩
          rw [detS, hr2, det_term]
          rfl
      · obtain ⟨y2, y3, rfl, e⟩ := hq
        walk_at "rr"
        exact k _ _ e rfl
end
end RH

set_option Elab.async false
set_option linter.all false
set_option maxRecDepth 100000
set_option maxHeartbeats 4000000
namespace RH
open PySem PySem.Spec PyProof.Rows L2 Evl
/-! ### the law's product -/
def tmIn (xs ys l : List Int) (i : Nat) : Nat → List Int
  | 0 => l
  | j + 1 => (tmIn xs ys l i j).set (i + j) ((tmIn xs ys l i j).getD (i + j) 0 + xs.getD i 0 * ys.getD j 0)
def tmOut (xs ys : List Int) (n : Nat) : Nat → List Int
  | 0 => List.replicate (2 * n - 1) 0
  | i + 1 => tmIn xs ys (tmOut xs ys n i) i n
def rdIn (ns l : List Int) (n k : Nat) : Nat → List Int
  | 0 => l
  | j + 1 => (rdIn ns l n k j).set (k - n + j) ((rdIn ns l n k j).getD (k - n + j) 0 - (rdIn ns l n k j).getD k 0 * ns.getD j 0)
def rdOut (ns l : List Int) (n : Nat) : Nat → List Int
  | 0 => l
  | t + 1 => rdIn ns (rdOut ns l n t) n (2 * n - 2 - t) n
def timesM (ns xs ys : List Int) : List Int := (rdOut ns (tmOut xs ys (ns.length - 1) (ns.length - 1)) (ns.length - 1) (ns.length - 2)).take (ns.length - 1)
theorem tmIn_len {xs ys l : List Int} {i : Nat} : ∀ j, (tmIn xs ys l i j).length = l.length
  | 0 => rfl
  | j + 1 => by rw [tmIn, List.length_set, tmIn_len j]
theorem tmOut_len {xs ys : List Int} {n : Nat} : ∀ i, (tmOut xs ys n i).length = 2 * n - 1
  | 0 => List.length_replicate ..
  | i + 1 => by rw [tmOut, tmIn_len, tmOut_len i]
theorem rdIn_len {ns l : List Int} {n k : Nat} : ∀ j, (rdIn ns l n k j).length = l.length
  | 0 => rfl
  | j + 1 => by rw [rdIn, List.length_set, rdIn_len j]
theorem rdOut_len {ns l : List Int} {n : Nat} : ∀ i, (rdOut ns l n i).length = l.length
  | 0 => rfl
  | i + 1 => by rw [rdOut, rdIn_len, rdOut_len i]
theorem rep_one (k : Nat) (x : V) : (List.replicate k [x]).flatten = List.replicate k x := by
  induction k with
  | zero => rfl
  | succ k ih => rw [List.replicate_succ, List.flatten_cons, ih]; rfl
section
local macro_rules | `(tactic| walk_at "rs") => `(tactic| first
  | with_reducible refine w_seq ?_
  | with_reducible refine w_asg ?_
  | ((with_reducible refine' w_var ?h ?_); (case h => exact rfl))
  | with_reducible refine w_c ?_
  | with_reducible refine w_op ?_
  | with_reducible refine w_I0 ?_
  | with_reducible refine w_cb ?_
  | with_reducible refine w_cons ?_
  | with_reducible refine w_nil ?_
  | with_reducible refine w_ret ?_
  | with_reducible refine w_call ?_
  | with_reducible refine w_if ?_
  | with_reducible refine w_test ?_
  | with_reducible refine w_exbl ?_
  | with_reducible refine w_eqI ?_
  | with_reducible refine w_neI ?_
  | with_reducible refine w_next ?_
  | with_reducible refine w_un ?_
  | with_reducible refine w_U ?_
  | with_reducible refine w_B ?_
  | with_reducible refine w_and ?_
  | with_reducible refine w_or ?_
  | with_reducible refine w_not ?_
  | with_reducible refine w_andV ?_
  | with_reducible refine w_notV ?_
  | with_reducible refine w_tup ?_
  | with_reducible refine w_lst ?_
  | with_reducible refine w_for ?_
  | with_reducible refine w_rng1 ?_
  | with_reducible refine w_rng2 ?_
  | with_reducible refine w_rng3 ?_
  | with_reducible refine w_iList ?_
  | with_reducible refine w_iTup ?_
  | with_reducible refine w_iRevA ?_
  | with_reducible refine w_lc ?_
  | with_reducible refine w_drop ?_
  | with_reducible refine w_par ?_
  | ((with_reducible refine' w_aug ?h ?_); (case h => exact rfl))
  | with_reducible refine w_sl ?_
  | with_reducible refine w_noPart ?_
  | with_reducible refine w_part ?_
  | with_reducible refine w_exint ?_
  | with_reducible refine w_revL ?_
  | with_reducible refine w_bm ?_
  | with_reducible refine w_augS ?_
  | with_reducible refine w_ip ?_
  | with_reducible refine w_gSub ?_
  | with_reducible refine w_gName ?_
  | with_reducible refine w_gCons ?_
  | with_reducible refine w_gNil ?_
  | with_reducible refine w_chain ?_
  | with_reducible refine w_asgG ?_)
local macro_rules | `(tactic| walk_at "rr") => `(tactic| repeat walk_at "rs")
local macro_rules | `(tactic| walk_at "rn1") => `(tactic| first
  | with_reducible refine w_seq ?_
  | with_reducible refine w_asg ?_
  | ((with_reducible refine' w_var ?h ?_); (case h => exact rfl))
  | with_reducible refine w_c ?_
  | with_reducible refine w_op ?_
  | with_reducible refine w_I0 ?_
  | with_reducible refine w_cb ?_
  | with_reducible refine w_cons ?_
  | with_reducible refine w_nil ?_
  | with_reducible refine w_ret ?_
  | with_reducible refine w_call ?_
  | with_reducible refine w_if ?_
  | with_reducible refine w_test ?_
  | with_reducible refine w_exbl ?_
  | with_reducible refine w_eqI ?_
  | with_reducible refine w_neI ?_
  | with_reducible refine w_next ?_
  | with_reducible refine w_un ?_
  | with_reducible refine w_U ?_
  | with_reducible refine w_B ?_
  | with_reducible refine w_and ?_
  | with_reducible refine w_or ?_
  | with_reducible refine w_not ?_
  | with_reducible refine w_andV ?_
  | with_reducible refine w_notV ?_
  | with_reducible refine w_lst ?_
  | with_reducible refine w_for ?_
  | with_reducible refine w_rng1 ?_
  | with_reducible refine w_rng2 ?_
  | with_reducible refine w_rng3 ?_
  | with_reducible refine w_iList ?_
  | with_reducible refine w_iTup ?_
  | with_reducible refine w_iRevA ?_
  | with_reducible refine w_lc ?_
  | with_reducible refine w_drop ?_
  | with_reducible refine w_par ?_
  | ((with_reducible refine' w_aug ?h ?_); (case h => exact rfl))
  | with_reducible refine w_sl ?_
  | with_reducible refine w_noPart ?_
  | with_reducible refine w_part ?_
  | with_reducible refine w_exint ?_
  | with_reducible refine w_revL ?_
  | with_reducible refine w_bm ?_
  | with_reducible refine w_augS ?_
  | with_reducible refine w_ip ?_
  | with_reducible refine w_gSub ?_
  | with_reducible refine w_gName ?_
  | with_reducible refine w_gCons ?_
  | with_reducible refine w_gNil ?_
  | with_reducible refine w_chain ?_
  | with_reducible refine w_asgG ?_)
local macro_rules | `(tactic| walk_at "rn") => `(tactic| repeat walk_at "rn1")

variable {P : Program} {w : World} {K : PySem.W.Frag} {mg : Str → Option Value} {base : Heap}
def sp__law_times (K : PySem.W.Frag) : Sp := fun vs H Q _ => ∃ (p px py : Addr) (ns xs ys : List Int), vs = [.ref p, .ref px, .ref py] ∧ SqT K H p (ns.map V.int) ∧ SqT K H px (xs.map V.int) ∧ SqT K H py (ys.map V.int) ∧ IsPoly ns ∧ xs.length + 1 = ns.length ∧ ys.length + 1 = ns.length ∧ (∀ x ∈ xs, -1 ≤ x ∧ x ≤ 1) ∧ Ret H Q fun H' v => IsT K H' v (timesM ns xs ys)
theorem ok__law_times (T : Txt K mg) : FnOk P w K mg base CX0 1 T._law_times.f T._law_times.fd ["_law_poly", "_law_x", "_law_y"] (sp__law_times K) := by
  refine T._law_times.F.ok sc__law_times (fun vs H Q E h => ?_) (fun cdv A outer st H vs Q E hr h => ?_)
  · obtain ⟨p, px, py, ns, xs, ys, rfl, _⟩ := h
    rfl
  · obtain ⟨p, px, py, ns, xs, ys, rfl, hx, hpx, hpy, hp, lx, ly, bx, k⟩ := h
    have hl := hp.len
    refine ⟨_, (pss_cons (ps_set (i := 3) sc__law_times.nd rfl (.inl rfl) (pe_op op_sub (pe_callB call_len_seq (by rfl) T.n_len (by decide +kernel) (pa_cons (pv 0) pa_nil)) pe_int))
      (pss_cons (ps_set (i := 4) sc__law_times.nd rfl (.inl rfl) (pe_op op_rep (pe_lst (pa_cons pe_int pa_nil)) (pe_op op_sub (pe_op op_mul pe_int (pv 3)) pe_int)))
      (pss_cons (ps_for PassesOwn.never rfl (pi_range1 (by rfl) T.n_range (pa_cons (pv 3) pa_nil)) (pg_name (i := 5) sc__law_times.nd rfl (.inl rfl))
        (pss_one (ps_for PassesOwn.never rfl (pi_range1 (by rfl) T.n_range (pa_cons (pv 3) pa_nil)) (pg_name (i := 6) sc__law_times.nd rfl (.inl rfl))
            (pss_one (ps_asg (pe_op op_add (pe_ix (r := rIxL K) ix_list (pv 4) (pe_op op_add (pv 5) (pv 6)) (fun _ _ => rfl)) (pe_op op_mul (pe_ix (r := rIxT K) ix_tup (pv 1) (pv 5) (fun _ _ => rfl)) (pe_ix (r := rIxT K) ix_tup (pv 2) (pv 6) (fun _ _ => rfl)))) (pg_sub (pv 4) (pe_op op_add (pv 5) (pv 6)) set_list))))))
      (pss_cons (ps_for PassesOwn.never rfl (pi_range3 (by rfl) T.n_range (pa_cons (pe_op op_sub (pe_op op_mul pe_int (pv 3)) pe_int) (pa_cons (pe_op op_sub (pv 3) pe_int) (pa_cons (pe_un un_neg pe_int) pa_nil)))) (pg_name (i := 7) sc__law_times.nd rfl (.inl rfl))
        (pss_one (ps_for PassesOwn.never rfl (pi_range1 (by rfl) T.n_range (pa_cons (pv 3) pa_nil)) (pg_name (i := 6) sc__law_times.nd rfl (.inl rfl))
            (pss_cons (ps_set (i := 8) sc__law_times.nd rfl (.inl rfl) (pe_op op_add (pe_op op_sub (pv 7) (pv 3)) (pv 6)))
              (pss_one (ps_asg (pe_op op_sub (pe_ix (r := rIxL K) ix_list (pv 4) (pv 8) (fun _ _ => rfl)) (pe_op op_mul (pe_ix (r := rIxL K) ix_list (pv 4) (pv 7) (fun _ _ => rfl)) (pe_ix (r := rIxT K) ix_tup (pv 0) (pv 6) (fun _ _ => rfl)))) (pg_sub (pv 4) (pv 8) set_list)))))))
      (pss_one (ps_ret (pe_callTy call_tuple_of (by rfl) T.n_tuple (by decide +kernel) (pa_cons (pe_slice (r := rSlL K) sl_list (pv 4) po_none (po_some (pv 3))) pa_nil)))))))), ?_⟩
    rw [show L2.start N__law_times [V.ref p, .ref px, .ref py] = [some (.ref p), some (.ref px), some (.ref py), none, none, none, none, none, none] from rfl]
    try dsimp only [cxOf]
    walk_at "rr"
    refine ⟨p, _, rfl, .inr hx, ?_⟩
    rw [List.length_map]
    obtain ⟨n, hn⟩ : ∃ n, ns.length = n + 1 := ⟨ns.length - 1, by omega⟩
    have hk : timesM ns xs ys = (rdOut ns (tmOut xs ys n n) n (n - 1)).take n := by
      unfold timesM
      rw [hn]
      rfl
    rw [hk] at k
    rw [hn]
    refine w_c ?_
    refine w_I0 ?_
    rw [show ((n + 1 : Nat) : Int) - 1 = (n : Int) by omega]
    walk_at "rr"
    refine ⟨by show 1 ≤ sizeLine; decide, fun q n1 => ?_⟩
    walk_at "rr"
    refine w_I (w_CMul1 (by decide) (by decide)) ?_
    walk_at "rr"
    refine ⟨q, 2 * (n : Int) - 1, [.int 0], rfl, rfl, upd_same, by omega, by omega, ?_, fun L hL => ?_⟩
    · show 1 * (2 * (n : Int) - 1).toNat ≤ sizeLine
      refine Nat.le_trans (m := 10) (by omega) (by decide)
    have hL0 : H L = none := by
      by_cases hq : L = q
      · rw [hq, upd_same] at hL; cases hL
      · rwa [upd_ne hq] at hL
    have e1 : Ex H (upd (upd H q (.lst [.int 0])) L (.lst (List.replicate (2 * (n : Int) - 1).toNat [V.int 0]).flatten)) := (Ex.new n1).trans (Ex.new hL)
    have h1 : (upd (upd H q (.lst [.int 0])) L (.lst (List.replicate (2 * (n : Int) - 1).toNat [V.int 0]).flatten)) L = some (.lst ((tmOut xs ys n 0).map V.int)) := by
      rw [upd_same, rep_one, tmOut, List.map_replicate, show (2 * (n : Int) - 1).toNat = 2 * n - 1 by omega]
    generalize (upd (upd H q (.lst [.int 0])) L (.lst (List.replicate (2 * (n : Int) - 1).toNat [V.int 0]).flatten)) = H1 at e1 h1
    walk_at "rr"
    refine f_r1 (by omega) (by omega) (fun i σ' H' => ∃ y5 y6, σ' = [some (.ref p), some (.ref px), some (.ref py), some (.int (n : Int)), some (.ref L), y5, y6, none, none] ∧ Ex H H' ∧ H' L = some (.lst ((tmOut xs ys n i).map V.int)))
      ⟨none, none, rfl, e1, h1⟩ (fun i σ' H' hi hq => ?_) (fun σ' H' hq => ?_)
    · obtain ⟨y5, y6, rfl, e, h1⟩ := hq
      have lr := tmOut_len (xs := xs) (ys := ys) (n := n) i
      have hix : i < xs.length := by omega
      have bxi := bx _ (List.mem_of_getElem? (getD_get hix))
      walk_at "rr"
      refine f_r1 (by omega) (by omega) (fun j σ' H' => ∃ y6, σ' = [some (.ref p), some (.ref px), some (.ref py), some (.int (n : Int)), some (.ref L), some (.int (i : Int)), y6, none, none] ∧ Ex H H' ∧ H' L = some (.lst ((tmIn xs ys (tmOut xs ys n i) i j).map V.int)))
        ⟨y6, rfl, e, h1⟩ (fun j σ' H' hj hq => ?_) (fun σ' H' hq => ?_)
      · obtain ⟨y6, rfl, e, h1⟩ := hq
        have lj := tmIn_len (xs := xs) (ys := ys) (l := tmOut xs ys n i) (i := i) j
        have hjy : j < ys.length := by omega
        walk_at "rr"
        rw [show (i : Int) + (j : Int) = ((i + j : Nat) : Int) by omega]
        refine w_ixLn (.inl (.inl h1)) (atI_nat (getD_get (show i + j < (tmIn xs ys (tmOut xs ys n i) i j).length by omega))) ?_
        walk_at "rr"
        refine w_ixTn (ex_t e hpx) (atI_nat (getD_get hix)) ?_
        walk_at "rr"
        refine w_ixTn (ex_t e hpy) (atI_nat (getD_get hjy)) ?_
        refine w_I (w_CMul1 (by omega) (by omega)) ?_
        walk_at "rr"
        rw [show (i : Int) + (j : Int) = ((i + j : Nat) : Int) by omega]
        refine w_setL h1 (by rw [List.length_map]; omega) ?_
        refine ⟨_, rfl, Ex.mut e hL0, ?_⟩
        rw [upd_same, tmIn, List.map_set]
      · obtain ⟨y6, rfl, e, h1⟩ := hq
        exact ⟨_, _, rfl, e, h1⟩
    · obtain ⟨y5, y6, rfl, e, h1⟩ := hq
      rw [Int.toNat_natCast] at h1
      have lt := tmOut_len (xs := xs) (ys := ys) (n := n) n
      walk_at "rr"
      refine w_I (w_CMul1 (by decide) (by decide)) ?_
      walk_at "rr"
      refine f_r3 (by omega) (by omega) (by omega) (by omega) (fun t σ' H' => ∃ y6 y7 y8, σ' = [some (.ref p), some (.ref px), some (.ref py), some (.int (n : Int)), some (.ref L), y5, y6, y7, y8] ∧ Ex H H' ∧ H' L = some (.lst ((rdOut ns (tmOut xs ys n n) n t).map V.int)))
        ⟨y6, none, none, rfl, e, h1⟩ (fun t σ' H' ht hq => ?_) (fun σ' H' hq => ?_)
      · obtain ⟨y6, y7, y8, rfl, e, h1⟩ := hq
        have lr := rdOut_len (ns := ns) (l := tmOut xs ys n n) (n := n) t
        rw [show 2 * (n : Int) - 2 - (t : Int) = ((2 * n - 2 - t : Nat) : Int) by omega]
        walk_at "rr"
        refine f_r1 (by omega) (by omega) (fun j σ' H' => ∃ y6 y8, σ' = [some (.ref p), some (.ref px), some (.ref py), some (.int (n : Int)), some (.ref L), y5, y6, some (.int ((2 * n - 2 - t : Nat) : Int)), y8] ∧ Ex H H' ∧ H' L = some (.lst ((rdIn ns (rdOut ns (tmOut xs ys n n) n t) n (2 * n - 2 - t) j).map V.int)))
          ⟨y6, y8, rfl, e, h1⟩ (fun j σ' H' hj hq => ?_) (fun σ' H' hq => ?_)
        · obtain ⟨y6, y8, rfl, e, h1⟩ := hq
          have lj := rdIn_len (ns := ns) (l := rdOut ns (tmOut xs ys n n) n t) (n := n) (k := 2 * n - 2 - t) j
          have hjn : j < ns.length := by omega
          have bn := hp.bd (List.mem_of_getElem? (getD_get hjn))
          walk_at "rr"
          rw [show ((2 * n - 2 - t : Nat) : Int) - (n : Int) + (j : Int) = ((2 * n - 2 - t - n + j : Nat) : Int) by omega]
          walk_at "rr"
          refine w_ixLn (.inl (.inl h1)) (atI_nat (getD_get (show 2 * n - 2 - t - n + j < (rdIn ns (rdOut ns (tmOut xs ys n n) n t) n (2 * n - 2 - t) j).length by omega))) ?_
          walk_at "rr"
          refine w_ixLn (.inl (.inl h1)) (atI_nat (getD_get (show 2 * n - 2 - t < (rdIn ns (rdOut ns (tmOut xs ys n n) n t) n (2 * n - 2 - t) j).length by omega))) ?_
          walk_at "rr"
          refine w_ixTn (ex_t e hx) (atI_nat (getD_get hjn)) ?_
          refine w_I (w_CMul2 (by omega) (by omega)) ?_
          walk_at "rr"
          refine w_setL h1 (by rw [List.length_map]; omega) ?_
          refine ⟨_, _, rfl, Ex.mut e hL0, ?_⟩
          rw [upd_same, rdIn, List.map_set]
        · obtain ⟨y6, y8, rfl, e, h1⟩ := hq
          exact ⟨_, _, _, rfl, e, h1⟩
      · obtain ⟨y6, y7, y8, rfl, e, h1⟩ := hq
        rw [show (2 * (n : Int) - 2 - ((n : Int) - 1)).toNat = n - 1 by omega] at h1
        have lr := rdOut_len (ns := ns) (l := tmOut xs ys n n) (n := n) (n - 1)
        walk_at "rr"
        refine ⟨L, _, rfl, .inl (.inl h1), fun q2 n2 => ?_⟩
        rw [cutV_to _ (by rw [List.length_map]; omega), ← List.map_take]
        walk_at "rr"
        refine ⟨q2, _, rfl, .inl ⟨.inl (.inl upd_same), fun q3 n3 => ?_⟩⟩
        exact k _ _ (e.trans ((Ex.new n2).trans (Ex.new n3))) ⟨q3, rfl, .inl (.inl upd_same)⟩
end
end RH

set_option Elab.async false
set_option linter.all false
set_option maxRecDepth 100000
set_option maxHeartbeats 4000000
namespace RH
open PySem PySem.Spec PyProof.Rows L2 Evl
theorem FnOk.union {P : Program} {w : World} {K : PySem.W.Frag} {mg : Str → Option Value} {base : Heap} {CX : CXT} {n m : Nat} {f : Addr} {fd : FuncData} {ps : List Str} {sp : Nat → Sp} (h : ∀ k, k ≤ m → FnOk P w K mg base CX n f fd ps (sp k)) :
    FnOk P w K mg base CX n f fd ps (fun vs H Q E => ∃ k, k ≤ m ∧ sp k vs H Q E) :=
  ⟨fun vs H Q E ⟨k, hk, q⟩ => (h k hk).len vs H Q E q, fun A outer s H args us vs Q E hr he hb hv ⟨k, hk, q⟩ => (h k hk).run A outer s H args us vs Q E hr he hb hv q⟩
/-! ### the law's table -/
def turnM (n : Nat) : List Int := (List.range n).map fun i : Nat => if decide (0 + (i : Int) = 1) = true then 1 else 0
def rowAt (ns xs : List Int) : Nat → List Int
  | 0 => xs
  | k + 1 => timesM ns (turnM (ns.length - 1)) (rowAt ns xs k)
def tabM (ns xs : List Int) (n : Nat) : List (List Int) := (List.range n).map (rowAt ns xs)
theorem timesM_len {ns xs ys : List Int} (h : 2 ≤ ns.length) : (timesM ns xs ys).length = ns.length - 1 := by
  unfold timesM
  rw [List.length_take, rdOut_len, tmOut_len]
  omega
theorem rowAt_len {ns xs : List Int} (h : 2 ≤ ns.length) (hx : xs.length + 1 = ns.length) : ∀ k, (rowAt ns xs k).length + 1 = ns.length
  | 0 => hx
  | k + 1 => by rw [rowAt, timesM_len h]; omega
theorem turnM_len {n : Nat} : (turnM n).length = n := by unfold turnM; rw [List.length_map, List.length_range]
theorem turnM_bd {n : Nat} : ∀ x ∈ turnM n, -1 ≤ x ∧ x ≤ 1 := fun x hx => by
  obtain ⟨i, _, rfl⟩ := List.mem_map.mp hx
  split <;> omega
section
local macro_rules | `(tactic| walk_at "rs") => `(tactic| first
  | with_reducible refine w_seq ?_
  | with_reducible refine w_asg ?_
  | ((with_reducible refine' w_var ?h ?_); (case h => exact rfl))
  | with_reducible refine w_c ?_
  | with_reducible refine w_op ?_
  | with_reducible refine w_I0 ?_
  | with_reducible refine w_cb ?_
  | with_reducible refine w_cons ?_
  | with_reducible refine w_nil ?_
  | with_reducible refine w_ret ?_
  | with_reducible refine w_call ?_
  | with_reducible refine w_if ?_
  | with_reducible refine w_test ?_
  | with_reducible refine w_exbl ?_
  | with_reducible refine w_eqI ?_
  | with_reducible refine w_neI ?_
  | with_reducible refine w_next ?_
  | with_reducible refine w_un ?_
  | with_reducible refine w_U ?_
  | with_reducible refine w_B ?_
  | with_reducible refine w_and ?_
  | with_reducible refine w_or ?_
  | with_reducible refine w_not ?_
  | with_reducible refine w_andV ?_
  | with_reducible refine w_notV ?_
  | with_reducible refine w_tup ?_
  | with_reducible refine w_lst ?_
  | with_reducible refine w_for ?_
  | with_reducible refine w_rng1 ?_
  | with_reducible refine w_rng2 ?_
  | with_reducible refine w_rng3 ?_
  | with_reducible refine w_iList ?_
  | with_reducible refine w_iTup ?_
  | with_reducible refine w_iRevA ?_
  | with_reducible refine w_lc ?_
  | with_reducible refine w_drop ?_
  | with_reducible refine w_par ?_
  | ((with_reducible refine' w_aug ?h ?_); (case h => exact rfl))
  | with_reducible refine w_sl ?_
  | with_reducible refine w_noPart ?_
  | with_reducible refine w_part ?_
  | with_reducible refine w_exint ?_
  | with_reducible refine w_revL ?_
  | with_reducible refine w_bm ?_
  | with_reducible refine w_augS ?_
  | with_reducible refine w_ip ?_
  | with_reducible refine w_gSub ?_
  | with_reducible refine w_gName ?_
  | with_reducible refine w_gCons ?_
  | with_reducible refine w_gNil ?_
  | with_reducible refine w_chain ?_
  | with_reducible refine w_asgG ?_)
local macro_rules | `(tactic| walk_at "rr") => `(tactic| repeat walk_at "rs")
local macro_rules | `(tactic| walk_at "rn1") => `(tactic| first
  | with_reducible refine w_seq ?_
  | with_reducible refine w_asg ?_
  | ((with_reducible refine' w_var ?h ?_); (case h => exact rfl))
  | with_reducible refine w_c ?_
  | with_reducible refine w_op ?_
  | with_reducible refine w_I0 ?_
  | with_reducible refine w_cb ?_
  | with_reducible refine w_cons ?_
  | with_reducible refine w_nil ?_
  | with_reducible refine w_ret ?_
  | with_reducible refine w_call ?_
  | with_reducible refine w_if ?_
  | with_reducible refine w_test ?_
  | with_reducible refine w_exbl ?_
  | with_reducible refine w_eqI ?_
  | with_reducible refine w_neI ?_
  | with_reducible refine w_next ?_
  | with_reducible refine w_un ?_
  | with_reducible refine w_U ?_
  | with_reducible refine w_B ?_
  | with_reducible refine w_and ?_
  | with_reducible refine w_or ?_
  | with_reducible refine w_not ?_
  | with_reducible refine w_andV ?_
  | with_reducible refine w_notV ?_
  | with_reducible refine w_lst ?_
  | with_reducible refine w_for ?_
  | with_reducible refine w_rng1 ?_
  | with_reducible refine w_rng2 ?_
  | with_reducible refine w_rng3 ?_
  | with_reducible refine w_iList ?_
  | with_reducible refine w_iTup ?_
  | with_reducible refine w_iRevA ?_
  | with_reducible refine w_lc ?_
  | with_reducible refine w_drop ?_
  | with_reducible refine w_par ?_
  | ((with_reducible refine' w_aug ?h ?_); (case h => exact rfl))
  | with_reducible refine w_sl ?_
  | with_reducible refine w_noPart ?_
  | with_reducible refine w_part ?_
  | with_reducible refine w_exint ?_
  | with_reducible refine w_revL ?_
  | with_reducible refine w_bm ?_
  | with_reducible refine w_augS ?_
  | with_reducible refine w_ip ?_
  | with_reducible refine w_gSub ?_
  | with_reducible refine w_gName ?_
  | with_reducible refine w_gCons ?_
  | with_reducible refine w_gNil ?_
  | with_reducible refine w_chain ?_
  | with_reducible refine w_asgG ?_)
local macro_rules | `(tactic| walk_at "rn") => `(tactic| repeat walk_at "rn1")

variable {P : Program} {w : World} {K : PySem.W.Frag} {mg : Str → Option Value} {base : Heap}
def sp__law_table (K : PySem.W.Frag) : Sp := fun vs H Q _ => ∃ (p px : Addr) (ns xs : List Int), vs = [.ref p, .ref px] ∧ SqT K H p (ns.map V.int) ∧ SqT K H px (xs.map V.int) ∧ IsPoly ns ∧ xs.length + 1 = ns.length ∧ Ret H Q fun H' v => ∃ L out, v = .ref L ∧ H' L = some (.lst out) ∧ AllR (IsT K H') out (tabM ns xs (ns.length - 1))
theorem ok__law_table (T : Txt K mg) (G__law_times : FnOk P w K mg base CX0 1 T._law_times.f T._law_times.fd ["_law_poly", "_law_x", "_law_y"] (sp__law_times K)) :
    FnOk P w K mg base CX0 2 T._law_table.f T._law_table.fd ["_law_poly", "_law_x"] (sp__law_table K) := by
  refine T._law_table.F.ok sc__law_table (fun vs H Q E h => ?_) (fun cdv A outer st H vs Q E hr h => ?_)
  · obtain ⟨p, px, ns, xs, rfl, _⟩ := h
    rfl
  · obtain ⟨p, px, ns, xs, rfl, hx, hpx, hp, lx, k⟩ := h
    have hl := hp.len
    refine ⟨_, (pss_cons (ps_set (i := 2) sc__law_table.nd rfl (.inl rfl) (pe_op op_sub (pe_callB call_len_seq (by rfl) T.n_len (by decide +kernel) (pa_cons (pv 0) pa_nil)) pe_int))
      (pss_cons (ps_set (i := 3) sc__law_table.nd rfl (.inl rfl) (pe_callTy call_tuple_of (by rfl) T.n_tuple (by decide +kernel) (pa_cons (pe_lc (own := [("_law_k", 6)]) (g := gName 6) (by rfl) sc__law_table.nd (pi_range1 (by rfl) T.n_range (pa_cons (pv 2) pa_nil)) (blkOk_by (own := [("_law_k", 6)]) (N := N__law_table) (sc := defScope s__law_table) (by decide +kernel)) (fun _ _ _ _ _ => pg_name (i := 6) sc__law_table.nd rfl (Or.inl rfl)) (fun _ _ _ _ _ => pts_nil) (fun _ _ _ _ _ => (pe_callTy call_int1 (by rfl) T.n_int (by decide +kernel) (pa_cons (pe_cmpR op_eq (pv 6) pe_int (nomark _)) pa_nil)))) pa_nil)))
      (pss_cons (ps_set (i := 4) sc__law_table.nd rfl (.inl rfl) (pe_lst pa_nil))
      (pss_cons (ps_set (i := 5) sc__law_table.nd rfl (.inl rfl) (pe_callTy call_tuple_of (by rfl) T.n_tuple (by decide +kernel) (pa_cons (pv 1) pa_nil)))
      (pss_cons (ps_for PassesOwn.never rfl (pi_range1 (by rfl) T.n_range (pa_cons (pv 2) pa_nil)) (pg_name (i := 6) sc__law_table.nd rfl (.inl rfl))
        (pss_cons (ps_expr (pe_bm PySem.F.plainAttrs_list PySem.F.slot_list_append PySem.F.type_list_append mt_append (pv 4) (pa_cons (pv 5) pa_nil)))
          (pss_one (ps_set (i := 5) sc__law_table.nd rfl (.inl rfl) (pe_call G__law_times (hr.mono (by omega)) (by rfl) T._law_times.g T._law_times.F.kp T._law_times.b .nil pass0 (pa_cons (pv 0) (pa_cons (pv 3) (pa_cons (pv 5) pa_nil))))))))
      (pss_one (ps_ret (pv 4)))))))), ?_⟩
    rw [show L2.start N__law_table [V.ref p, .ref px] = [some (.ref p), some (.ref px), none, none, none, none, none] from rfl]
    try dsimp only [cxOf]
    walk_at "rr"
    refine ⟨p, _, rfl, .inr hx, ?_⟩
    rw [List.length_map]
    obtain ⟨n, hn⟩ : ∃ n, ns.length = n + 1 := ⟨ns.length - 1, by omega⟩
    rw [hn] at k
    have k : Ret H Q fun H' v => ∃ L out, v = .ref L ∧ H' L = some (.lst out) ∧ AllR (IsT K H') out (tabM ns xs n) := k
    rw [hn]
    refine w_c ?_
    refine w_I0 ?_
    rw [show ((n + 1 : Nat) : Int) - 1 = (n : Int) by omega]
    walk_at "rr"
    refine c_r1 (by omega) (by omega) (c_rng (fun _ => true) (fun z => .int (if decide (z = 1) = true then 1 else 0)) (by omega) (fun _ => rfl) (fun _ _ => gives_yes) (fun i hi _ H1 e1 Q1 q1 => ?_) (fun D H1 hD e1 hacc => ?_))
    · walk_at "rr"
      refine .inr ⟨_, rfl, ?_⟩
      exact q1 _ (Ex.refl _)
    rw [lcAcc_all, Int.toNat_natCast, List.map_map] at hacc
    have hacc' : H1 D = some (.lst ((turnM n).map V.int)) := by
      rw [hacc, turnM, List.map_map]
      rfl
    clear hacc
    walk_at "rr"
    refine ⟨D, _, rfl, .inl ⟨.inl (.inl hacc'), fun q n' => ?_⟩⟩
    have hs : SqT K (upd H1 q (.tup ((turnM n).map V.int))) q ((turnM n).map V.int) := .inl (.inl upd_same)
    have e2 : Ex H (upd H1 q (.tup ((turnM n).map V.int))) := e1.trans (Ex.new n')
    generalize upd H1 q (.tup ((turnM n).map V.int)) = H2 at hs e2
    walk_at "rr"
    refine ⟨Nat.zero_le _, fun L hL => ?_⟩
    have e3 : Ex H2 (upd H2 L (.lst [])) := Ex.new hL
    have h3 : (upd H2 L (.lst [])) L = some (.lst []) := upd_same
    generalize upd H2 L (.lst []) = H3 at e3 h3
    walk_at "rr"
    refine ⟨px, _, rfl, .inr ⟨ex_t (e2.trans e3) hpx, ?_⟩⟩
    walk_at "rr"
    refine f_r1 (by omega) (by omega) (fun i σ' H' => ∃ py y6 out, σ' = [some (.ref p), some (.ref px), some (.int (n : Int)), some (.ref q), some (.ref L), some (.ref py), y6] ∧ Ex H2 H' ∧ SqT K H' py ((rowAt ns xs i).map V.int) ∧ H' L = some (.lst out) ∧ AllR (IsT K H') out (tabM ns xs i))
      ⟨px, none, [], rfl, e3, ex_t (e2.trans e3) hpx, h3, AllR.nil⟩ (fun i σ' H' hi hq => ?_) (fun σ' H' hq => ?_)
    · obtain ⟨py, y6, out, rfl, e, hpy, hL', ha⟩ := hq
      have lr := rowAt_len (ns := ns) (xs := xs) (by omega) lx i
      have hol : out.length = i := by rw [ha.1, tabM, List.length_map, List.length_range]
      walk_at "rr"
      refine w_tyL hL' ?_
      walk_at "rr"
      refine w_append hL' (by omega) ?_
      have e4 : Ex H2 (upd H' L (.lst (out ++ [.ref py]))) := Ex.mut e hL
      have h4 : (upd H' L (.lst (out ++ [.ref py]))) L = some (.lst (out ++ [.ref py])) := upd_same
      have iy : IsT K (upd H' L (.lst (out ++ [.ref py]))) (.ref py) (rowAt ns xs i) := IsT.mut ⟨py, rfl, hpy⟩ ⟨_, hL'⟩
      have ha4 : AllR (IsT K (upd H' L (.lst (out ++ [.ref py])))) (out ++ [.ref py]) (tabM ns xs (i + 1)) := by
        rw [tabM, List.range_succ, List.map_append]
        exact (ha.mono fun x z r => r.mut ⟨_, hL'⟩).snoc iy
      generalize upd H' L (.lst (out ++ [.ref py])) = H4 at e4 h4 iy ha4
      obtain ⟨_, ey, hpy4⟩ := iy
      cases ey
      walk_at "rr"
      refine ⟨p, q, py, ns, turnM n, rowAt ns xs i, rfl, ex_t (e2.trans e4) hx, ex_t e4 hs, hpy4, hp, by rw [turnM_len, hn], lr, turnM_bd, fun v H5 e5 r5 => ?_⟩
      obtain ⟨py5, rfl, hpy5⟩ := r5
      refine ⟨py5, _, _, rfl, e4.trans e5, ?_, e5 _ _ h4, ha4.mono fun x z r => r.ex e5⟩
      rw [rowAt, hn]
      exact hpy5
    · obtain ⟨py, y6, out, rfl, e, hpy, hL', ha⟩ := hq
      rw [Int.toNat_natCast] at ha
      walk_at "rr"
      exact k _ _ (e2.trans e) ⟨L, out, rfl, hL', ha⟩
end
end RH

set_option Elab.async false
set_option linter.all false
set_option maxRecDepth 100000
set_option maxHeartbeats 4000000
namespace RH
open PySem PySem.Spec PyProof.Rows L2 Evl
/-! ### the law's own polynomial -/
def pickM : Nat → List (List Int)
  | 0 => [[]]
  | i + 1 => pickM i ++ (pickM i).map (· ++ [(i : Int)])
def subM (rows : List (List Int)) (pk : List Int) : List (List Int) := pk.map fun i => pk.map fun j => (rows.getD i.toNat []).getD j.toNat 0
def ownStep (n : Nat) (rows : List (List Int)) (pl pk : List Int) : List Int :=
  pl.set (n - pk.length) (pl.getD (n - pk.length) 0 + (1 - 2 * ((pk.length : Int) % 2)) * detL pk.length (subM rows pk))
def ownM (n : Nat) (rows : List (List Int)) : List Int := ((pickM n).drop 1).foldl (ownStep n rows) (List.replicate n (0 : Int) ++ [1])
theorem pickM_len4 : ∀ n, n ≤ 4 → (pickM n).length ≤ 16 := by decide
theorem pickM_ok : ∀ n, n ≤ 4 → ∀ pk ∈ (pickM n).drop 1, 1 ≤ pk.length ∧ pk.length ≤ n ∧ ∀ j ∈ pk, 0 ≤ j ∧ j < (n : Int) := by decide
theorem pickM_len1 : ∀ n, n ≤ 4 → ∀ pk ∈ pickM n, pk.length ≤ 4 := by decide
theorem ownF_len {n : Nat} {rows : List (List Int)} : ∀ (ps : List (List Int)) (pl : List Int), (ps.foldl (ownStep n rows) pl).length = pl.length
  | [], _ => rfl
  | p :: ps, pl => by rw [List.foldl_cons, ownF_len ps, ownStep, List.length_set]
theorem foldl_take {α β : Type} {f : β → α → β} {b : β} {l : List α} {i : Nat} {z : α} (h : l[i]? = some z) : (l.take (i + 1)).foldl f b = f ((l.take i).foldl f b) z := by
  rw [take_snoc h, List.foldl_append]
  rfl
theorem Sq.sub {n : Nat} {rows : List (List Int)} {pk : List Int} (h : Sq n rows) (hp : ∀ j ∈ pk, 0 ≤ j ∧ j < (n : Int)) : Sq pk.length (subM rows pk) where
  len := by unfold subM; rw [List.length_map]
  wid := fun r hr => by
    obtain ⟨i, _, rfl⟩ := List.mem_map.mp hr
    rw [List.length_map]
  bd := fun r hr c hc => by
    obtain ⟨i, hi, rfl⟩ := List.mem_map.mp hr
    obtain ⟨j, hj, rfl⟩ := List.mem_map.mp hc
    have bi := hp i hi
    have bj := hp j hj
    have hl := h.len
    have hil : i.toNat < rows.length := by omega
    have hr : rows.getD i.toNat [] ∈ rows := by
      rw [List.getD_eq_getElem?_getD, List.getElem?_eq_getElem hil]
      exact List.getElem_mem _
    have hw := h.wid _ hr
    exact h.bd _ hr _ (List.mem_of_getElem? (getD_get (show j.toNat < (rows.getD i.toNat []).length by omega)))
theorem getD_rows {rows : List (List Int)} {i : Nat} (h : i < rows.length) : rows[i]? = some (rows.getD i []) := by
  rw [List.getD_eq_getElem?_getD, List.getElem?_eq_getElem h]
  rfl
section
local macro_rules | `(tactic| walk_at "rs") => `(tactic| first
  | with_reducible refine w_seq ?_
  | with_reducible refine w_asg ?_
  | ((with_reducible refine' w_var ?h ?_); (case h => exact rfl))
  | with_reducible refine w_c ?_
  | with_reducible refine w_op ?_
  | with_reducible refine w_I0 ?_
  | with_reducible refine w_cb ?_
  | with_reducible refine w_cons ?_
  | with_reducible refine w_nil ?_
  | with_reducible refine w_ret ?_
  | with_reducible refine w_call ?_
  | with_reducible refine w_if ?_
  | with_reducible refine w_test ?_
  | with_reducible refine w_exbl ?_
  | with_reducible refine w_eqI ?_
  | with_reducible refine w_neI ?_
  | with_reducible refine w_next ?_
  | with_reducible refine w_un ?_
  | with_reducible refine w_U ?_
  | with_reducible refine w_B ?_
  | with_reducible refine w_and ?_
  | with_reducible refine w_or ?_
  | with_reducible refine w_not ?_
  | with_reducible refine w_andV ?_
  | with_reducible refine w_notV ?_
  | with_reducible refine w_tup ?_
  | with_reducible refine w_lst ?_
  | with_reducible refine w_for ?_
  | with_reducible refine w_rng1 ?_
  | with_reducible refine w_rng2 ?_
  | with_reducible refine w_rng3 ?_
  | with_reducible refine w_iList ?_
  | with_reducible refine w_iTup ?_
  | with_reducible refine w_iRevA ?_
  | with_reducible refine w_lc ?_
  | with_reducible refine w_drop ?_
  | with_reducible refine w_par ?_
  | ((with_reducible refine' w_aug ?h ?_); (case h => exact rfl))
  | with_reducible refine w_sl ?_
  | with_reducible refine w_noPart ?_
  | with_reducible refine w_part ?_
  | with_reducible refine w_exint ?_
  | with_reducible refine w_revL ?_
  | with_reducible refine w_bm ?_
  | with_reducible refine w_augS ?_
  | with_reducible refine w_ip ?_
  | with_reducible refine w_gSub ?_
  | with_reducible refine w_gName ?_
  | with_reducible refine w_gCons ?_
  | with_reducible refine w_gNil ?_
  | with_reducible refine w_chain ?_
  | with_reducible refine w_asgG ?_)
local macro_rules | `(tactic| walk_at "rr") => `(tactic| repeat walk_at "rs")
local macro_rules | `(tactic| walk_at "rn1") => `(tactic| first
  | with_reducible refine w_seq ?_
  | with_reducible refine w_asg ?_
  | ((with_reducible refine' w_var ?h ?_); (case h => exact rfl))
  | with_reducible refine w_c ?_
  | with_reducible refine w_op ?_
  | with_reducible refine w_I0 ?_
  | with_reducible refine w_cb ?_
  | with_reducible refine w_cons ?_
  | with_reducible refine w_nil ?_
  | with_reducible refine w_ret ?_
  | with_reducible refine w_call ?_
  | with_reducible refine w_if ?_
  | with_reducible refine w_test ?_
  | with_reducible refine w_exbl ?_
  | with_reducible refine w_eqI ?_
  | with_reducible refine w_neI ?_
  | with_reducible refine w_next ?_
  | with_reducible refine w_un ?_
  | with_reducible refine w_U ?_
  | with_reducible refine w_B ?_
  | with_reducible refine w_and ?_
  | with_reducible refine w_or ?_
  | with_reducible refine w_not ?_
  | with_reducible refine w_andV ?_
  | with_reducible refine w_notV ?_
  | with_reducible refine w_lst ?_
  | with_reducible refine w_for ?_
  | with_reducible refine w_rng1 ?_
  | with_reducible refine w_rng2 ?_
  | with_reducible refine w_rng3 ?_
  | with_reducible refine w_iList ?_
  | with_reducible refine w_iTup ?_
  | with_reducible refine w_iRevA ?_
  | with_reducible refine w_lc ?_
  | with_reducible refine w_drop ?_
  | with_reducible refine w_par ?_
  | ((with_reducible refine' w_aug ?h ?_); (case h => exact rfl))
  | with_reducible refine w_sl ?_
  | with_reducible refine w_noPart ?_
  | with_reducible refine w_part ?_
  | with_reducible refine w_exint ?_
  | with_reducible refine w_revL ?_
  | with_reducible refine w_bm ?_
  | with_reducible refine w_augS ?_
  | with_reducible refine w_ip ?_
  | with_reducible refine w_gSub ?_
  | with_reducible refine w_gName ?_
  | with_reducible refine w_gCons ?_
  | with_reducible refine w_gNil ?_
  | with_reducible refine w_chain ?_
  | with_reducible refine w_asgG ?_)
local macro_rules | `(tactic| walk_at "rn") => `(tactic| repeat walk_at "rn1")

variable {P : Program} {w : World} {K : PySem.W.Frag} {mg : Str → Option Value} {base : Heap}
def sp__law_own (K : PySem.W.Frag) : Sp := fun vs H Q _ => ∃ (p px : Addr) (ns xs : List Int), vs = [.ref p, .ref px] ∧ SqT K H p (ns.map V.int) ∧ SqT K H px (xs.map V.int) ∧ IsPoly ns ∧ xs.length + 1 = ns.length ∧ Sq (ns.length - 1) (tabM ns xs (ns.length - 1)) ∧ Ret H Q fun H' v => IsL K H' v (ownM (ns.length - 1) (tabM ns xs (ns.length - 1)))
theorem ok__law_own (T : Txt K mg) (G__law_table : FnOk P w K mg base CX0 2 T._law_table.f T._law_table.fd ["_law_poly", "_law_x"] (sp__law_table K))
    (G__law_det0 : ∀ k, FnOk P w K mg base CX0 (k + 1) T._law_det.f T._law_det.fd ["_law_rows"] (sp__law_det K k)) :
    FnOk P w K mg base CX0 5 T._law_own.f T._law_own.fd ["_law_poly", "_law_x"] (sp__law_own K) := by
  have G__law_det := FnOk.union (m := 3) fun k hk => (G__law_det0 k).mono (k := 4) (by omega)
  refine T._law_own.F.ok sc__law_own (fun vs H Q E h => ?_) (fun cdv A outer st H vs Q E hr h => ?_)
  · obtain ⟨p, px, ns, xs, rfl, _⟩ := h
    rfl
  · obtain ⟨p, px, ns, xs, rfl, hx, hpx, hp, lx, hsq, k⟩ := h
    have hl := hp.len
    refine ⟨_, (pss_cons (ps_set (i := 2) sc__law_own.nd rfl (.inl rfl) (pe_op op_sub (pe_callB call_len_seq (by rfl) T.n_len (by decide +kernel) (pa_cons (pv 0) pa_nil)) pe_int))
      (pss_cons (ps_set (i := 3) sc__law_own.nd rfl (.inr rfl) (pe_call G__law_table (hr.mono (by omega)) (by rfl) T._law_table.g T._law_table.F.kp T._law_table.b .nil pass0 (pa_cons (pv 0) (pa_cons (pv 1) pa_nil))))
      (pss_cons (ps_set (i := 4) sc__law_own.nd rfl (.inl rfl) (pe_lst (pa_cons (pe_lst pa_nil) pa_nil)))
      (pss_cons (ps_for PassesOwn.never rfl (pi_range1 (by rfl) T.n_range (pa_cons (pv 2) pa_nil)) (pg_name (i := 5) sc__law_own.nd rfl (.inr rfl))
        (pss_one (ps_set (i := 4) sc__law_own.nd rfl (.inl rfl) (pe_op op_cat (pv 4) (pe_lc (own := [("_law_pick", 7)]) (g := gName 7) (by rfl) sc__law_own.nd (pi_list (pv 4)) (blkOk_by (own := [("_law_pick", 7)]) (N := N__law_own) (sc := defScope s__law_own) (by decide +kernel)) (fun _ _ _ _ _ => pg_name (i := 7) sc__law_own.nd rfl (Or.inl rfl)) (fun _ _ _ _ _ => pts_nil) (fun _ _ _ _ _ => (pe_op op_cat (pv 7) (pe_lst (pa_cons (pv 5) pa_nil)))))))))
      (pss_cons (ps_set (i := 6) sc__law_own.nd rfl (.inl rfl) (pe_op op_cat (pe_op op_rep (pe_lst (pa_cons pe_int pa_nil)) (pv 2)) (pe_lst (pa_cons pe_int pa_nil))))
      (pss_cons (ps_for PassesOwn.never rfl (pi_list (pe_slice (r := rSlL K) sl_list (pv 4) (po_some pe_int) po_none)) (pg_name (i := 7) sc__law_own.nd rfl (.inl rfl))
        (pss_cons (ps_set (i := 8) sc__law_own.nd rfl (.inl rfl) (pe_lst pa_nil))
          (pss_cons (ps_for PassesOwn.never rfl (pi_list (pv 7)) (pg_name (i := 5) sc__law_own.nd rfl (.inr rfl))
            (pss_one (ps_expr (pe_bm PySem.F.plainAttrs_list PySem.F.slot_list_append PySem.F.type_list_append mt_append (pv 8) (pa_cons (pe_lc (own := [("_law_j", 11)]) (g := gName 11) (by rfl) sc__law_own.nd (pi_list (pv 7)) (blkOk_by (own := [("_law_j", 11)]) (N := N__law_own) (sc := defScope s__law_own) (by decide +kernel)) (fun _ _ _ _ _ => pg_name (i := 11) sc__law_own.nd rfl (Or.inl rfl)) (fun _ _ _ _ _ => pts_nil) (fun _ _ _ _ _ => (pe_ix (r := rIxT K) ix_tup (pe_ix (r := rIxL K) ix_list (pv 3) (pv 5) (fun _ _ => rfl)) (pv 11) (fun _ _ => rfl)))) pa_nil)))))
          (pss_cons (ps_set (i := 9) sc__law_own.nd rfl (.inl rfl) (pe_op op_sub pe_int (pe_op op_mul pe_int (pe_op op_mod (pe_callB call_len_seq (by rfl) T.n_len (by decide +kernel) (pa_cons (pv 7) pa_nil)) pe_int))))
          (pss_cons (ps_set (i := 10) sc__law_own.nd rfl (.inl rfl) (pe_op op_sub (pv 2) (pe_callB call_len_seq (by rfl) T.n_len (by decide +kernel) (pa_cons (pv 7) pa_nil))))
          (pss_one (ps_asg (pe_op op_add (pe_ix (r := rIxL K) ix_list (pv 6) (pv 10) (fun _ _ => rfl)) (pe_op op_mul (pv 9) (pe_call G__law_det (hr.mono (by omega)) (by rfl) T._law_det.g T._law_det.F.kp T._law_det.b .nil pass0 (pa_cons (pv 8) pa_nil)))) (pg_sub (pv 6) (pv 10) set_list))))))))
      (pss_one (ps_ret (pv 6))))))))), ?_⟩
    rw [show L2.start N__law_own [V.ref p, .ref px] = [some (.ref p), some (.ref px), none, none, none, none, none, none, none, none, none, none] from rfl]
    try dsimp only [cxOf]
    walk_at "rr"
    refine ⟨p, _, rfl, .inr hx, ?_⟩
    rw [List.length_map]
    obtain ⟨n, hn⟩ : ∃ n, ns.length = n + 1 := ⟨ns.length - 1, by omega⟩
    have e0 : ns.length - 1 = n := by omega
    rw [e0] at k hsq
    rw [hn]
    refine w_c ?_
    refine w_I0 ?_
    rw [show ((n + 1 : Nat) : Int) - 1 = (n : Int) by omega]
    walk_at "rr"
    refine ⟨p, px, ns, xs, rfl, hx, hpx, hp, lx, fun v H1 e1 r1 => ?_⟩
    obtain ⟨Lt, rs, rfl, hLt, har⟩ := r1
    rw [e0] at har
    generalize tabM ns xs n = rows at k hsq har
    have lrs : rs.length = n := by rw [har.1, hsq.len]
    walk_at "rr"
    refine ⟨Nat.zero_le _, fun q0 n0 => ?_⟩
    walk_at "rr"
    refine ⟨by show 1 ≤ sizeLine; decide, fun q1 n1 => ?_⟩
    have n10 : q0 ≠ q1 := fun z => by rw [← z, upd_same] at n1; cases n1
    have e2 : Ex H1 (upd (upd H1 q0 (.lst [])) q1 (.lst [.ref q0])) := (Ex.new n0).trans (Ex.new n1)
    have h2 : (upd (upd H1 q0 (.lst [])) q1 (.lst [.ref q0])) q1 = some (.lst [.ref q0]) := upd_same
    have ha2 : AllR (IsN (upd (upd H1 q0 (.lst [])) q1 (.lst [.ref q0]))) [.ref q0] (pickM 0) := AllR.nil.snoc ⟨q0, rfl, by rw [upd_ne n10, upd_same]; rfl⟩
    generalize upd (upd H1 q0 (.lst [])) q1 (.lst [.ref q0]) = H2 at e2 h2 ha2
    walk_at "rr"
    refine f_r1 (by omega) (by omega) (fun i σ' H' => ∃ pk y5 out, σ' = [some (.ref p), some (.ref px), some (.int (n : Int)), some (.ref Lt), some (.ref pk), y5, none, none, none, none, none, none] ∧ Ex H1 H' ∧ H' pk = some (.lst out) ∧ AllR (IsN H') out (pickM i))
      ⟨q1, none, _, rfl, e2, h2, ha2⟩ (fun i σ' H' hi hq => ?_) (fun σ' H' hq => ?_)
    · obtain ⟨pk, y5, out, rfl, e, hpk, ha⟩ := hq
      have lpk := pickM_len4 i (by omega)
      walk_at "rr"
      refine c_listN (Rin := IsN H') (zs := pickM i) (fun z => z ++ [(i : Int)]) (.inl (.inl hpk)) ha (by omega) (fun _ => rfl) (fun x z hz r H4 e4 Q' q' => ?_) (fun D H4 out2 hD e4 h4 ha4 => ?_)
      · obtain ⟨q, rfl, hq⟩ := r
        have lz := pickM_len1 i (by omega) z hz
        walk_at "rr"
        refine ⟨by show 1 ≤ sizeLine; decide, fun q5 n5 => ?_⟩
        refine ⟨q, q5, _, _, rfl, rfl, (e4.trans (Ex.new n5)) _ _ hq, upd_same, Nat.le_of_lt (small1000 (by rw [List.length_map]; show z.length + 1 ≤ 1000; omega)), fun q6 n6 => ?_⟩
        have n64 : H4 q6 = none := by
          by_cases hqq : q6 = q5
          · rw [hqq, upd_same] at n6; cases n6
          · rwa [upd_ne hqq] at n6
        refine q' q6 _ n64 ((Ex.new n5).trans (Ex.new n6)) ?_
        rw [upd_same, List.map_append]
        rfl
      · walk_at "rr"
        refine ⟨pk, D, _, _, rfl, rfl, e4 _ _ hpk, h4, Nat.le_of_lt (small1000 (by rw [ha.1, ha4.1, List.length_map]; omega)), fun q6 n6 => ?_⟩
        refine ⟨q6, _, _, rfl, e.trans (e4.trans (Ex.new n6)), upd_same, ?_⟩
        rw [pickM]
        exact ((ha.mono fun x z r => r.ex (e4.trans (Ex.new n6))).append (ha4.mono fun x z r => r.ex (Ex.new n6)))
    · obtain ⟨pk, y5, out, rfl, e, hpk, ha⟩ := hq
      rw [Int.toNat_natCast] at ha
      have pok := pickM_ok n (by omega)
      have pl4 := pickM_len4 n (by omega)
      have lout := ha.1
      walk_at "rr"
      refine ⟨by show 1 ≤ sizeLine; decide, fun q2 n2 => ?_⟩
      walk_at "rr"
      refine ⟨q2, (n : Int), [.int 0], rfl, rfl, upd_same, by omega, by omega, ?_, fun q3 n3 => ?_⟩
      · show 1 * (n : Int).toNat ≤ sizeLine
        refine Nat.le_trans (m := 10) (by omega) (by decide)
      walk_at "rr"
      refine ⟨by show 1 ≤ sizeLine; decide, fun q4 n4 => ?_⟩
      refine ⟨q3, q4, _, _, rfl, rfl, (Ex.new n4) _ _ upd_same, upd_same, Nat.le_of_lt (small1000 (by rw [rep_one, List.length_replicate]; show (n : Int).toNat + 1 ≤ 1000; omega)), fun L hL => ?_⟩
      have e3 : Ex H' (upd (upd H' q2 (.lst [.int 0])) q3 (.lst (List.replicate (n : Int).toNat [V.int 0]).flatten)) := (Ex.new n2).trans (Ex.new n3)
      generalize upd (upd H' q2 (.lst [.int 0])) q3 (.lst (List.replicate (n : Int).toNat [V.int 0]).flatten) = H3 at e3 n4 hL
      have e4 : Ex H' (upd H3 q4 (.lst [.int 1])) := e3.trans (Ex.new n4)
      generalize upd H3 q4 (.lst [.int 1]) = H4 at e4 hL
      have eL : (List.replicate (n : Int).toNat [V.int 0]).flatten ++ [V.int 1] = (List.replicate n (0 : Int) ++ [1]).map V.int := by
        rw [rep_one, Int.toNat_natCast, List.map_append, List.map_replicate]
        rfl
      rw [eL]
      have e5 : Ex H4 (upd H4 L (.lst ((List.replicate n (0 : Int) ++ [1]).map V.int))) := Ex.new hL
      have h5 : (upd H4 L (.lst ((List.replicate n (0 : Int) ++ [1]).map V.int))) L = some (.lst ((List.replicate n (0 : Int) ++ [1]).map V.int)) := upd_same
      generalize upd H4 L (.lst ((List.replicate n (0 : Int) ++ [1]).map V.int)) = H5 at e5 h5
      walk_at "rr"
      refine ⟨pk, _, rfl, .inl (.inl ((e4.trans e5) _ _ hpk)), fun q6 n6 => ?_⟩
      rw [show (1 : Int) = ((1 : Nat) : Int) from rfl, cutV_from _ (by
        rw [lout]
        have : ∀ n, n ≤ 4 → 1 ≤ (pickM n).length := by decide
        exact this n (by omega))]
      have hLq : L ≠ q6 := fun z => by rw [← z, h5] at n6; cases n6
      have e6 : Ex H4 (upd H5 q6 (.lst (out.drop 1))) := e5.trans (Ex.new n6)
      have h6 : (upd H5 q6 (.lst (out.drop 1))) q6 = some (.lst (out.drop 1)) := upd_same
      have h5' : (upd H5 q6 (.lst (out.drop 1))) L = some (.lst ((List.replicate n (0 : Int) ++ [1]).map V.int)) := (Ex.new n6) _ _ h5
      generalize upd H5 q6 (.lst (out.drop 1)) = H6 at e6 h6 h5'
      have ha4 : AllR (IsN H4) (out.drop 1) ((pickM n).drop 1) := (ha.drop 1).mono fun x z r => r.ex e4
      have qL : q6 ≠ L := hLq.symm
      have lsq := hsq.len
      have e14 : Ex H1 H4 := e.trans e4
      refine f_list (.inl (.inl h6)) (fun t σ' H' => ∃ y5 y7 y8 y9 y10 y11, σ' = [some (.ref p), some (.ref px), some (.int (n : Int)), some (.ref Lt), some (.ref pk), y5, some (.ref L), y7, y8, y9, y10, y11] ∧ Ex H4 H' ∧ H' q6 = some (.lst (out.drop 1)) ∧ H' L = some (.lst ((((((pickM n).drop 1).take t).foldl (ownStep n rows) (List.replicate n (0 : Int) ++ [1]))).map V.int)))
        ⟨y5, none, none, none, none, none, rfl, e6, h6, h5'⟩ (fun t σ' H' hq => ?_) (fun t y σ' H' hy hq => ?_) (fun σ' H' hq => ?_)
      · obtain ⟨_, _, _, _, _, _, _, _, h, _⟩ := hq
        exact .inl (.inl h)
      · obtain ⟨y5, y7, y8, y9, y10, y11, rfl, e', hq6, hLp⟩ := hq
        obtain ⟨z, hz, rz⟩ := ha4.getx hy
        obtain ⟨qz, rfl, hqz⟩ := rz
        obtain ⟨z1, z2, z3⟩ := pok z (List.mem_of_getElem? hz)
        refine w_gName ?_
        walk_at "rr"
        refine ⟨Nat.zero_le _, fun M hM => ?_⟩
        have nML : L ≠ M := fun zz => by rw [← zz, hLp] at hM; cases hM
        have nMq : q6 ≠ M := fun zz => by rw [← zz, hq6] at hM; cases hM
        have hM4 : H4 M = none := by
          cases hh : H4 M with
          | none => rfl
          | some o => have := e' _ _ hh; rw [hM] at this; cases this
        have e7 : Ex H' (upd H' M (.lst [])) := Ex.new hM
        have h7 : (upd H' M (.lst [])) M = some (.lst []) := upd_same
        generalize upd H' M (.lst []) = H7 at e7 h7
        have hzH : H' qz = some (.lst (z.map V.int)) := e' _ _ hqz
        walk_at "rr"
        refine f_list (.inl (.inl (e7 _ _ hzH))) (fun i σ' H'' => ∃ y5 mo, σ' = [some (.ref p), some (.ref px), some (.int (n : Int)), some (.ref Lt), some (.ref pk), y5, some (.ref L), some (.ref qz), some (.ref M), y9, y10, y11] ∧ Ex H' H'' ∧ H'' M = some (.lst mo) ∧ AllR (fun v (r : List Int) => ∃ q, v = .ref q ∧ q ≠ M ∧ H'' q = some (.lst (r.map V.int))) mo ((z.take i).map fun i => z.map fun j => (rows.getD i.toNat []).getD j.toNat 0))
          ⟨_, [], rfl, e7, h7, AllR.nil⟩ (fun i σ' H'' hq => ?_) (fun i y σ' H'' hyi hq => ?_) (fun σ' H'' hq => ?_)
        · obtain ⟨_, _, _, e, _⟩ := hq
          exact .inl (.inl (e _ _ hzH))
        · obtain ⟨y5, mo, rfl, e8, hMo, ham⟩ := hq
          rw [List.getElem?_map] at hyi
          obtain ⟨u, hu, rfl⟩ : ∃ u, z[i]? = some u ∧ y = .int u := by
            cases hzi : z[i]? with
            | none => rw [hzi] at hyi; cases hyi
            | some u => rw [hzi] at hyi; cases hyi; exact ⟨u, rfl, rfl⟩
          have bu := z3 u (List.mem_of_getElem? hu)
          have e48 := e'.trans e8
          have lmo : mo.length ≤ 4 := by
            rw [ham.1, List.length_map, List.length_take]
            omega
          obtain ⟨xr, hxr, ⟨pr, rfl, hpr⟩⟩ := har.get (getD_rows (rows := rows) (i := u.toNat) (by omega))
          have hwr := hsq.wid _ (List.mem_of_getElem? (getD_rows (rows := rows) (i := u.toNat) (by omega)))
          refine w_gName ?_
          walk_at "rr"
          refine w_tyL hMo ?_
          refine w_cons ?_
          refine w_lc ?_
          refine w_iList ?_
          walk_at "rr"
          refine c_list (zs := z) (G := V.int) (fun _ => true) (fun j => .int ((rows.getD u.toNat []).getD j.toNat 0)) (.inl (.inl (e8 _ _ hzH))) (by omega) (fun _ => rfl) (fun j _ => gives_yes) (fun j hj _ H9 e9 Q' q' => ?_) (fun D H9 hD e9 hacc => ?_)
          · have bj := z3 j hj
            walk_at "rr"
            refine w_ixL (.inl (.inl ((e14.trans (e48.trans e9)) _ _ hLt))) (atI_of bu.1 hxr) ?_
            walk_at "rr"
            refine w_ixTn (ex_t (e14.trans (e48.trans e9)) hpr) (atI_of bj.1 (getD_get (show j.toNat < (rows.getD u.toNat []).length by omega))) ?_
            exact q' _ (Ex.refl _)
          · rw [lcAcc_all] at hacc
            walk_at "rr"
            refine w_append (e9 _ _ hMo) (by omega) ?_
            have nDM : D ≠ M := fun zz => by rw [zz, hMo] at hD; cases hD
            refine ⟨_, _, rfl, Ex.mut (e8.trans e9) hM, upd_same, ?_⟩
            rw [take_snoc hu, List.map_append]
            refine (ham.mono fun x r ⟨q, hq1, hq2, hq3⟩ => ⟨q, hq1, hq2, by rw [upd_ne hq2]; exact e9 _ _ hq3⟩).snoc ⟨D, rfl, nDM, ?_⟩
            rw [upd_ne nDM, hacc, List.map_map]
            rfl
        · obtain ⟨y5, mo, rfl, e8, hMo, ham⟩ := hq
          rw [List.length_map, List.take_length] at ham
          have e48 := e'.trans e8
          walk_at "rr"
          refine ⟨qz, _, rfl, .inl (.inl (.inl (e8 _ _ hzH))), ?_⟩
          rw [List.length_map]
          walk_at "rr"
          refine w_I (show (0 : Int) < 2 by decide) ?_
          walk_at "rr"
          refine w_I (w_CMul1 (by decide) (by decide)) ?_
          walk_at "rr"
          refine ⟨qz, _, rfl, .inl (.inl (.inl (e8 _ _ hzH))), ?_⟩
          rw [List.length_map]
          walk_at "rr"
          rw [show (n : Int) - (z.length : Int) = ((n - z.length : Nat) : Int) by omega]
          have lF := ownF_len (n := n) (rows := rows) (((pickM n).drop 1).take t) (List.replicate n (0 : Int) ++ [1])
          rw [List.length_append, List.length_replicate, List.length_singleton] at lF
          have hfold := foldl_take (f := ownStep n rows) (b := List.replicate n (0 : Int) ++ [1]) hz
          generalize ((((pickM n).drop 1).take t).foldl (ownStep n rows) (List.replicate n (0 : Int) ++ [1])) = pl at hLp lF hfold
          walk_at "rr"
          refine w_ixLn (.inl (.inl (e8 _ _ hLp))) (atI_nat (getD_get (show n - z.length < pl.length by omega))) ?_
          walk_at "rr"
          refine ⟨z.length - 1, by omega, M, mo, subM rows z, rfl, .inl (.inl hMo), ham.mono fun x r ⟨q, hq1, hq2, hq3⟩ => ⟨q, hq1, .inl (.inl hq3)⟩, ?_, by omega, fun v H9 e9 r9 => ?_⟩
          · rw [show z.length - 1 + 1 = z.length by omega]
            exact hsq.sub z3
          subst r9
          rw [show z.length - 1 + 1 = z.length by omega]
          refine w_I (w_CMul1 (by omega) (by omega)) ?_
          walk_at "rr"
          have hL9 := (e8.trans e9) _ _ hLp
          refine w_setL hL9 (by rw [List.length_map]; omega) ?_
          have hL4 : H4 L = none := hL
          refine ⟨_, _, _, _, _, _, rfl, Ex.mut (e48.trans e9) hL4, ?_, ?_⟩
          · rw [upd_ne qL]
            exact (e8.trans e9) _ _ hq6
          · rw [upd_same, hfold, ownStep, List.map_set]
            rfl
      · obtain ⟨y5, y7, y8, y9, y10, y11, rfl, e', hq6, hLp⟩ := hq
        walk_at "rr"
        refine k _ _ (e1.trans (e14.trans e')) ⟨L, rfl, .inl (.inl ?_)⟩
        rw [hLp, ha4.1, List.take_length]
        rfl
end
end RH

set_option Elab.async false
set_option linter.all false
set_option maxRecDepth 100000
set_option maxHeartbeats 4000000
namespace RH
open PySem PySem.Spec PyProof.Rows L2 Evl
/-- the places of the own polynomial fall by the prime -/
def FallBy (m : Int) (ns xs : List Int) : Prop := ∀ k, 1 ≤ k → k ≤ ns.length - 1 → m ^ k ∣ (ownM (ns.length - 1) (tabM ns xs (ns.length - 1))).getD (ns.length - 1 - k) 0
theorem ownM_len {n : Nat} {rows : List (List Int)} : (ownM n rows).length = n + 1 := by
  unfold ownM
  rw [ownF_len, List.length_append, List.length_replicate, List.length_singleton]
section
local macro_rules | `(tactic| walk_at "rs") => `(tactic| first
  | with_reducible refine w_seq ?_
  | with_reducible refine w_asg ?_
  | ((with_reducible refine' w_var ?h ?_); (case h => exact rfl))
  | with_reducible refine w_c ?_
  | with_reducible refine w_op ?_
  | with_reducible refine w_I0 ?_
  | with_reducible refine w_cb ?_
  | with_reducible refine w_cons ?_
  | with_reducible refine w_nil ?_
  | with_reducible refine w_ret ?_
  | with_reducible refine w_call ?_
  | with_reducible refine w_if ?_
  | with_reducible refine w_test ?_
  | with_reducible refine w_exbl ?_
  | with_reducible refine w_eqI ?_
  | with_reducible refine w_neI ?_
  | with_reducible refine w_next ?_
  | with_reducible refine w_un ?_
  | with_reducible refine w_U ?_
  | with_reducible refine w_B ?_
  | with_reducible refine w_and ?_
  | with_reducible refine w_or ?_
  | with_reducible refine w_not ?_
  | with_reducible refine w_andV ?_
  | with_reducible refine w_notV ?_
  | with_reducible refine w_tup ?_
  | with_reducible refine w_lst ?_
  | with_reducible refine w_for ?_
  | with_reducible refine w_rng1 ?_
  | with_reducible refine w_rng2 ?_
  | with_reducible refine w_rng3 ?_
  | with_reducible refine w_iList ?_
  | with_reducible refine w_iTup ?_
  | with_reducible refine w_iRevA ?_
  | with_reducible refine w_lc ?_
  | with_reducible refine w_drop ?_
  | with_reducible refine w_par ?_
  | ((with_reducible refine' w_aug ?h ?_); (case h => exact rfl))
  | with_reducible refine w_sl ?_
  | with_reducible refine w_noPart ?_
  | with_reducible refine w_part ?_
  | with_reducible refine w_exint ?_
  | with_reducible refine w_revL ?_
  | with_reducible refine w_bm ?_
  | with_reducible refine w_augS ?_
  | with_reducible refine w_ip ?_
  | with_reducible refine w_gSub ?_
  | with_reducible refine w_gName ?_
  | with_reducible refine w_gCons ?_
  | with_reducible refine w_gNil ?_
  | with_reducible refine w_chain ?_
  | with_reducible refine w_asgG ?_)
local macro_rules | `(tactic| walk_at "rr") => `(tactic| repeat walk_at "rs")
local macro_rules | `(tactic| walk_at "rn1") => `(tactic| first
  | with_reducible refine w_seq ?_
  | with_reducible refine w_asg ?_
  | ((with_reducible refine' w_var ?h ?_); (case h => exact rfl))
  | with_reducible refine w_c ?_
  | with_reducible refine w_op ?_
  | with_reducible refine w_I0 ?_
  | with_reducible refine w_cb ?_
  | with_reducible refine w_cons ?_
  | with_reducible refine w_nil ?_
  | with_reducible refine w_ret ?_
  | with_reducible refine w_call ?_
  | with_reducible refine w_if ?_
  | with_reducible refine w_test ?_
  | with_reducible refine w_exbl ?_
  | with_reducible refine w_eqI ?_
  | with_reducible refine w_neI ?_
  | with_reducible refine w_next ?_
  | with_reducible refine w_un ?_
  | with_reducible refine w_U ?_
  | with_reducible refine w_B ?_
  | with_reducible refine w_and ?_
  | with_reducible refine w_or ?_
  | with_reducible refine w_not ?_
  | with_reducible refine w_andV ?_
  | with_reducible refine w_notV ?_
  | with_reducible refine w_lst ?_
  | with_reducible refine w_for ?_
  | with_reducible refine w_rng1 ?_
  | with_reducible refine w_rng2 ?_
  | with_reducible refine w_rng3 ?_
  | with_reducible refine w_iList ?_
  | with_reducible refine w_iTup ?_
  | with_reducible refine w_iRevA ?_
  | with_reducible refine w_lc ?_
  | with_reducible refine w_drop ?_
  | with_reducible refine w_par ?_
  | ((with_reducible refine' w_aug ?h ?_); (case h => exact rfl))
  | with_reducible refine w_sl ?_
  | with_reducible refine w_noPart ?_
  | with_reducible refine w_part ?_
  | with_reducible refine w_exint ?_
  | with_reducible refine w_revL ?_
  | with_reducible refine w_bm ?_
  | with_reducible refine w_augS ?_
  | with_reducible refine w_ip ?_
  | with_reducible refine w_gSub ?_
  | with_reducible refine w_gName ?_
  | with_reducible refine w_gCons ?_
  | with_reducible refine w_gNil ?_
  | with_reducible refine w_chain ?_
  | with_reducible refine w_asgG ?_)
local macro_rules | `(tactic| walk_at "rn") => `(tactic| repeat walk_at "rn1")

variable {P : Program} {w : World} {K : PySem.W.Frag} {mg : Str → Option Value} {base : Heap}
def sp__law_whole_by (K : PySem.W.Frag) : Sp := fun vs H Q _ => ∃ (p px : Addr) (ns xs : List Int) (m : Int), vs = [.ref p, .ref px, .int m] ∧ SqT K H p (ns.map V.int) ∧ SqT K H px (xs.map V.int) ∧ IsPoly ns ∧ xs.length + 1 = ns.length ∧ Sq (ns.length - 1) (tabM ns xs (ns.length - 1)) ∧ 0 < m ∧ m < 1000 ∧ FallBy m ns xs ∧ Ret H Q fun _ v => v = .bl true
theorem ok__law_whole_by (T : Txt K mg) (G__law_own : FnOk P w K mg base CX0 5 T._law_own.f T._law_own.fd ["_law_poly", "_law_x"] (sp__law_own K)) :
    FnOk P w K mg base CX0 6 T._law_whole_by.f T._law_whole_by.fd ["_law_poly", "_law_x", "_law_m"] (sp__law_whole_by K) := by
  refine T._law_whole_by.F.ok sc__law_whole_by (fun vs H Q E h => ?_) (fun cdv A outer st H vs Q E hr h => ?_)
  · obtain ⟨p, px, ns, xs, m, rfl, _⟩ := h
    rfl
  · obtain ⟨p, px, ns, xs, m, rfl, hx, hpx, hp, lx, hsq, m0, m1, hf, k⟩ := h
    have hl := hp.len
    refine ⟨_, (pss_cons (ps_set (i := 3) sc__law_whole_by.nd rfl (.inl rfl) (pe_call G__law_own (hr.mono (by omega)) (by rfl) T._law_own.g T._law_own.F.kp T._law_own.b .nil pass0 (pa_cons (pv 0) (pa_cons (pv 1) pa_nil))))
      (pss_cons (ps_set (i := 4) sc__law_whole_by.nd rfl (.inl rfl) pe_int)
      (pss_cons (ps_for PassesOwn.never rfl (pi_range2 (by rfl) T.n_range (pa_cons pe_int (pa_cons (pe_callB call_len_seq (by rfl) T.n_len (by decide +kernel) (pa_cons (pv 0) pa_nil)) pa_nil))) (pg_name (i := 5) sc__law_whole_by.nd rfl (.inl rfl))
        (pss_cons (ps_set (i := 4) sc__law_whole_by.nd rfl (.inl rfl) (pe_op op_mul (pv 4) (pv 2)))
          (pss_one (ps_if (pt_cmpR op_ne (pe_op op_mod (pe_ix (r := rIxL K) ix_list (pv 3) (pe_op op_sub (pe_op op_sub (pe_callB call_len_seq (by rfl) T.n_len (by decide +kernel) (pa_cons (pv 0) pa_nil)) pe_int) (pv 5)) (fun _ _ => rfl)) (pv 4)) pe_int (nomark _))
            (pss_one (ps_ret pe_bl))
            pss_nil))))
      (pss_one (ps_ret pe_bl))))), ?_⟩
    rw [show L2.start N__law_whole_by [V.ref p, .ref px, .int m] = [some (.ref p), some (.ref px), some (.int m), none, none, none] from rfl]
    try dsimp only [cxOf]
    walk_at "rr"
    refine ⟨p, px, ns, xs, rfl, hx, hpx, hp, lx, hsq, fun v H1 e1 r1 => ?_⟩
    obtain ⟨L, rfl, hL⟩ := r1
    unfold FallBy at hf
    have lo := ownM_len (n := ns.length - 1) (rows := tabM ns xs (ns.length - 1))
    generalize ownM (ns.length - 1) (tabM ns xs (ns.length - 1)) = out at hf hL lo
    walk_at "rr"
    refine ⟨p, _, rfl, .inr (ex_t e1 hx), ?_⟩
    rw [List.length_map]
    refine f_r2 (by omega) (by omega) (by omega) (by omega) (fun i σ' H' => ∃ y5, σ' = [some (.ref p), some (.ref px), some (.int m), some (.ref L), some (.int (m ^ i)), y5] ∧ Ex H1 H') ⟨none, by rw [Int.pow_zero] <;> rfl, Ex.refl _⟩ (fun i σ' H' hi hq => ?_) (fun σ' H' hq => ?_)
    · obtain ⟨y5, rfl, e⟩ := hq
      have hpw : m ^ i * m = m ^ (i + 1) := (Int.pow_succ m i).symm
      have hpos : 0 < m ^ (i + 1) := Int.pow_pos m0
      walk_at "rr"
      refine w_I (w_CMul2 (by omega) (by omega)) ?_
      rw [hpw]
      walk_at "rr"
      refine ⟨p, _, rfl, .inr (ex_t (e1.trans e) hx), ?_⟩
      rw [List.length_map]
      walk_at "rr"
      rw [show (ns.length : Int) - 1 - (1 + (i : Int)) = ((ns.length - 1 - (i + 1) : Nat) : Int) by omega]
      refine w_ixLn (ex_l e hL) (atI_nat (getD_get (show ns.length - 1 - (i + 1) < out.length by omega))) ?_
      walk_at "rr"
      refine w_I hpos ?_
      walk_at "rr"
      refine w_iteN (fun h => absurd (Int.emod_eq_zero_of_dvd (hf (i + 1) (by omega) (by omega))) h) (fun _ => ?_)
      walk_at "rr"
      exact ⟨_, rfl, e⟩
    · obtain ⟨y5, rfl, e⟩ := hq
      walk_at "rr"
      exact k _ _ (e1.trans e) rfl
structure ShownOk (ns : List Int) (m : Int) (xs : List Int) : Prop where
  mp : m ∈ primes
  len : xs.length + 1 = ns.length
  bd : ∀ x ∈ xs, 0 ≤ x ∧ x < m
  pos : ∃ x ∈ xs, 0 < x
  sq : Sq (ns.length - 1) (tabM ns xs (ns.length - 1))
  fall : FallBy m ns xs
theorem primes_nodiv : ∀ m ∈ primes, ((List.range (m - 2).toNat).map fun j : Nat => decide (m % (2 + (j : Int)) = 0)).any id = false := by decide +kernel
def sp__law_shown (K : PySem.W.Frag) : Sp := fun vs H Q _ => ∃ (p t px : Addr) (ns xs : List Int) (m : Int), vs = [.ref p, .ref t] ∧ SqT K H p (ns.map V.int) ∧ SqT K H t [.int m, .ref px] ∧ SqT K H px (xs.map V.int) ∧ IsPoly ns ∧ ShownOk ns m xs ∧ Ret H Q fun _ v => v = .bl true
theorem ok__law_shown (T : Txt K mg) (G__law_whole : FnOk P w K mg base CX0 1 T._law_whole.f T._law_whole.fd ["_law_found"] sp__law_whole)
    (G__law_row : FnOk P w K mg base CX0 2 T._law_row.f T._law_row.fd ["_law_found", "_law_many"] (sp__law_row K))
    (G__law_whole_by : FnOk P w K mg base CX0 6 T._law_whole_by.f T._law_whole_by.fd ["_law_poly", "_law_x", "_law_m"] (sp__law_whole_by K)) :
    FnOk P w K mg base CX0 7 T._law_shown.f T._law_shown.fd ["_law_poly", "_law_told"] (sp__law_shown K) := by
  refine T._law_shown.F.ok sc__law_shown (fun vs H Q E h => ?_) (fun cdv A outer st H vs Q E hr h => ?_)
  · obtain ⟨p, t, px, ns, xs, m, rfl, _⟩ := h
    rfl
  · obtain ⟨p, t, px, ns, xs, m, rfl, hx, ht, hpx, hp, S, k⟩ := h
    have hl := hp.len
    have hmb := primes_hi m S.mp
    have lx := S.len
    refine ⟨_, (pss_cons (ps_asg (pv 1) (pg_tup (by rfl) (pgs_cons (pg_name (i := 2) sc__law_shown.nd rfl (.inr rfl)) (pgs_cons (pg_name (i := 3) sc__law_shown.nd rfl (.inl rfl)) pgs_nil))))
      (pss_cons (ps_if (PW.pt (pw_or (pt_not (pt_val (pe_call G__law_whole (hr.mono (by omega)) (by rfl) T._law_whole.g T._law_whole.F.kp T._law_whole.b .nil pass0 (pa_cons (pv 2) pa_nil)))) (pw_or (pt_cmpR op_lt (pv 2) pe_int (nomark _)) (pw_or (pt_cmpR op_gt (pv 2) pe_int (nomark _)) (pw_or1 (pt_val (pe_callB (cr_any rfl) (by rfl) T.n_any (by decide +kernel) (pa_cons (pe_lc (own := [("_law_q", 4)]) (g := gName 4) (by rfl) sc__law_shown.nd (pi_range2 (by rfl) T.n_range (pa_cons pe_int (pa_cons (pv 2) pa_nil))) (blkOk_by (own := [("_law_q", 4)]) (N := N__law_shown) (sc := defScope s__law_shown) (by decide +kernel)) (fun _ _ _ _ _ => pg_name (i := 4) sc__law_shown.nd rfl (Or.inl rfl)) (fun _ _ _ _ _ => pts_nil) (fun _ _ _ _ _ => (pe_cmpR op_eq (pe_op op_mod (pv 2) (pv 4)) pe_int (nomark _)))) pa_nil))))))))
        (pss_one (ps_ret pe_bl))
        pss_nil)
      (pss_cons (ps_if (PW.pt (pw_or (pt_not (pt_val (pe_call G__law_row (hr.mono (by omega)) (by rfl) T._law_row.g T._law_row.F.kp T._law_row.b .nil pass0 (pa_cons (pv 3) (pa_cons (pe_op op_sub (pe_callB call_len_seq (by rfl) T.n_len (by decide +kernel) (pa_cons (pv 0) pa_nil)) pe_int) pa_nil))))) (pw_or1 (pt_not (pt_val (pe_callB (cr_any rfl) (by rfl) T.n_any (by decide +kernel) (pa_cons (pe_lc (own := [("_law_place", 5)]) (g := gName 5) (by rfl) sc__law_shown.nd (pi_tup (pv 3)) (blkOk_by (own := [("_law_place", 5)]) (N := N__law_shown) (sc := defScope s__law_shown) (by decide +kernel)) (fun _ _ _ _ _ => pg_name (i := 5) sc__law_shown.nd rfl (Or.inl rfl)) (fun _ _ _ _ _ => pts_nil) (fun _ _ _ _ _ => (pe_cmpR op_gt (pv 5) pe_int (nomark _)))) pa_nil)))))))
        (pss_one (ps_ret pe_bl))
        pss_nil)
      (pss_one (ps_ret (pe_and (pe_callB (cr_all rfl) (by rfl) T.n_all (by decide +kernel) (pa_cons (pe_lc (own := [("_law_place", 5)]) (g := gName 5) (by rfl) sc__law_shown.nd (pi_tup (pv 3)) (blkOk_by (own := [("_law_place", 5)]) (N := N__law_shown) (sc := defScope s__law_shown) (by decide +kernel)) (fun _ _ _ _ _ => pg_name (i := 5) sc__law_shown.nd rfl (Or.inl rfl)) (fun _ _ _ _ _ => pts_nil) (fun _ _ _ _ _ => (pe_chain op_le op_lt pe_int (pv 5) (pv 2)))) pa_nil)) (pe_one (pe_call G__law_whole_by (hr.mono (by omega)) (by rfl) T._law_whole_by.g T._law_whole_by.F.kp T._law_whole_by.b .nil pass0 (pa_cons (pv 0) (pa_cons (pv 3) (pa_cons (pv 2) pa_nil))))))))))), ?_⟩
    rw [show L2.start N__law_shown [V.ref p, .ref t] = [some (.ref p), some (.ref t), none, none, none, none] from rfl]
    try dsimp only [cxOf]
    walk_at "rr"
    refine w_gTup ht rfl ?_
    walk_at "rr"
    refine ⟨m, rfl, fun v H1 e1 r1 => ?_⟩
    subst r1
    walk_at "rr"
    refine iteF ?_
    walk_at "rr"
    refine w_ite (fun h => by omega) (fun _ => ?_)
    walk_at "rr"
    refine w_ite (fun h => by omega) (fun _ => ?_)
    walk_at "rr"
    refine c_r2 (by omega) (by omega) (c_rng (fun _ => true) (fun z => .bl (decide (m % z = 0))) (by omega) (fun _ => rfl) (fun _ _ => gives_yes) (fun j hj _ H3 e3 Q1 q1 => ?_) (fun D H2 hD e2 hacc => ?_))
    · walk_at "rr"
      refine w_I (show (0 : Int) < 2 + (j : Int) by omega) ?_
      walk_at "rr"
      exact q1 _ (Ex.refl _)
    walk_at "rr"
    refine ⟨D, (List.range (m - 2).toNat).map fun j : Nat => decide (m % (2 + (j : Int)) = 0), rfl, .inl (.inl (by rw [hacc, lcAcc_all, List.map_map, List.map_map] <;> rfl)), ?_⟩
    rw [primes_nodiv m S.mp]
    walk_at "rr"
    refine iteF ?_
    walk_at "rr"
    refine ⟨p, _, rfl, .inr (ex_t (e1.trans e2) hx), ?_⟩
    rw [List.length_map]
    walk_at "rr"
    refine ⟨px, xs, _, rfl, ex_t (e1.trans e2) hpx, by omega, by omega, fun v H3 e3 r3 => ?_⟩
    subst r3
    have e03 := e1.trans (e2.trans e3)
    walk_at "rr"
    refine iteF ?_
    walk_at "rr"
    refine c_tup (zs := xs) (G := V.int) (fun _ => true) (fun z => .bl (decide (z > 0))) (ex_t e03 hpx) (by omega) (fun _ => rfl) (fun z _ => gives_yes) (fun z _ _ H5 e5 Q' q' => ?_) (fun D4 H4 hD4 e4 hacc4 => ?_)
    · walk_at "rr"
      exact q' _ (Ex.refl _)
    rw [lcAcc_all] at hacc4
    walk_at "rr"
    refine ⟨D4, xs.map fun z => decide (z > 0), rfl, .inl (.inl (by rw [hacc4, List.map_map] <;> rfl)), ?_⟩
    rw [show (xs.map fun z => decide (z > 0)).any id = true from by
      obtain ⟨x, hx1, hx2⟩ := S.pos
      exact List.any_eq_true.mpr ⟨_, List.mem_map.mpr ⟨x, hx1, rfl⟩, decide_eq_true hx2⟩]
    walk_at "rr"
    refine iteF ?_
    walk_at "rr"
    have e04 := e03.trans e4
    refine c_tup (zs := xs) (G := V.int) (fun _ => true) (fun z => .bl true) (ex_t e04 hpx) (by omega) (fun _ => rfl) (fun z _ => gives_yes) (fun z hz _ H5 e5 Q' q' => ?_) (fun D5 H5 hD5 e5 hacc5 => ?_)
    · have bz := S.bd z hz
      walk_at "rr"
      rw [decide_eq_true bz.1]
      walk_at "rr"
      refine iteT ?_
      walk_at "rr"
      rw [decide_eq_true bz.2]
      exact q' _ (Ex.refl _)
    rw [lcAcc_all] at hacc5
    walk_at "rr"
    refine ⟨D5, xs.map fun _ => true, rfl, .inl (.inl (by rw [hacc5, List.map_map] <;> rfl)), ?_⟩
    rw [show (xs.map fun _ => true).all id = true from by
      rw [List.all_eq_true]
      intro x hx
      obtain ⟨_, _, rfl⟩ := List.mem_map.mp hx
      rfl]
    walk_at "rr"
    refine iteT ?_
    walk_at "rr"
    have e05 := e04.trans e5
    refine ⟨p, px, ns, xs, m, rfl, ex_t e05 hx, ex_t e05 hpx, hp, S.len, S.sq, by omega, by omega, S.fall, fun v H6 e6 r6 => ?_⟩
    subst r6
    exact k _ _ (e05.trans e6) rfl
end
end RH

set_option Elab.async false
set_option linter.all false
set_option maxRecDepth 100000
set_option maxHeartbeats 4000000
namespace RH
open PySem PySem.Spec PyProof.Rows L2 Evl
/-! ### the closed measure is the determinant -/
theorem meas2 (c0 c1 : Int) : measM [c0, c1, 1] = closedM [c0, c1, 1] := by
  show (0 + 2 * (0 - c1 * (0 - 1 * c1) - 2 * c0) + -((0 - 1 * c1) * (0 - 1 * c1)) : Int) = c1 * c1 - 4 * c0
  grind
def det3F (a0 a1 a2 a3 a4 : Int) : Int := 0 + a0 * (0 + a2 * a4 + -(a3 * a3)) + -(a1 * (0 + a1 * a4 + -(a3 * a2))) + a2 * (0 + a1 * a3 + -(a2 * a2))
theorem meas3 (c0 c1 c2 : Int) : measM [c0, c1, c2, 1] = closedM [c0, c1, c2, 1] := by
  obtain ⟨s1, e1⟩ : ∃ s, s = 0 - 1 * c2 := ⟨_, rfl⟩
  obtain ⟨s2, e2⟩ : ∃ s, s = 0 - c2 * s1 - 2 * c1 := ⟨_, rfl⟩
  obtain ⟨s3, e3⟩ : ∃ s, s = 0 - c2 * s2 - c1 * s1 - 3 * c0 := ⟨_, rfl⟩
  obtain ⟨s4, e4⟩ : ∃ s, s = 0 - c2 * s3 - c1 * s2 - c0 * s1 := ⟨_, rfl⟩
  have e : measM [c0, c1, c2, 1] = det3F 3 s1 s2 s3 s4 := by
    subst e1 e2 e3 e4
    rfl
  rw [e]
  subst e1 e2 e3 e4
  unfold det3F
  show _ = c2 * c2 * c1 * c1 - 4 * c1 * c1 * c1 - 4 * c2 * c2 * c2 * c0 - 27 * c0 * c0 + 18 * c2 * c1 * c0
  grind
def det4F (a0 a1 a2 a3 a4 a5 a6 : Int) : Int := 0 + a0 * (0 + a2 * (0 + a4 * a6 + -(a5 * a5)) + -(a3 * (0 + a3 * a6 + -(a5 * a4))) + a4 * (0 + a3 * a5 + -(a4 * a4))) + -(a1 * (0 + a1 * (0 + a4 * a6 + -(a5 * a5)) + -(a3 * (0 + a2 * a6 + -(a5 * a3))) + a4 * (0 + a2 * a5 + -(a4 * a3)))) + a2 * (0 + a1 * (0 + a3 * a6 + -(a5 * a4)) + -(a2 * (0 + a2 * a6 + -(a5 * a3))) + a4 * (0 + a2 * a4 + -(a3 * a3))) + -(a3 * (0 + a1 * (0 + a3 * a5 + -(a4 * a4)) + -(a2 * (0 + a2 * a5 + -(a4 * a3))) + a3 * (0 + a2 * a4 + -(a3 * a3))))
theorem meas4 (c0 c1 c2 c3 : Int) : measM [c0, c1, c2, c3, 1] = closedM [c0, c1, c2, c3, 1] := by
  obtain ⟨s1, e1⟩ : ∃ s, s = 0 - 1 * c3 := ⟨_, rfl⟩
  obtain ⟨s2, e2⟩ : ∃ s, s = 0 - c3 * s1 - 2 * c2 := ⟨_, rfl⟩
  obtain ⟨s3, e3⟩ : ∃ s, s = 0 - c3 * s2 - c2 * s1 - 3 * c1 := ⟨_, rfl⟩
  obtain ⟨s4, e4⟩ : ∃ s, s = 0 - c3 * s3 - c2 * s2 - c1 * s1 - 4 * c0 := ⟨_, rfl⟩
  obtain ⟨s5, e5⟩ : ∃ s, s = 0 - c3 * s4 - c2 * s3 - c1 * s2 - c0 * s1 := ⟨_, rfl⟩
  obtain ⟨s6, e6⟩ : ∃ s, s = 0 - c3 * s5 - c2 * s4 - c1 * s3 - c0 * s2 := ⟨_, rfl⟩
  have e : measM [c0, c1, c2, c3, 1] = det4F 4 s1 s2 s3 s4 s5 s6 := by
    have h1 : psRun [c0, c1, c2, c3, 1] 1 = [4, s1] := by subst e1; rfl
    have h2 : psRun [c0, c1, c2, c3, 1] 2 = [4, s1, s2] := by rw [psRun, h1, e2]; rfl
    have h3 : psRun [c0, c1, c2, c3, 1] 3 = [4, s1, s2, s3] := by rw [psRun, h2, e3]; rfl
    have h4 : psRun [c0, c1, c2, c3, 1] 4 = [4, s1, s2, s3, s4] := by rw [psRun, h3, e4]; rfl
    have h5 : psRun [c0, c1, c2, c3, 1] 5 = [4, s1, s2, s3, s4, s5] := by rw [psRun, h4, e5]; rfl
    have h6 : psRun [c0, c1, c2, c3, 1] 6 = [4, s1, s2, s3, s4, s5, s6] := by rw [psRun, h5, e6]; rfl
    show detL 4 (rowsM (psRun [c0, c1, c2, c3, 1] 6) 4) = _
    rw [h6]
    rfl
  rw [e]
  show _ = (4 * (12 * c0 - 3 * c3 * c1 + c2 * c2) * (12 * c0 - 3 * c3 * c1 + c2 * c2) * (12 * c0 - 3 * c3 * c1 + c2 * c2) - (72 * c2 * c0 + 9 * c3 * c2 * c1 - 27 * c1 * c1 - 27 * c3 * c3 * c0 - 2 * c2 * c2 * c2) * (72 * c2 * c0 + 9 * c3 * c2 * c1 - 27 * c1 * c1 - 27 * c3 * c3 * c0 - 2 * c2 * c2 * c2)) / 27
  refine (Int.ediv_eq_of_eq_mul_right (by decide) ?_).symm
  subst e1 e2 e3 e4 e5 e6
  unfold det4F
  grind
theorem meas_eq (ns : List Int) (h : IsPoly ns) : measM ns = closedM ns := by
  have hl := h.len
  have : ns.length = 3 ∨ ns.length = 4 ∨ ns.length = 5 := by omega
  rcases this with e | e | e
  · obtain ⟨c0, c1, rfl⟩ := h.three e
    exact meas2 c0 c1
  · obtain ⟨c0, c1, c2, rfl⟩ := h.four e
    exact meas3 c0 c1 c2
  · obtain ⟨c0, c1, c2, c3, rfl⟩ := h.five e
    exact meas4 c0 c1 c2 c3
end RH

set_option Elab.async false
set_option linter.all false
set_option maxRecDepth 100000
set_option maxHeartbeats 4000000
namespace RH
open PySem PySem.Spec PyProof.Rows L2 Evl
/-! ### a shift keeps what falls apart -/
theorem ev3 (c0 c1 x : Int) : evalP [c0, c1, 1] x = ((0 * x + 1) * x + c1) * x + c0 := rfl
theorem ev4 (c0 c1 c2 x : Int) : evalP [c0, c1, c2, 1] x = (((0 * x + 1) * x + c2) * x + c1) * x + c0 := rfl
theorem ev5 (c0 c1 c2 c3 x : Int) : evalP [c0, c1, c2, c3, 1] x = ((((0 * x + 1) * x + c3) * x + c2) * x + c1) * x + c0 := rfl
theorem shift_back {s : Int} {ns : List Int} (h : 3 ≤ ns.length ∧ ns.length ≤ 5) (ht : ∃ cs, ns = cs ++ [1]) : (∃ c0 c1, ns = [c0, c1, 1]) ∨ (∃ c0 c1 c2, ns = [c0, c1, c2, 1]) ∨ ∃ c0 c1 c2 c3, ns = [c0, c1, c2, c3, 1] := by
  obtain ⟨cs, rfl⟩ := ht
  rw [List.length_append, List.length_singleton] at h
  match cs, h with
  | [c0, c1], _ => exact .inl ⟨c0, c1, rfl⟩
  | [c0, c1, c2], _ => exact .inr (.inl ⟨c0, c1, c2, rfl⟩)
  | [c0, c1, c2, c3], _ => exact .inr (.inr ⟨c0, c1, c2, c3, rfl⟩)
def Shape (ns : List Int) : Prop := (∃ c0 c1, ns = [c0, c1, 1]) ∨ (∃ c0 c1 c2, ns = [c0, c1, c2, 1]) ∨ ∃ c0 c1 c2 c3, ns = [c0, c1, c2, c3, 1]
theorem IsPoly.shape {ns : List Int} (h : IsPoly ns) : Shape ns := by
  obtain ⟨cs, e, _, _, _⟩ := h.ex
  exact shift_back (s := 0) h.len ⟨cs, e⟩
theorem shift_ev {ns : List Int} (h : Shape ns) (s x : Int) : evalP (shift s ns) x = evalP ns (x + s) := by
  rcases h with ⟨c0, c1, rfl⟩ | ⟨c0, c1, c2, rfl⟩ | ⟨c0, c1, c2, c3, rfl⟩
  · rw [shift3, ev3, ev3]
    grind
  · rw [shift4, ev4, ev4]
    grind
  · rw [shift5, ev5, ev5]
    grind
theorem fact_shift {c0 c1 c2 c3 a b c d s : Int} (F : Fact c0 c1 c2 c3 a b c d) :
    Fact (c0 + s * (c1 + s * (c2 + s * (c3 + s * 1)))) (c1 + s * (c2 + s * (c3 + s * 1)) + s * (c2 + s * (c3 + s * 1) + s * (c3 + s * 1 + s * 1))) (c2 + s * (c3 + s * 1) + s * (c3 + s * 1 + s * 1) + s * (c3 + s * 1 + s * 1 + s * 1)) (c3 + s * 1 + s * 1 + s * 1 + s * 1)
      (a + 2 * s) (b + a * s + s * s) (c + 2 * s) (d + c * s + s * s) := by
  obtain ⟨e0, e1, e2, e3⟩ := F
  subst e0 e1 e2 e3
  constructor <;> grind
theorem red_up {ns : List Int} (h : Shape ns) (s : Int) (r : Red ns) : Red (shift s ns) := by
  rcases r with ⟨x, hx⟩ | ⟨c0, c1, c2, c3, a, b, c, d, rfl, F⟩
  · refine .inl ⟨x - s, ?_⟩
    rw [shift_ev h, show x - s + s = x by omega]
    exact hx
  · exact .inr ⟨_, _, _, _, _, _, _, _, shift5 s c0 c1 c2 c3, fact_shift F⟩
theorem congr2 {x y : Int} {xs ys : List Int} (h : x = y) (h' : xs = ys) : x :: xs = y :: ys := by rw [h, h']
theorem shift_id {ns : List Int} (h : Shape ns) (s : Int) : shift (-s) (shift s ns) = ns ∧ Shape (shift s ns) := by
  rcases h with ⟨c0, c1, rfl⟩ | ⟨c0, c1, c2, rfl⟩ | ⟨c0, c1, c2, c3, rfl⟩
  · rw [shift3, shift3]
    refine ⟨?_, .inl ⟨_, _, rfl⟩⟩
    exact congr2 (by grind) (congr2 (by grind) rfl)
  · rw [shift4, shift4]
    refine ⟨?_, .inr (.inl ⟨_, _, _, rfl⟩)⟩
    exact congr2 (by grind) (congr2 (by grind) (congr2 (by grind) rfl))
  · rw [shift5, shift5]
    refine ⟨?_, .inr (.inr ⟨_, _, _, _, rfl⟩)⟩
    exact congr2 (by grind) (congr2 (by grind) (congr2 (by grind) (congr2 (by grind) rfl)))
theorem red_shift (b : List Int) (s : Int) (h : DrawnP b s) : Red (shift s b) ↔ Red b := by
  have hs := h.hb.shape
  have hi := shift_id hs s
  constructor
  · intro r
    have := red_up hi.2 (-s) r
    rwa [hi.1] at this
  · exact red_up hs s
end RH

set_option Elab.async false
set_option linter.all false
set_option maxRecDepth 100000
set_option maxHeartbeats 4000000
namespace RH
open PySem PySem.Spec PyProof.Rows L2 Evl
/-! ### the divisions, told out -/
theorem div3 (c0 c1 l : Int) : divM [c0, c1, 1] [l, 1] = ([c1 - 1 * l, 1], cutM [c0 - (c1 - 1 * l) * l]) := by
  show (cutM ([c1 - 1 * l] ++ [1]), cutM [c0 - (c1 - 1 * l) * l]) = _
  rw [cutM_one]
  rfl
theorem div4 (c0 c1 c2 l : Int) : divM [c0, c1, c2, 1] [l, 1] = ([c1 - (c2 - 1 * l) * l, c2 - 1 * l, 1], cutM [c0 - (c1 - (c2 - 1 * l) * l) * l]) := by
  show (cutM ([c1 - (c2 - 1 * l) * l, c2 - 1 * l] ++ [1]), cutM [c0 - (c1 - (c2 - 1 * l) * l) * l]) = _
  rw [cutM_one]
  rfl
theorem div5 (c0 c1 c2 c3 l : Int) : divM [c0, c1, c2, c3, 1] [l, 1] = ([c1 - (c2 - (c3 - 1 * l) * l) * l, c2 - (c3 - 1 * l) * l, c3 - 1 * l, 1], cutM [c0 - (c1 - (c2 - (c3 - 1 * l) * l) * l) * l]) := by
  show (cutM ([c1 - (c2 - (c3 - 1 * l) * l) * l, c2 - (c3 - 1 * l) * l, c3 - 1 * l] ++ [1]), cutM [c0 - (c1 - (c2 - (c3 - 1 * l) * l) * l) * l]) = _
  rw [cutM_one]
  rfl
theorem divQ (c0 c1 c2 c3 b a : Int) : divM [c0, c1, c2, c3, 1] [b, a, 1] = ([c2 - 1 * b - (c3 - 1 * a) * a, c3 - 1 * a, 1], cutM [c0 - (c2 - 1 * b - (c3 - 1 * a) * a) * b, c1 - (c3 - 1 * a) * b - (c2 - 1 * b - (c3 - 1 * a) * a) * a]) := by
  show (cutM ([c2 - 1 * b - (c3 - 1 * a) * a, c3 - 1 * a] ++ [1]), cutM [c0 - (c2 - 1 * b - (c3 - 1 * a) * a) * b, c1 - (c3 - 1 * a) * b - (c2 - 1 * b - (c3 - 1 * a) * a) * a]) = _
  rw [cutM_one]
  rfl
theorem cut1 {M x : Int} : (∀ c ∈ cutM [x], M ∣ c) ↔ M ∣ x := by
  have e : cutM [x] = if x = 0 then [] else [x] := by
    show List.take (if x = 0 then 0 else 1) [x] = _
    split <;> rfl
  rw [e]
  split
  · rename_i h
    subst h
    exact ⟨fun _ => Int.dvd_zero M, fun _ c hc => by cases hc⟩
  · exact ⟨fun h => h x (List.mem_singleton.mpr rfl), fun h c hc => by rw [List.mem_singleton.mp hc]; exact h⟩
theorem cut2 {M x y : Int} : (∀ c ∈ cutM [x, y], M ∣ c) ↔ (M ∣ x ∧ M ∣ y) := by
  have e : cutM [x, y] = if y = 0 then cutM [x] else [x, y] := by
    show List.take (if y = 0 then (if x = 0 then 0 else 1) else 2) [x, y] = _
    by_cases h : y = 0
    · rw [if_pos h, if_pos h]
      show _ = List.take (if x = 0 then 0 else 1) [x]
      split <;> rfl
    · rw [if_neg h, if_neg h]
      rfl
  rw [e]
  split
  · rename_i h
    subst h
    rw [cut1]
    exact ⟨fun h => ⟨h, Int.dvd_zero M⟩, fun h => h.1⟩
  · exact ⟨fun h => ⟨h x (by simp), h y (by simp)⟩, fun h c hc => by
      simp only [List.mem_cons, List.not_mem_nil, or_false] at hc
      rcases hc with rfl | rfl
      · exact h.1
      · exact h.2⟩
theorem rem_lin {ns : List Int} (h : Shape ns) {M l : Int} : (∀ c ∈ (divM ns [l, 1]).2, M ∣ c) ↔ M ∣ evalP ns (-l) := by
  rcases h with ⟨c0, c1, rfl⟩ | ⟨c0, c1, c2, rfl⟩ | ⟨c0, c1, c2, c3, rfl⟩
  · rw [div3, cut1, ev3, show c0 - (c1 - 1 * l) * l = ((0 * -l + 1) * -l + c1) * -l + c0 by grind]
  · rw [div4, cut1, ev4, show c0 - (c1 - (c2 - 1 * l) * l) * l = (((0 * -l + 1) * -l + c2) * -l + c1) * -l + c0 by grind]
  · rw [div5, cut1, ev5, show c0 - (c1 - (c2 - (c3 - 1 * l) * l) * l) * l = ((((0 * -l + 1) * -l + c3) * -l + c2) * -l + c1) * -l + c0 by grind]
/-! ### a root moved by the prime -/
theorem taylor {ns : List Int} (h : Shape ns) (m k x : Int) : m * m ∣ evalP ns (x + m * k) - evalP ns x - m * k * evalP (dP ns) x ∧ m ∣ evalP (dP ns) (x + m * k) - evalP (dP ns) x := by
  rcases h with ⟨c0, c1, rfl⟩ | ⟨c0, c1, c2, rfl⟩ | ⟨c0, c1, c2, c3, rfl⟩
  · refine ⟨⟨k * k, ?_⟩, ⟨2 * k, ?_⟩⟩
    · show ((0 * (x + m * k) + 1) * (x + m * k) + c1) * (x + m * k) + c0 - (((0 * x + 1) * x + c1) * x + c0) - m * k * ((0 * x + (1 + 1) * 1) * x + 1 * c1) = _
      grind
    · show (0 * (x + m * k) + (1 + 1) * 1) * (x + m * k) + 1 * c1 - ((0 * x + (1 + 1) * 1) * x + 1 * c1) = _
      grind
  · refine ⟨⟨k * k * (c2 + 3 * x + m * k), ?_⟩, ⟨k * (2 * c2 + 6 * x + 3 * m * k), ?_⟩⟩
    · show (((0 * (x + m * k) + 1) * (x + m * k) + c2) * (x + m * k) + c1) * (x + m * k) + c0 - ((((0 * x + 1) * x + c2) * x + c1) * x + c0) - m * k * (((0 * x + (1 + 1 + 1) * 1) * x + (1 + 1) * c2) * x + 1 * c1) = _
      grind
    · show ((0 * (x + m * k) + (1 + 1 + 1) * 1) * (x + m * k) + (1 + 1) * c2) * (x + m * k) + 1 * c1 - (((0 * x + (1 + 1 + 1) * 1) * x + (1 + 1) * c2) * x + 1 * c1) = _
      grind
  · refine ⟨⟨k * k * (c2 + c3 * (3 * x + m * k) + 6 * x * x + 4 * x * (m * k) + m * k * (m * k)), ?_⟩, ⟨k * (2 * c2 + c3 * (6 * x + 3 * m * k) + 12 * x * x + 12 * x * (m * k) + 4 * (m * k) * (m * k)), ?_⟩⟩
    · show ((((0 * (x + m * k) + 1) * (x + m * k) + c3) * (x + m * k) + c2) * (x + m * k) + c1) * (x + m * k) + c0 - (((((0 * x + 1) * x + c3) * x + c2) * x + c1) * x + c0) - m * k * ((((0 * x + (1 + 1 + 1 + 1) * 1) * x + (1 + 1 + 1) * c3) * x + (1 + 1) * c2) * x + 1 * c1) = _
      grind
    · show (((0 * (x + m * k) + (1 + 1 + 1 + 1) * 1) * (x + m * k) + (1 + 1 + 1) * c3) * (x + m * k) + (1 + 1) * c2) * (x + m * k) + 1 * c1 - ((((0 * x + (1 + 1 + 1 + 1) * 1) * x + (1 + 1 + 1) * c3) * x + (1 + 1) * c2) * x + 1 * c1) = _
      grind
theorem root_moved {ns : List Int} (h : Shape ns) {m x y : Int} (hxy : m ∣ y - x) (h1 : m * m ∣ evalP ns x) (h2 : m ∣ evalP (dP ns) x) : m * m ∣ evalP ns y ∧ m ∣ evalP (dP ns) y := by
  obtain ⟨k, hk⟩ := hxy
  have e : y = x + m * k := by omega
  subst e
  obtain ⟨t1, t2⟩ := taylor h m k x
  refine ⟨?_, ?_⟩
  · obtain ⟨u, hu⟩ := t1
    obtain ⟨v, hv⟩ := h1
    obtain ⟨w, hw⟩ := h2
    rw [hv, hw] at hu
    refine ⟨u + v + k * w, ?_⟩
    grind
  · obtain ⟨u, hu⟩ := t2
    obtain ⟨w, hw⟩ := h2
    refine ⟨u + w, ?_⟩
    grind
/-! ### the one square factor -/
theorem sq_one {m c2 c3 a b : Int} (hm : m ∈ primes) (ha : 0 ≤ a ∧ a < m) (hb : 0 ≤ b ∧ b < m) (e3 : m ∣ c3 - (a + a)) (e2 : m ∣ c2 - (b + b + a * a)) (nr : ∀ x, ¬ m ∣ x * x + a * x + b) : a = sqA m c3 ∧ b = sqB m c2 c3 := by
  have hb2 := primes_hi m hm
  unfold sqA sqB
  by_cases h2 : m = 2
  · rw [if_pos h2, if_pos h2]
    subst h2
    have n0 := nr 0
    have n1 := nr 1
    rw [show (0 : Int) * 0 + a * 0 + b = b by omega] at n0
    rw [show (1 : Int) * 1 + a * 1 + b = 1 + a + b by omega] at n1
    omega
  · rw [if_neg h2, if_neg h2]
    have hodd : m % 2 = 1 := by
      have : ∀ m ∈ primes, m = 2 ∨ m % 2 = 1 := by decide +kernel
      exact (this m hm).resolve_left h2
    obtain ⟨hf, hhf⟩ : ∃ hf, m + 1 = 2 * hf := ⟨(m + 1) / 2, by omega⟩
    rw [show (m + 1) / 2 = hf by omega]
    have ea : a = c3 * hf % m := by
      refine eq_of_mod ha (md_bd (by omega)) ?_
      have e := em (c3 * hf) m
      obtain ⟨t, ht⟩ := e3
      refine ⟨c3 * hf / m - t * hf - a, ?_⟩
      have e1 : c3 = 2 * a + m * t := by omega
      generalize c3 * hf % m = r at e
      generalize hq : c3 * hf / m = q at e
      subst e1
      grind
    refine ⟨ea, ?_⟩
    rw [← ea]
    refine eq_of_mod hb (md_bd (by omega)) ?_
    have e := em ((c2 - a * a) * hf) m
    obtain ⟨t, ht⟩ := e2
    refine ⟨(c2 - a * a) * hf / m - t * hf - b, ?_⟩
    have e1 : c2 = 2 * b + a * a + m * t := by omega
    generalize (c2 - a * a) * hf % m = r at e
    generalize (c2 - a * a) * hf / m = q at e
    subst e1
    grind
theorem sqA_bd {m c3 : Int} (h : 2 ≤ m) : 0 ≤ sqA m c3 ∧ sqA m c3 < m := by
  unfold sqA
  split
  · omega
  · exact md_bd h
theorem sqB_bd {m c2 c3 : Int} (h : 2 ≤ m) : 0 ≤ sqB m c2 c3 ∧ sqB m c2 c3 < m := by
  unfold sqB
  split
  · omega
  · exact md_bd h
theorem dz {m x : Int} : x % m = 0 ↔ m ∣ x := ⟨Int.dvd_of_emod_eq_zero, Int.emod_eq_zero_of_dvd⟩
theorem dneg {m x y : Int} (h : m ∣ x) (e : y = -x) : m ∣ y := by rw [e]; exact Int.dvd_neg.mpr h
theorem sq_ok {m c0 c1 c2 c3 a b : Int} (F : FactM m c0 c1 c2 c3 a b a b) (nr : ∀ x, ¬ m ∣ x * x + a * x + b) (hr : ∀ c ∈ (divM [c0, c1, c2, c3, 1] [b, a, 1]).2, m * m ∣ c) : SqOk m c0 c1 c2 c3 a b := by
  rw [divQ, cut2] at hr
  refine ⟨dz.mpr (dneg F.f3 (by omega)), dz.mpr (dneg F.f2 (by omega)), dz.mpr (dneg F.f1 ?_), dz.mpr (dneg F.f0 (by omega)), fun r _ _ h => nr r (dz.mp h), dz.mpr ?_, dz.mpr ?_⟩
  · rw [Int.mul_assoc]; omega
  · rw [show c1 - b * (c3 - a) - a * (c2 - b - a * (c3 - a)) = c1 - (c3 - 1 * a) * b - (c2 - 1 * b - (c3 - 1 * a) * a) * a by grind]
    exact hr.2
  · rw [show c0 - b * (c2 - b - a * (c3 - a)) = c0 - (c2 - 1 * b - (c3 - 1 * a) * a) * b by grind]
    exact hr.1
theorem sq_back {m c0 c1 c2 c3 a b : Int} (hm : 2 ≤ m) (S : SqOk m c0 c1 c2 c3 a b) : FactM m c0 c1 c2 c3 a b a b ∧ (∀ x, ¬ m ∣ x * x + a * x + b) ∧ ∀ c ∈ (divM [c0, c1, c2, c3, 1] [b, a, 1]).2, m * m ∣ c := by
  refine ⟨⟨dneg (dz.mp S.e0) (by omega), dneg (dz.mp S.e1) ?_, dneg (dz.mp S.e2) (by omega), dneg (dz.mp S.e3) (by omega)⟩, fun x h => ?_, ?_⟩
  · rw [Int.mul_assoc]; omega
  · have hb := md_bd (x := x) hm
    refine S.nr _ hb.1 hb.2 (dz.mpr ?_)
    have e := em x m
    generalize x % m = r at e
    generalize x / m = q at e
    subst e
    obtain ⟨t, ht⟩ := h
    refine ⟨t - (2 * r * q + m * q * q + a * q), ?_⟩
    grind
  · rw [divQ, cut2]
    refine ⟨?_, ?_⟩
    · rw [← show c0 - b * (c2 - b - a * (c3 - a)) = c0 - (c2 - 1 * b - (c3 - 1 * a) * a) * b by grind]
      exact dz.mp S.d0
    · rw [← show c1 - b * (c3 - a) - a * (c2 - b - a * (c3 - a)) = c1 - (c3 - 1 * a) * b - (c2 - 1 * b - (c3 - 1 * a) * a) * a by grind]
      exact dz.mp S.d1
theorem lacks_iff (ns : List Int) (n : Int) (hp : IsPoly ns) : Lacks ns n ↔ LLacks ns n := by
  have hs := hp.shape
  constructor
  · rintro ⟨m, hm, hmn, g, hd, hr⟩
    have hb := primes_hi m hm
    refine ⟨m, hm, dz.mpr hmn, ?_⟩
    rcases hd with ⟨l, l0, l1, rfl, h1, h2⟩ | ⟨c0, c1, c2, c3, a, b, rfl, rfl, ha, hb', F, nr⟩
    · rw [rem_lin hs] at hr
      have e := em (-l) m
      have := root_moved hs (m := m) (x := -l) (y := (-l) % m) ⟨-(-l / m), by rw [Int.mul_neg]; omega⟩ hr h2
      exact .inl ⟨(-l) % m, (md_bd (by omega)).1, (md_bd (by omega)).2, dz.mpr this.1, dz.mpr this.2⟩
    · obtain ⟨ea, eb⟩ := sq_one hm ha hb' F.f3 F.f2 nr
      refine .inr ⟨c0, c1, c2, c3, rfl, ?_⟩
      rw [← ea, ← eb]
      exact sq_ok F nr hr
  · rintro ⟨m, hm, hmn, h⟩
    have hb := primes_hi m hm
    refine ⟨m, hm, dz.mp hmn, ?_⟩
    rcases h with ⟨r, r0, r1, h1, h2⟩ | ⟨c0, c1, c2, c3, rfl, S⟩
    · have e := em (-r) m
      have := root_moved hs (m := m) (x := r) (y := -((-r) % m)) ⟨-r / m, by omega⟩ (dz.mp h1) (dz.mp h2)
      refine ⟨[(-r) % m, 1], .inl ⟨(-r) % m, (md_bd (by omega)).1, (md_bd (by omega)).2, rfl, Int.dvd_trans (Int.dvd_mul_right m m) this.1, this.2⟩, ?_⟩
      rw [rem_lin hs]
      exact this.1
    · obtain ⟨F, nr, hr⟩ := sq_back (by omega) S
      exact ⟨_, .inr ⟨c0, c1, c2, c3, _, _, rfl, rfl, sqA_bd (by omega), sqB_bd (by omega), F, nr⟩, hr⟩
end RH

set_option Elab.async false
set_option linter.all false
set_option maxRecDepth 100000
set_option maxHeartbeats 40000000
namespace RH
open PySem PySem.Spec PyProof.Rows L2 Evl
/-! ### the table, the own polynomial, told out -/
theorem turn2 (c0 c1 y0 y1 : Int) : timesM [c0, c1, 1] (turnM 2) [y0, y1] = [0 - y1 * c0, y0 - y1 * c1] := by
  have h0 : tmOut [0, 1] [y0, y1] 2 2 = [0, y0, y1] := by
    show [(0 + 0 * y0), ((0 + 0 * y1) + 1 * y0), (0 + 1 * y1)] = _
    exact congr2 (by simp) (congr2 (by simp) (congr2 (by simp) (rfl)))
  have h1 : rdIn [c0, c1, 1] [0, y0, y1] 2 2 2 = [0 - y1 * c0, y0 - y1 * c1, y1] := by
    show [0 - y1 * c0, y0 - y1 * c1, y1] = _
    exact rfl
  show List.take 2 (rdIn [c0, c1, 1] (tmOut [0, 1] [y0, y1] 2 2) 2 2 2) = _
  rw [h0, h1]
  rfl
def E21 (a00 a01 a10 a11 : Int) : Int := (a00) + (a11)
def E22 (a00 a01 a10 a11 : Int) : Int := (0 + a00 * a11 + -(a10 * a01))
theorem own2 (a00 a01 a10 a11 : Int) : ownM 2 [[a00, a01], [a10, a11]] = [E22 a00 a01 a10 a11, -E21 a00 a01 a10 a11, 1] := by
  show [(0 + (1 - 2 * (2 % 2)) * (0 + a00 * a11 + -(a10 * a01))), ((0 + (1 - 2 * (1 % 2)) * (a00)) + (1 - 2 * (1 % 2)) * (a11)), 1] = _
  exact congr2 (by unfold E22; grind) (congr2 (by unfold E21; grind) (rfl))
theorem turn3 (c0 c1 c2 y0 y1 y2 : Int) : timesM [c0, c1, c2, 1] (turnM 3) [y0, y1, y2] = [0 - y2 * c0, y0 - y2 * c1, y1 - y2 * c2] := by
  have h0 : tmOut [0, 1, 0] [y0, y1, y2] 3 3 = [0, y0, y1, y2, 0] := by
    show [(0 + 0 * y0), ((0 + 0 * y1) + 1 * y0), (((0 + 0 * y2) + 1 * y1) + 0 * y0), ((0 + 1 * y2) + 0 * y1), (0 + 0 * y2)] = _
    exact congr2 (by simp) (congr2 (by simp) (congr2 (by simp) (congr2 (by simp) (congr2 (by simp) (rfl)))))
  have h1 : rdIn [c0, c1, c2, 1] [0, y0, y1, y2, 0] 3 4 3 = [0, y0, y1, y2, 0] := by
    show [0, y0 - 0 * c0, y1 - 0 * c1, y2 - 0 * c2, 0] = _
    exact congr2 (by simp) (congr2 (by simp) (congr2 (by simp) (congr2 (by simp) (congr2 (by simp) (rfl)))))
  have h2 : rdIn [c0, c1, c2, 1] [0, y0, y1, y2, 0] 3 3 3 = [0 - y2 * c0, y0 - y2 * c1, y1 - y2 * c2, y2, 0] := by
    show [0 - y2 * c0, y0 - y2 * c1, y1 - y2 * c2, y2, 0] = _
    exact rfl
  show List.take 3 (rdIn [c0, c1, c2, 1] (rdIn [c0, c1, c2, 1] (tmOut [0, 1, 0] [y0, y1, y2] 3 3) 3 4 3) 3 3 3) = _
  rw [h0, h1, h2]
  rfl
def E31 (a00 a01 a02 a10 a11 a12 a20 a21 a22 : Int) : Int := (a00) + (a11) + (a22)
def E32 (a00 a01 a02 a10 a11 a12 a20 a21 a22 : Int) : Int := (0 + a00 * a11 + -(a10 * a01)) + (0 + a00 * a22 + -(a20 * a02)) + (0 + a11 * a22 + -(a21 * a12))
def E33 (a00 a01 a02 a10 a11 a12 a20 a21 a22 : Int) : Int := (0 + a00 * (0 + a11 * a22 + -(a21 * a12)) + -(a10 * (0 + a01 * a22 + -(a21 * a02))) + a20 * (0 + a01 * a12 + -(a11 * a02)))
theorem own3 (a00 a01 a02 a10 a11 a12 a20 a21 a22 : Int) : ownM 3 [[a00, a01, a02], [a10, a11, a12], [a20, a21, a22]] = [-E33 a00 a01 a02 a10 a11 a12 a20 a21 a22, E32 a00 a01 a02 a10 a11 a12 a20 a21 a22, -E31 a00 a01 a02 a10 a11 a12 a20 a21 a22, 1] := by
  show [(0 + (1 - 2 * (3 % 2)) * (0 + a00 * (0 + a11 * a22 + -(a21 * a12)) + -(a10 * (0 + a01 * a22 + -(a21 * a02))) + a20 * (0 + a01 * a12 + -(a11 * a02)))), (((0 + (1 - 2 * (2 % 2)) * (0 + a00 * a11 + -(a10 * a01))) + (1 - 2 * (2 % 2)) * (0 + a00 * a22 + -(a20 * a02))) + (1 - 2 * (2 % 2)) * (0 + a11 * a22 + -(a21 * a12))), (((0 + (1 - 2 * (1 % 2)) * (a00)) + (1 - 2 * (1 % 2)) * (a11)) + (1 - 2 * (1 % 2)) * (a22)), 1] = _
  exact congr2 (by unfold E33; grind) (congr2 (by unfold E32; grind) (congr2 (by unfold E31; grind) (rfl)))
theorem turn4 (c0 c1 c2 c3 y0 y1 y2 y3 : Int) : timesM [c0, c1, c2, c3, 1] (turnM 4) [y0, y1, y2, y3] = [0 - y3 * c0, y0 - y3 * c1, y1 - y3 * c2, y2 - y3 * c3] := by
  have h0 : tmOut [0, 1, 0, 0] [y0, y1, y2, y3] 4 4 = [0, y0, y1, y2, y3, 0, 0] := by
    show [(0 + 0 * y0), ((0 + 0 * y1) + 1 * y0), (((0 + 0 * y2) + 1 * y1) + 0 * y0), ((((0 + 0 * y3) + 1 * y2) + 0 * y1) + 0 * y0), (((0 + 1 * y3) + 0 * y2) + 0 * y1), ((0 + 0 * y3) + 0 * y2), (0 + 0 * y3)] = _
    exact congr2 (by simp) (congr2 (by simp) (congr2 (by simp) (congr2 (by simp) (congr2 (by simp) (congr2 (by simp) (congr2 (by simp) (rfl)))))))
  have h1 : rdIn [c0, c1, c2, c3, 1] [0, y0, y1, y2, y3, 0, 0] 4 6 4 = [0, y0, y1, y2, y3, 0, 0] := by
    show [0, y0, y1 - 0 * c0, y2 - 0 * c1, y3 - 0 * c2, 0 - 0 * c3, 0] = _
    exact congr2 (by simp) (congr2 (by simp) (congr2 (by simp) (congr2 (by simp) (congr2 (by simp) (congr2 (by simp) (congr2 (by simp) (rfl)))))))
  have h2 : rdIn [c0, c1, c2, c3, 1] [0, y0, y1, y2, y3, 0, 0] 4 5 4 = [0, y0, y1, y2, y3, 0, 0] := by
    show [0, y0 - 0 * c0, y1 - 0 * c1, y2 - 0 * c2, y3 - 0 * c3, 0, 0] = _
    exact congr2 (by simp) (congr2 (by simp) (congr2 (by simp) (congr2 (by simp) (congr2 (by simp) (congr2 (by simp) (congr2 (by simp) (rfl)))))))
  have h3 : rdIn [c0, c1, c2, c3, 1] [0, y0, y1, y2, y3, 0, 0] 4 4 4 = [0 - y3 * c0, y0 - y3 * c1, y1 - y3 * c2, y2 - y3 * c3, y3, 0, 0] := by
    show [0 - y3 * c0, y0 - y3 * c1, y1 - y3 * c2, y2 - y3 * c3, y3, 0, 0] = _
    exact rfl
  show List.take 4 (rdIn [c0, c1, c2, c3, 1] (rdIn [c0, c1, c2, c3, 1] (rdIn [c0, c1, c2, c3, 1] (tmOut [0, 1, 0, 0] [y0, y1, y2, y3] 4 4) 4 6 4) 4 5 4) 4 4 4) = _
  rw [h0, h1, h2, h3]
  rfl
def E41 (a00 a01 a02 a03 a10 a11 a12 a13 a20 a21 a22 a23 a30 a31 a32 a33 : Int) : Int := (a00) + (a11) + (a22) + (a33)
def E42 (a00 a01 a02 a03 a10 a11 a12 a13 a20 a21 a22 a23 a30 a31 a32 a33 : Int) : Int := (0 + a00 * a11 + -(a10 * a01)) + (0 + a00 * a22 + -(a20 * a02)) + (0 + a00 * a33 + -(a30 * a03)) + (0 + a11 * a22 + -(a21 * a12)) + (0 + a11 * a33 + -(a31 * a13)) + (0 + a22 * a33 + -(a32 * a23))
def E43 (a00 a01 a02 a03 a10 a11 a12 a13 a20 a21 a22 a23 a30 a31 a32 a33 : Int) : Int := (0 + a00 * (0 + a11 * a22 + -(a21 * a12)) + -(a10 * (0 + a01 * a22 + -(a21 * a02))) + a20 * (0 + a01 * a12 + -(a11 * a02))) + (0 + a00 * (0 + a11 * a33 + -(a31 * a13)) + -(a10 * (0 + a01 * a33 + -(a31 * a03))) + a30 * (0 + a01 * a13 + -(a11 * a03))) + (0 + a00 * (0 + a22 * a33 + -(a32 * a23)) + -(a20 * (0 + a02 * a33 + -(a32 * a03))) + a30 * (0 + a02 * a23 + -(a22 * a03))) + (0 + a11 * (0 + a22 * a33 + -(a32 * a23)) + -(a21 * (0 + a12 * a33 + -(a32 * a13))) + a31 * (0 + a12 * a23 + -(a22 * a13)))
def E44 (a00 a01 a02 a03 a10 a11 a12 a13 a20 a21 a22 a23 a30 a31 a32 a33 : Int) : Int := (0 + a00 * (0 + a11 * (0 + a22 * a33 + -(a32 * a23)) + -(a21 * (0 + a12 * a33 + -(a32 * a13))) + a31 * (0 + a12 * a23 + -(a22 * a13))) + -(a10 * (0 + a01 * (0 + a22 * a33 + -(a32 * a23)) + -(a21 * (0 + a02 * a33 + -(a32 * a03))) + a31 * (0 + a02 * a23 + -(a22 * a03)))) + a20 * (0 + a01 * (0 + a12 * a33 + -(a32 * a13)) + -(a11 * (0 + a02 * a33 + -(a32 * a03))) + a31 * (0 + a02 * a13 + -(a12 * a03))) + -(a30 * (0 + a01 * (0 + a12 * a23 + -(a22 * a13)) + -(a11 * (0 + a02 * a23 + -(a22 * a03))) + a21 * (0 + a02 * a13 + -(a12 * a03)))))
theorem own4 (a00 a01 a02 a03 a10 a11 a12 a13 a20 a21 a22 a23 a30 a31 a32 a33 : Int) : ownM 4 [[a00, a01, a02, a03], [a10, a11, a12, a13], [a20, a21, a22, a23], [a30, a31, a32, a33]] = [E44 a00 a01 a02 a03 a10 a11 a12 a13 a20 a21 a22 a23 a30 a31 a32 a33, -E43 a00 a01 a02 a03 a10 a11 a12 a13 a20 a21 a22 a23 a30 a31 a32 a33, E42 a00 a01 a02 a03 a10 a11 a12 a13 a20 a21 a22 a23 a30 a31 a32 a33, -E41 a00 a01 a02 a03 a10 a11 a12 a13 a20 a21 a22 a23 a30 a31 a32 a33, 1] := by
  show [(0 + (1 - 2 * (4 % 2)) * (0 + a00 * (0 + a11 * (0 + a22 * a33 + -(a32 * a23)) + -(a21 * (0 + a12 * a33 + -(a32 * a13))) + a31 * (0 + a12 * a23 + -(a22 * a13))) + -(a10 * (0 + a01 * (0 + a22 * a33 + -(a32 * a23)) + -(a21 * (0 + a02 * a33 + -(a32 * a03))) + a31 * (0 + a02 * a23 + -(a22 * a03)))) + a20 * (0 + a01 * (0 + a12 * a33 + -(a32 * a13)) + -(a11 * (0 + a02 * a33 + -(a32 * a03))) + a31 * (0 + a02 * a13 + -(a12 * a03))) + -(a30 * (0 + a01 * (0 + a12 * a23 + -(a22 * a13)) + -(a11 * (0 + a02 * a23 + -(a22 * a03))) + a21 * (0 + a02 * a13 + -(a12 * a03)))))), ((((0 + (1 - 2 * (3 % 2)) * (0 + a00 * (0 + a11 * a22 + -(a21 * a12)) + -(a10 * (0 + a01 * a22 + -(a21 * a02))) + a20 * (0 + a01 * a12 + -(a11 * a02)))) + (1 - 2 * (3 % 2)) * (0 + a00 * (0 + a11 * a33 + -(a31 * a13)) + -(a10 * (0 + a01 * a33 + -(a31 * a03))) + a30 * (0 + a01 * a13 + -(a11 * a03)))) + (1 - 2 * (3 % 2)) * (0 + a00 * (0 + a22 * a33 + -(a32 * a23)) + -(a20 * (0 + a02 * a33 + -(a32 * a03))) + a30 * (0 + a02 * a23 + -(a22 * a03)))) + (1 - 2 * (3 % 2)) * (0 + a11 * (0 + a22 * a33 + -(a32 * a23)) + -(a21 * (0 + a12 * a33 + -(a32 * a13))) + a31 * (0 + a12 * a23 + -(a22 * a13)))), ((((((0 + (1 - 2 * (2 % 2)) * (0 + a00 * a11 + -(a10 * a01))) + (1 - 2 * (2 % 2)) * (0 + a00 * a22 + -(a20 * a02))) + (1 - 2 * (2 % 2)) * (0 + a11 * a22 + -(a21 * a12))) + (1 - 2 * (2 % 2)) * (0 + a00 * a33 + -(a30 * a03))) + (1 - 2 * (2 % 2)) * (0 + a11 * a33 + -(a31 * a13))) + (1 - 2 * (2 % 2)) * (0 + a22 * a33 + -(a32 * a23))), ((((0 + (1 - 2 * (1 % 2)) * (a00)) + (1 - 2 * (1 % 2)) * (a11)) + (1 - 2 * (1 % 2)) * (a22)) + (1 - 2 * (1 % 2)) * (a33)), 1] = _
  exact congr2 (by unfold E44; grind) (congr2 (by unfold E43; grind) (congr2 (by unfold E42; grind) (congr2 (by unfold E41; grind) (rfl))))
theorem lin4_1 (m l h0 h1 h2 A B k0 k1 k2 c0 c1 c2 c3 x0 x1 x2 : Int) (eh : h0 = m * B + l * h1 - l * l * h2 + l * l * l) (e0 : c0 = l * h0 + m * m * A) (e1 : c1 = h0 + l * h1) (e2 : c2 = h1 + l * h2) (e3 : c3 = h2 + l) (f0 : x0 = h0 + m * k0) (f1 : x1 = h1 + m * k1) (f2 : x2 = h2 + m * k2) :
    E41 x0 x1 x2 1 (0 - 1 * c0) (x0 - 1 * c1) (x1 - 1 * c2) (x2 - 1 * c3) (0 - (x2 - 1 * c3) * c0) ((0 - 1 * c0) - (x2 - 1 * c3) * c1) ((x0 - 1 * c1) - (x2 - 1 * c3) * c2) ((x1 - 1 * c2) - (x2 - 1 * c3) * c3) (0 - ((x1 - 1 * c2) - (x2 - 1 * c3) * c3) * c0) ((0 - (x2 - 1 * c3) * c0) - ((x1 - 1 * c2) - (x2 - 1 * c3) * c3) * c1) (((0 - 1 * c0) - (x2 - 1 * c3) * c1) - ((x1 - 1 * c2) - (x2 - 1 * c3) * c3) * c2) (((x0 - 1 * c1) - (x2 - 1 * c3) * c2) - ((x1 - 1 * c2) - (x2 - 1 * c3) * c3) * c3) = m ^ 1 * E41 k0 k1 k2 1 ((-(k2 * h0) - m * A)) ((k0 - k2 * h1)) ((k1 - k2 * h2)) ((m * k2 - l)) (-((k1 - k2 * h2) * h0) - m * A * (m * k2 - l)) ((-(k2 * h0) - m * A) - (k1 - k2 * h2) * h1) ((k0 - k2 * h1) - (k1 - k2 * h2) * h2) (m * (k1 - k2 * h2) - l * (m * k2 - l)) (A * (l * x2 - x1 - l * l)) (A * (l - x2)) (-A) (B + k0 - l * k1 + l * l * k2) := by
  subst e0 e1 e2 e3 f0 f1 f2 eh
  unfold E41
  grind
theorem quad_1 (m a b u w A B c0 c1 c2 c3 : Int) (e0 : c0 = b * (b + m * w) + m * m * A) (e1 : c1 = a * (b + m * w) + (a + m * u) * b + m * m * B) (e2 : c2 = b + (b + m * w) + a * (a + m * u)) (e3 : c3 = a + (a + m * u)) :
    E41 b a 1 0 (0 - 0 * c0) (b - 0 * c1) (a - 0 * c2) (1 - 0 * c3) (0 - (1 - 0 * c3) * c0) ((0 - 0 * c0) - (1 - 0 * c3) * c1) ((b - 0 * c1) - (1 - 0 * c3) * c2) ((a - 0 * c2) - (1 - 0 * c3) * c3) (0 - ((a - 0 * c2) - (1 - 0 * c3) * c3) * c0) ((0 - (1 - 0 * c3) * c0) - ((a - 0 * c2) - (1 - 0 * c3) * c3) * c1) (((0 - 0 * c0) - (1 - 0 * c3) * c1) - ((a - 0 * c2) - (1 - 0 * c3) * c3) * c2) (((b - 0 * c1) - (1 - 0 * c3) * c2) - ((a - 0 * c2) - (1 - 0 * c3) * c3) * c3) = m ^ 1 * E41 0 0 1 0 0 0 0 1 (-A) (-B) (-w) (-u) (b * B + m * u * A) (a * B - A + m * u * B) (-(m * B) + u * (m * w + b)) (-w + u * (m * u + a)) := by
  subst e0 e1 e2 e3
  unfold E41
  grind
theorem lin4_2 (m l h0 h1 h2 A B k0 k1 k2 c0 c1 c2 c3 x0 x1 x2 : Int) (eh : h0 = m * B + l * h1 - l * l * h2 + l * l * l) (e0 : c0 = l * h0 + m * m * A) (e1 : c1 = h0 + l * h1) (e2 : c2 = h1 + l * h2) (e3 : c3 = h2 + l) (f0 : x0 = h0 + m * k0) (f1 : x1 = h1 + m * k1) (f2 : x2 = h2 + m * k2) :
    E42 x0 x1 x2 1 (0 - 1 * c0) (x0 - 1 * c1) (x1 - 1 * c2) (x2 - 1 * c3) (0 - (x2 - 1 * c3) * c0) ((0 - 1 * c0) - (x2 - 1 * c3) * c1) ((x0 - 1 * c1) - (x2 - 1 * c3) * c2) ((x1 - 1 * c2) - (x2 - 1 * c3) * c3) (0 - ((x1 - 1 * c2) - (x2 - 1 * c3) * c3) * c0) ((0 - (x2 - 1 * c3) * c0) - ((x1 - 1 * c2) - (x2 - 1 * c3) * c3) * c1) (((0 - 1 * c0) - (x2 - 1 * c3) * c1) - ((x1 - 1 * c2) - (x2 - 1 * c3) * c3) * c2) (((x0 - 1 * c1) - (x2 - 1 * c3) * c2) - ((x1 - 1 * c2) - (x2 - 1 * c3) * c3) * c3) = m ^ 2 * E42 k0 k1 k2 1 ((-(k2 * h0) - m * A)) ((k0 - k2 * h1)) ((k1 - k2 * h2)) ((m * k2 - l)) (-((k1 - k2 * h2) * h0) - m * A * (m * k2 - l)) ((-(k2 * h0) - m * A) - (k1 - k2 * h2) * h1) ((k0 - k2 * h1) - (k1 - k2 * h2) * h2) (m * (k1 - k2 * h2) - l * (m * k2 - l)) (A * (l * x2 - x1 - l * l)) (A * (l - x2)) (-A) (B + k0 - l * k1 + l * l * k2) := by
  subst e0 e1 e2 e3 f0 f1 f2 eh
  unfold E42
  grind
theorem quad_2 (m a b u w A B c0 c1 c2 c3 : Int) (e0 : c0 = b * (b + m * w) + m * m * A) (e1 : c1 = a * (b + m * w) + (a + m * u) * b + m * m * B) (e2 : c2 = b + (b + m * w) + a * (a + m * u)) (e3 : c3 = a + (a + m * u)) :
    E42 b a 1 0 (0 - 0 * c0) (b - 0 * c1) (a - 0 * c2) (1 - 0 * c3) (0 - (1 - 0 * c3) * c0) ((0 - 0 * c0) - (1 - 0 * c3) * c1) ((b - 0 * c1) - (1 - 0 * c3) * c2) ((a - 0 * c2) - (1 - 0 * c3) * c3) (0 - ((a - 0 * c2) - (1 - 0 * c3) * c3) * c0) ((0 - (1 - 0 * c3) * c0) - ((a - 0 * c2) - (1 - 0 * c3) * c3) * c1) (((0 - 0 * c0) - (1 - 0 * c3) * c1) - ((a - 0 * c2) - (1 - 0 * c3) * c3) * c2) (((b - 0 * c1) - (1 - 0 * c3) * c2) - ((a - 0 * c2) - (1 - 0 * c3) * c3) * c3) = m ^ 2 * E42 0 0 1 0 0 0 0 1 (-A) (-B) (-w) (-u) (b * B + m * u * A) (a * B - A + m * u * B) (-(m * B) + u * (m * w + b)) (-w + u * (m * u + a)) := by
  subst e0 e1 e2 e3
  unfold E42
  grind
theorem lin4_3 (m l h0 h1 h2 A B k0 k1 k2 c0 c1 c2 c3 x0 x1 x2 : Int) (eh : h0 = m * B + l * h1 - l * l * h2 + l * l * l) (e0 : c0 = l * h0 + m * m * A) (e1 : c1 = h0 + l * h1) (e2 : c2 = h1 + l * h2) (e3 : c3 = h2 + l) (f0 : x0 = h0 + m * k0) (f1 : x1 = h1 + m * k1) (f2 : x2 = h2 + m * k2) :
    E43 x0 x1 x2 1 (0 - 1 * c0) (x0 - 1 * c1) (x1 - 1 * c2) (x2 - 1 * c3) (0 - (x2 - 1 * c3) * c0) ((0 - 1 * c0) - (x2 - 1 * c3) * c1) ((x0 - 1 * c1) - (x2 - 1 * c3) * c2) ((x1 - 1 * c2) - (x2 - 1 * c3) * c3) (0 - ((x1 - 1 * c2) - (x2 - 1 * c3) * c3) * c0) ((0 - (x2 - 1 * c3) * c0) - ((x1 - 1 * c2) - (x2 - 1 * c3) * c3) * c1) (((0 - 1 * c0) - (x2 - 1 * c3) * c1) - ((x1 - 1 * c2) - (x2 - 1 * c3) * c3) * c2) (((x0 - 1 * c1) - (x2 - 1 * c3) * c2) - ((x1 - 1 * c2) - (x2 - 1 * c3) * c3) * c3) = m ^ 3 * E43 k0 k1 k2 1 ((-(k2 * h0) - m * A)) ((k0 - k2 * h1)) ((k1 - k2 * h2)) ((m * k2 - l)) (-((k1 - k2 * h2) * h0) - m * A * (m * k2 - l)) ((-(k2 * h0) - m * A) - (k1 - k2 * h2) * h1) ((k0 - k2 * h1) - (k1 - k2 * h2) * h2) (m * (k1 - k2 * h2) - l * (m * k2 - l)) (A * (l * x2 - x1 - l * l)) (A * (l - x2)) (-A) (B + k0 - l * k1 + l * l * k2) := by
  subst e0 e1 e2 e3 f0 f1 f2 eh
  unfold E43
  grind
theorem quad_3 (m a b u w A B c0 c1 c2 c3 : Int) (e0 : c0 = b * (b + m * w) + m * m * A) (e1 : c1 = a * (b + m * w) + (a + m * u) * b + m * m * B) (e2 : c2 = b + (b + m * w) + a * (a + m * u)) (e3 : c3 = a + (a + m * u)) :
    E43 b a 1 0 (0 - 0 * c0) (b - 0 * c1) (a - 0 * c2) (1 - 0 * c3) (0 - (1 - 0 * c3) * c0) ((0 - 0 * c0) - (1 - 0 * c3) * c1) ((b - 0 * c1) - (1 - 0 * c3) * c2) ((a - 0 * c2) - (1 - 0 * c3) * c3) (0 - ((a - 0 * c2) - (1 - 0 * c3) * c3) * c0) ((0 - (1 - 0 * c3) * c0) - ((a - 0 * c2) - (1 - 0 * c3) * c3) * c1) (((0 - 0 * c0) - (1 - 0 * c3) * c1) - ((a - 0 * c2) - (1 - 0 * c3) * c3) * c2) (((b - 0 * c1) - (1 - 0 * c3) * c2) - ((a - 0 * c2) - (1 - 0 * c3) * c3) * c3) = m ^ 3 * E43 0 0 1 0 0 0 0 1 (-A) (-B) (-w) (-u) (b * B + m * u * A) (a * B - A + m * u * B) (-(m * B) + u * (m * w + b)) (-w + u * (m * u + a)) := by
  subst e0 e1 e2 e3
  unfold E43
  grind
theorem lin4_4 (m l h0 h1 h2 A B k0 k1 k2 c0 c1 c2 c3 x0 x1 x2 : Int) (eh : h0 = m * B + l * h1 - l * l * h2 + l * l * l) (e0 : c0 = l * h0 + m * m * A) (e1 : c1 = h0 + l * h1) (e2 : c2 = h1 + l * h2) (e3 : c3 = h2 + l) (f0 : x0 = h0 + m * k0) (f1 : x1 = h1 + m * k1) (f2 : x2 = h2 + m * k2) :
    E44 x0 x1 x2 1 (0 - 1 * c0) (x0 - 1 * c1) (x1 - 1 * c2) (x2 - 1 * c3) (0 - (x2 - 1 * c3) * c0) ((0 - 1 * c0) - (x2 - 1 * c3) * c1) ((x0 - 1 * c1) - (x2 - 1 * c3) * c2) ((x1 - 1 * c2) - (x2 - 1 * c3) * c3) (0 - ((x1 - 1 * c2) - (x2 - 1 * c3) * c3) * c0) ((0 - (x2 - 1 * c3) * c0) - ((x1 - 1 * c2) - (x2 - 1 * c3) * c3) * c1) (((0 - 1 * c0) - (x2 - 1 * c3) * c1) - ((x1 - 1 * c2) - (x2 - 1 * c3) * c3) * c2) (((x0 - 1 * c1) - (x2 - 1 * c3) * c2) - ((x1 - 1 * c2) - (x2 - 1 * c3) * c3) * c3) = m ^ 4 * E44 k0 k1 k2 1 ((-(k2 * h0) - m * A)) ((k0 - k2 * h1)) ((k1 - k2 * h2)) ((m * k2 - l)) (-((k1 - k2 * h2) * h0) - m * A * (m * k2 - l)) ((-(k2 * h0) - m * A) - (k1 - k2 * h2) * h1) ((k0 - k2 * h1) - (k1 - k2 * h2) * h2) (m * (k1 - k2 * h2) - l * (m * k2 - l)) (A * (l * x2 - x1 - l * l)) (A * (l - x2)) (-A) (B + k0 - l * k1 + l * l * k2) := by
  subst e0 e1 e2 e3 f0 f1 f2 eh
  unfold E44
  grind
theorem quad_4 (m a b u w A B c0 c1 c2 c3 : Int) (e0 : c0 = b * (b + m * w) + m * m * A) (e1 : c1 = a * (b + m * w) + (a + m * u) * b + m * m * B) (e2 : c2 = b + (b + m * w) + a * (a + m * u)) (e3 : c3 = a + (a + m * u)) :
    E44 b a 1 0 (0 - 0 * c0) (b - 0 * c1) (a - 0 * c2) (1 - 0 * c3) (0 - (1 - 0 * c3) * c0) ((0 - 0 * c0) - (1 - 0 * c3) * c1) ((b - 0 * c1) - (1 - 0 * c3) * c2) ((a - 0 * c2) - (1 - 0 * c3) * c3) (0 - ((a - 0 * c2) - (1 - 0 * c3) * c3) * c0) ((0 - (1 - 0 * c3) * c0) - ((a - 0 * c2) - (1 - 0 * c3) * c3) * c1) (((0 - 0 * c0) - (1 - 0 * c3) * c1) - ((a - 0 * c2) - (1 - 0 * c3) * c3) * c2) (((b - 0 * c1) - (1 - 0 * c3) * c2) - ((a - 0 * c2) - (1 - 0 * c3) * c3) * c3) = m ^ 4 * E44 0 0 1 0 0 0 0 1 (-A) (-B) (-w) (-u) (b * B + m * u * A) (a * B - A + m * u * B) (-(m * B) + u * (m * w + b)) (-w + u * (m * u + a)) := by
  subst e0 e1 e2 e3
  unfold E44
  grind
theorem lin3_1 (m l h0 h1 A B k0 k1 c0 c1 c2 x0 x1 : Int) (eh : h0 = m * B + l * h1 - l * l) (e0 : c0 = l * h0 + m * m * A) (e1 : c1 = h0 + l * h1) (e2 : c2 = h1 + l) (f0 : x0 = h0 + m * k0) (f1 : x1 = h1 + m * k1) :
    E31 x0 x1 1 (0 - 1 * c0) (x0 - 1 * c1) (x1 - 1 * c2) (0 - (x1 - 1 * c2) * c0) ((0 - 1 * c0) - (x1 - 1 * c2) * c1) ((x0 - 1 * c1) - (x1 - 1 * c2) * c2) = m ^ 1 * E31 k0 k1 1 (-(k1 * h0) - m * A) (k0 - k1 * h1) (m * k1 - l) (A * (l - x1)) (-A) (B + k0 - l * k1) := by
  subst e0 e1 e2 f0 f1 eh
  unfold E31
  grind
theorem lin3_2 (m l h0 h1 A B k0 k1 c0 c1 c2 x0 x1 : Int) (eh : h0 = m * B + l * h1 - l * l) (e0 : c0 = l * h0 + m * m * A) (e1 : c1 = h0 + l * h1) (e2 : c2 = h1 + l) (f0 : x0 = h0 + m * k0) (f1 : x1 = h1 + m * k1) :
    E32 x0 x1 1 (0 - 1 * c0) (x0 - 1 * c1) (x1 - 1 * c2) (0 - (x1 - 1 * c2) * c0) ((0 - 1 * c0) - (x1 - 1 * c2) * c1) ((x0 - 1 * c1) - (x1 - 1 * c2) * c2) = m ^ 2 * E32 k0 k1 1 (-(k1 * h0) - m * A) (k0 - k1 * h1) (m * k1 - l) (A * (l - x1)) (-A) (B + k0 - l * k1) := by
  subst e0 e1 e2 f0 f1 eh
  unfold E32
  grind
theorem lin3_3 (m l h0 h1 A B k0 k1 c0 c1 c2 x0 x1 : Int) (eh : h0 = m * B + l * h1 - l * l) (e0 : c0 = l * h0 + m * m * A) (e1 : c1 = h0 + l * h1) (e2 : c2 = h1 + l) (f0 : x0 = h0 + m * k0) (f1 : x1 = h1 + m * k1) :
    E33 x0 x1 1 (0 - 1 * c0) (x0 - 1 * c1) (x1 - 1 * c2) (0 - (x1 - 1 * c2) * c0) ((0 - 1 * c0) - (x1 - 1 * c2) * c1) ((x0 - 1 * c1) - (x1 - 1 * c2) * c2) = m ^ 3 * E33 k0 k1 1 (-(k1 * h0) - m * A) (k0 - k1 * h1) (m * k1 - l) (A * (l - x1)) (-A) (B + k0 - l * k1) := by
  subst e0 e1 e2 f0 f1 eh
  unfold E33
  grind
theorem lin2_1 (m l h0 A B k0 c0 c1 x0 : Int) (eh : h0 = m * B + l) (e0 : c0 = l * h0 + m * m * A) (e1 : c1 = h0 + l) (f0 : x0 = h0 + m * k0) :
    E21 x0 1 (0 - 1 * c0) (x0 - 1 * c1) = m ^ 1 * E21 k0 1 (-A) (B + k0) := by
  subst e0 e1 f0 eh
  unfold E21
  grind
theorem lin2_2 (m l h0 A B k0 c0 c1 x0 : Int) (eh : h0 = m * B + l) (e0 : c0 = l * h0 + m * m * A) (e1 : c1 = h0 + l) (f0 : x0 = h0 + m * k0) :
    E22 x0 1 (0 - 1 * c0) (x0 - 1 * c1) = m ^ 2 * E22 k0 1 (-A) (B + k0) := by
  subst e0 e1 f0 eh
  unfold E22
  grind
theorem tabl4 (c0 c1 c2 c3 x0 x1 x2 : Int) : tabM [c0, c1, c2, c3, 1] [x0, x1, x2, 1] 4 = [[x0, x1, x2, 1], [0 - 1 * c0, x0 - 1 * c1, x1 - 1 * c2, x2 - 1 * c3], [0 - (x2 - 1 * c3) * c0, (0 - 1 * c0) - (x2 - 1 * c3) * c1, (x0 - 1 * c1) - (x2 - 1 * c3) * c2, (x1 - 1 * c2) - (x2 - 1 * c3) * c3], [0 - ((x1 - 1 * c2) - (x2 - 1 * c3) * c3) * c0, (0 - (x2 - 1 * c3) * c0) - ((x1 - 1 * c2) - (x2 - 1 * c3) * c3) * c1, ((0 - 1 * c0) - (x2 - 1 * c3) * c1) - ((x1 - 1 * c2) - (x2 - 1 * c3) * c3) * c2, ((x0 - 1 * c1) - (x2 - 1 * c3) * c2) - ((x1 - 1 * c2) - (x2 - 1 * c3) * c3) * c3]] := by
  have h1 : rowAt [c0, c1, c2, c3, 1] [x0, x1, x2, 1] 1 = [0 - 1 * c0, x0 - 1 * c1, x1 - 1 * c2, x2 - 1 * c3] := turn4 _ _ _ _ _ _ _ _
  have h2 : rowAt [c0, c1, c2, c3, 1] [x0, x1, x2, 1] 2 = [0 - (x2 - 1 * c3) * c0, (0 - 1 * c0) - (x2 - 1 * c3) * c1, (x0 - 1 * c1) - (x2 - 1 * c3) * c2, (x1 - 1 * c2) - (x2 - 1 * c3) * c3] := by
    rw [rowAt, h1]
    exact turn4 _ _ _ _ _ _ _ _
  have h3 : rowAt [c0, c1, c2, c3, 1] [x0, x1, x2, 1] 3 = [0 - ((x1 - 1 * c2) - (x2 - 1 * c3) * c3) * c0, (0 - (x2 - 1 * c3) * c0) - ((x1 - 1 * c2) - (x2 - 1 * c3) * c3) * c1, ((0 - 1 * c0) - (x2 - 1 * c3) * c1) - ((x1 - 1 * c2) - (x2 - 1 * c3) * c3) * c2, ((x0 - 1 * c1) - (x2 - 1 * c3) * c2) - ((x1 - 1 * c2) - (x2 - 1 * c3) * c3) * c3] := by
    rw [rowAt, h2]
    exact turn4 _ _ _ _ _ _ _ _
  show [rowAt [c0, c1, c2, c3, 1] [x0, x1, x2, 1] 0, rowAt [c0, c1, c2, c3, 1] [x0, x1, x2, 1] 1, rowAt [c0, c1, c2, c3, 1] [x0, x1, x2, 1] 2, rowAt [c0, c1, c2, c3, 1] [x0, x1, x2, 1] 3] = _
  rw [h1, h2, h3]
  rfl
theorem tabl3 (c0 c1 c2 x0 x1 : Int) : tabM [c0, c1, c2, 1] [x0, x1, 1] 3 = [[x0, x1, 1], [0 - 1 * c0, x0 - 1 * c1, x1 - 1 * c2], [0 - (x1 - 1 * c2) * c0, (0 - 1 * c0) - (x1 - 1 * c2) * c1, (x0 - 1 * c1) - (x1 - 1 * c2) * c2]] := by
  have h1 : rowAt [c0, c1, c2, 1] [x0, x1, 1] 1 = [0 - 1 * c0, x0 - 1 * c1, x1 - 1 * c2] := turn3 _ _ _ _ _ _
  have h2 : rowAt [c0, c1, c2, 1] [x0, x1, 1] 2 = [0 - (x1 - 1 * c2) * c0, (0 - 1 * c0) - (x1 - 1 * c2) * c1, (x0 - 1 * c1) - (x1 - 1 * c2) * c2] := by
    rw [rowAt, h1]
    exact turn3 _ _ _ _ _ _
  show [rowAt [c0, c1, c2, 1] [x0, x1, 1] 0, rowAt [c0, c1, c2, 1] [x0, x1, 1] 1, rowAt [c0, c1, c2, 1] [x0, x1, 1] 2] = _
  rw [h1, h2]
  rfl
theorem tabl2 (c0 c1 x0 : Int) : tabM [c0, c1, 1] [x0, 1] 2 = [[x0, 1], [0 - 1 * c0, x0 - 1 * c1]] := by
  have h1 : rowAt [c0, c1, 1] [x0, 1] 1 = [0 - 1 * c0, x0 - 1 * c1] := turn2 _ _ _ _
  show [rowAt [c0, c1, 1] [x0, 1] 0, rowAt [c0, c1, 1] [x0, 1] 1] = _
  rw [h1]
  rfl
theorem tabQ (c0 c1 c2 c3 b a : Int) : tabM [c0, c1, c2, c3, 1] [b, a, 1, 0] 4 = [[b, a, 1, 0], [0 - 0 * c0, b - 0 * c1, a - 0 * c2, 1 - 0 * c3], [0 - (1 - 0 * c3) * c0, (0 - 0 * c0) - (1 - 0 * c3) * c1, (b - 0 * c1) - (1 - 0 * c3) * c2, (a - 0 * c2) - (1 - 0 * c3) * c3], [0 - ((a - 0 * c2) - (1 - 0 * c3) * c3) * c0, (0 - (1 - 0 * c3) * c0) - ((a - 0 * c2) - (1 - 0 * c3) * c3) * c1, ((0 - 0 * c0) - (1 - 0 * c3) * c1) - ((a - 0 * c2) - (1 - 0 * c3) * c3) * c2, ((b - 0 * c1) - (1 - 0 * c3) * c2) - ((a - 0 * c2) - (1 - 0 * c3) * c3) * c3]] := by
  have h1 : rowAt [c0, c1, c2, c3, 1] [b, a, 1, 0] 1 = [0 - 0 * c0, b - 0 * c1, a - 0 * c2, 1 - 0 * c3] := turn4 _ _ _ _ _ _ _ _
  have h2 : rowAt [c0, c1, c2, c3, 1] [b, a, 1, 0] 2 = [0 - (1 - 0 * c3) * c0, (0 - 0 * c0) - (1 - 0 * c3) * c1, (b - 0 * c1) - (1 - 0 * c3) * c2, (a - 0 * c2) - (1 - 0 * c3) * c3] := by
    rw [rowAt, h1]
    exact turn4 _ _ _ _ _ _ _ _
  have h3 : rowAt [c0, c1, c2, c3, 1] [b, a, 1, 0] 3 = [0 - ((a - 0 * c2) - (1 - 0 * c3) * c3) * c0, (0 - (1 - 0 * c3) * c0) - ((a - 0 * c2) - (1 - 0 * c3) * c3) * c1, ((0 - 0 * c0) - (1 - 0 * c3) * c1) - ((a - 0 * c2) - (1 - 0 * c3) * c3) * c2, ((b - 0 * c1) - (1 - 0 * c3) * c2) - ((a - 0 * c2) - (1 - 0 * c3) * c3) * c3] := by
    rw [rowAt, h2]
    exact turn4 _ _ _ _ _ _ _ _
  show [rowAt [c0, c1, c2, c3, 1] [b, a, 1, 0] 0, rowAt [c0, c1, c2, c3, 1] [b, a, 1, 0] 1, rowAt [c0, c1, c2, c3, 1] [b, a, 1, 0] 2, rowAt [c0, c1, c2, c3, 1] [b, a, 1, 0] 3] = _
  rw [h1, h2, h3]
  rfl
theorem fall2 {m : Int} {ns xs : List Int} {a00 a01 a10 a11 : Int} (hl : ns.length = 3) (ht : tabM ns xs 2 = [[a00, a01], [a10, a11]]) (d1 : m ^ 1 ∣ E21 a00 a01 a10 a11) (d2 : m ^ 2 ∣ E22 a00 a01 a10 a11) : FallBy m ns xs := by
  intro k h1 h2
  rw [hl] at h2 ⊢
  show m ^ k ∣ (ownM 2 (tabM ns xs 2)).getD (2 - k) 0
  rw [ht, own2]
  have : k = 1 ∨ k = 2 := by omega
  rcases this with rfl | rfl
  · exact Int.dvd_neg.mpr d1
  · exact d2
theorem fall3 {m : Int} {ns xs : List Int} {a00 a01 a02 a10 a11 a12 a20 a21 a22 : Int} (hl : ns.length = 4) (ht : tabM ns xs 3 = [[a00, a01, a02], [a10, a11, a12], [a20, a21, a22]]) (d1 : m ^ 1 ∣ E31 a00 a01 a02 a10 a11 a12 a20 a21 a22) (d2 : m ^ 2 ∣ E32 a00 a01 a02 a10 a11 a12 a20 a21 a22) (d3 : m ^ 3 ∣ E33 a00 a01 a02 a10 a11 a12 a20 a21 a22) : FallBy m ns xs := by
  intro k h1 h2
  rw [hl] at h2 ⊢
  show m ^ k ∣ (ownM 3 (tabM ns xs 3)).getD (3 - k) 0
  rw [ht, own3]
  have : k = 1 ∨ k = 2 ∨ k = 3 := by omega
  rcases this with rfl | rfl | rfl
  · exact Int.dvd_neg.mpr d1
  · exact d2
  · exact Int.dvd_neg.mpr d3
theorem fall4 {m : Int} {ns xs : List Int} {a00 a01 a02 a03 a10 a11 a12 a13 a20 a21 a22 a23 a30 a31 a32 a33 : Int} (hl : ns.length = 5) (ht : tabM ns xs 4 = [[a00, a01, a02, a03], [a10, a11, a12, a13], [a20, a21, a22, a23], [a30, a31, a32, a33]]) (d1 : m ^ 1 ∣ E41 a00 a01 a02 a03 a10 a11 a12 a13 a20 a21 a22 a23 a30 a31 a32 a33) (d2 : m ^ 2 ∣ E42 a00 a01 a02 a03 a10 a11 a12 a13 a20 a21 a22 a23 a30 a31 a32 a33) (d3 : m ^ 3 ∣ E43 a00 a01 a02 a03 a10 a11 a12 a13 a20 a21 a22 a23 a30 a31 a32 a33) (d4 : m ^ 4 ∣ E44 a00 a01 a02 a03 a10 a11 a12 a13 a20 a21 a22 a23 a30 a31 a32 a33) : FallBy m ns xs := by
  intro k h1 h2
  rw [hl] at h2 ⊢
  show m ^ k ∣ (ownM 4 (tabM ns xs 4)).getD (4 - k) 0
  rw [ht, own4]
  have : k = 1 ∨ k = 2 ∨ k = 3 ∨ k = 4 := by omega
  rcases this with rfl | rfl | rfl | rfl
  · exact Int.dvd_neg.mpr d1
  · exact d2
  · exact Int.dvd_neg.mpr d3
  · exact d4
end RH

set_option Elab.async false
set_option linter.all false
set_option maxRecDepth 100000
set_option maxHeartbeats 4000000
namespace RH
open PySem PySem.Spec PyProof.Rows L2 Evl
/-! ### the number that is told is shown -/
theorem turn_bd {ns ys : List Int} {B : Int} (hp : IsPoly ns) (hy : ys.length + 1 = ns.length) (h0 : 0 ≤ B) (hb : ∀ y ∈ ys, -B ≤ y ∧ y ≤ B) : ∀ y ∈ timesM ns (turnM (ns.length - 1)) ys, -(500 * B) ≤ y ∧ y ≤ 500 * B := by
  rcases hp.shape with ⟨c0, c1, rfl⟩ | ⟨c0, c1, c2, rfl⟩ | ⟨c0, c1, c2, c3, rfl⟩
  · obtain ⟨y0, y1, rfl⟩ : ∃ y0 y1, ys = [y0, y1] := by
      match ys, hy with
      | [y0, y1], _ => exact ⟨y0, y1, rfl⟩
    have b0 := hb y0 (by simp)
    have b1 := hb y1 (by simp)
    have m0 := mul_bound b1 (hp.bd (c := c0) (by simp))
    have m1 := mul_bound b1 (hp.bd (c := c1) (by simp))
    show ∀ y ∈ timesM [c0, c1, 1] (turnM 2) [y0, y1], _
    rw [turn2]
    intro y h
    simp only [List.mem_cons, List.not_mem_nil, or_false] at h
    rcases h with rfl | rfl <;> omega
  · obtain ⟨y0, y1, y2, rfl⟩ : ∃ y0 y1 y2, ys = [y0, y1, y2] := by
      match ys, hy with
      | [y0, y1, y2], _ => exact ⟨y0, y1, y2, rfl⟩
    have b0 := hb y0 (by simp)
    have b1 := hb y1 (by simp)
    have b2 := hb y2 (by simp)
    have m0 := mul_bound b2 (hp.bd (c := c0) (by simp))
    have m1 := mul_bound b2 (hp.bd (c := c1) (by simp))
    have m2 := mul_bound b2 (hp.bd (c := c2) (by simp))
    show ∀ y ∈ timesM [c0, c1, c2, 1] (turnM 3) [y0, y1, y2], _
    rw [turn3]
    intro y h
    simp only [List.mem_cons, List.not_mem_nil, or_false] at h
    rcases h with rfl | rfl | rfl <;> omega
  · obtain ⟨y0, y1, y2, y3, rfl⟩ : ∃ y0 y1 y2 y3, ys = [y0, y1, y2, y3] := by
      match ys, hy with
      | [y0, y1, y2, y3], _ => exact ⟨y0, y1, y2, y3, rfl⟩
    have b0 := hb y0 (by simp)
    have b1 := hb y1 (by simp)
    have b2 := hb y2 (by simp)
    have b3 := hb y3 (by simp)
    have m0 := mul_bound b3 (hp.bd (c := c0) (by simp))
    have m1 := mul_bound b3 (hp.bd (c := c1) (by simp))
    have m2 := mul_bound b3 (hp.bd (c := c2) (by simp))
    have m3 := mul_bound b3 (hp.bd (c := c3) (by simp))
    show ∀ y ∈ timesM [c0, c1, c2, c3, 1] (turnM 4) [y0, y1, y2, y3], _
    rw [turn4]
    intro y h
    simp only [List.mem_cons, List.not_mem_nil, or_false] at h
    rcases h with rfl | rfl | rfl | rfl <;> omega
theorem rowAt_bd {ns xs : List Int} (hp : IsPoly ns) (hx : xs.length + 1 = ns.length) (hb : ∀ x ∈ xs, -200 ≤ x ∧ x ≤ 200) : ∀ k, ∀ y ∈ rowAt ns xs k, -(200 * 500 ^ k) ≤ y ∧ y ≤ 200 * 500 ^ k
  | 0 => fun y hy => by
    have := hb y hy
    rw [Int.pow_zero]
    omega
  | k + 1 => fun y hy => by
    have hl := hp.len
    have p : (0 : Int) < 500 ^ k := Int.pow_pos (by decide)
    have := turn_bd hp (rowAt_len (by omega) hx k) (by omega) (rowAt_bd hp hx hb k) y hy
    rw [Int.pow_succ]
    omega
theorem sq_of {ns xs : List Int} (hp : IsPoly ns) (hx : xs.length + 1 = ns.length) (hb : ∀ x ∈ xs, -200 ≤ x ∧ x ≤ 200) : Sq (ns.length - 1) (tabM ns xs (ns.length - 1)) where
  len := by rw [tabM, List.length_map, List.length_range]
  wid := fun r hr => by
    have hl := hp.len
    obtain ⟨k, _, rfl⟩ := List.mem_map.mp hr
    have := rowAt_len (ns := ns) (by omega) hx k
    omega
  bd := fun r hr c hc => by
    have hl := hp.len
    obtain ⟨k, hk, rfl⟩ := List.mem_map.mp hr
    rw [List.mem_range] at hk
    have := rowAt_bd hp hx hb k c hc
    have e : k = 0 ∨ k = 1 ∨ k = 2 ∨ k = 3 := by omega
    rcases e with rfl | rfl | rfl | rfl <;> omega
theorem one_mod' {m : Int} (h : 2 ≤ m) : (1 : Int) % m = 1 := Int.emod_eq_of_lt (by decide) (by omega)
theorem em' (x m : Int) : x % m = x + m * -(x / m) := by
  have := em x m
  rw [Int.mul_neg]
  omega
theorem shown_l4 {m l c0 c1 c2 c3 : Int} (hm : m ∈ primes) (hp : IsPoly [c0, c1, c2, c3, 1]) (hr : ∀ c ∈ (divM [c0, c1, c2, c3, 1] [l, 1]).2, m * m ∣ c) (h2 : m ∣ evalP (dP [c0, c1, c2, c3, 1]) (-l)) : ShownOk [c0, c1, c2, c3, 1] m (xM m [c0, c1, c2, c3, 1] [l, 1]) := by
  have hb := primes_hi m hm
  rw [div5, cut1] at hr
  have ex : xM m [c0, c1, c2, c3, 1] [l, 1] = [(c1 - (c2 - (c3 - 1 * l) * l) * l) % m, (c2 - (c3 - 1 * l) * l) % m, (c3 - 1 * l) % m, 1 % m] := by
    unfold xM
    rw [div5]
    rfl
  rw [one_mod' hb.1] at ex
  rw [ex]
  obtain ⟨g2, q2⟩ : ∃ h, h = c3 - 1 * l := ⟨_, rfl⟩
  rw [← q2] at hr ⊢
  obtain ⟨g1, q1⟩ : ∃ h, h = c2 - g2 * l := ⟨_, rfl⟩
  rw [← q1] at hr ⊢
  obtain ⟨g0, q0⟩ : ∃ h, h = c1 - g1 * l := ⟨_, rfl⟩
  rw [← q0] at hr ⊢
  obtain ⟨A, hA⟩ := hr
  obtain ⟨B, hB⟩ := h2
  have hB : (((0 * -l + (1 + 1 + 1 + 1) * 1) * -l + (1 + 1 + 1) * c3) * -l + (1 + 1) * c2) * -l + 1 * c1 = m * B := hB
  have e0 : c0 = l * g0 + m * m * A := by rw [Int.mul_comm l]; omega
  have e1 : c1 = g0 + l * g1 := by rw [Int.mul_comm l]; omega
  have e2 : c2 = g1 + l * g2 := by rw [Int.mul_comm l]; omega
  have e3 : c3 = g2 + l := by omega
  have eh : g0 = m * B + l * g1 - l * l * g2 + l * l * l := by
    rw [← hB, e1, e2, e3]
    grind
  have b0 := md_bd (x := g0) hb.1
  have b1 := md_bd (x := g1) hb.1
  have b2 := md_bd (x := g2) hb.1
  have f0 := em' g0 m
  have f1 := em' g1 m
  have f2 := em' g2 m
  generalize g0 % m = x0 at b0 f0
  generalize g1 % m = x1 at b1 f1
  generalize g2 % m = x2 at b2 f2
  refine ⟨hm, rfl, fun x hx => ?_, ⟨1, by simp, by decide⟩, sq_of hp rfl fun x hx => ?_, fall4 rfl (tabl4 c0 c1 c2 c3 x0 x1 x2) ?_ ?_ ?_ ?_⟩
  · simp only [List.mem_cons, List.not_mem_nil, or_false] at hx
    rcases hx with rfl | rfl | rfl | rfl <;> omega
  · simp only [List.mem_cons, List.not_mem_nil, or_false] at hx
    rcases hx with rfl | rfl | rfl | rfl <;> omega
  · exact ⟨_, lin4_1 m l g0 g1 g2 A B _ _ _ c0 c1 c2 c3 x0 x1 x2 eh e0 e1 e2 e3 f0 f1 f2⟩
  · exact ⟨_, lin4_2 m l g0 g1 g2 A B _ _ _ c0 c1 c2 c3 x0 x1 x2 eh e0 e1 e2 e3 f0 f1 f2⟩
  · exact ⟨_, lin4_3 m l g0 g1 g2 A B _ _ _ c0 c1 c2 c3 x0 x1 x2 eh e0 e1 e2 e3 f0 f1 f2⟩
  · exact ⟨_, lin4_4 m l g0 g1 g2 A B _ _ _ c0 c1 c2 c3 x0 x1 x2 eh e0 e1 e2 e3 f0 f1 f2⟩
theorem shown_l3 {m l c0 c1 c2 : Int} (hm : m ∈ primes) (hp : IsPoly [c0, c1, c2, 1]) (hr : ∀ c ∈ (divM [c0, c1, c2, 1] [l, 1]).2, m * m ∣ c) (h2 : m ∣ evalP (dP [c0, c1, c2, 1]) (-l)) : ShownOk [c0, c1, c2, 1] m (xM m [c0, c1, c2, 1] [l, 1]) := by
  have hb := primes_hi m hm
  rw [div4, cut1] at hr
  have ex : xM m [c0, c1, c2, 1] [l, 1] = [(c1 - (c2 - 1 * l) * l) % m, (c2 - 1 * l) % m, 1 % m] := by
    unfold xM
    rw [div4]
    rfl
  rw [one_mod' hb.1] at ex
  rw [ex]
  obtain ⟨g1, q1⟩ : ∃ h, h = c2 - 1 * l := ⟨_, rfl⟩
  rw [← q1] at hr ⊢
  obtain ⟨g0, q0⟩ : ∃ h, h = c1 - g1 * l := ⟨_, rfl⟩
  rw [← q0] at hr ⊢
  obtain ⟨A, hA⟩ := hr
  obtain ⟨B, hB⟩ := h2
  have hB : ((0 * -l + (1 + 1 + 1) * 1) * -l + (1 + 1) * c2) * -l + 1 * c1 = m * B := hB
  have e0 : c0 = l * g0 + m * m * A := by rw [Int.mul_comm l]; omega
  have e1 : c1 = g0 + l * g1 := by rw [Int.mul_comm l]; omega
  have e2 : c2 = g1 + l := by omega
  have eh : g0 = m * B + l * g1 - l * l := by
    rw [← hB, e1, e2]
    grind
  have b0 := md_bd (x := g0) hb.1
  have b1 := md_bd (x := g1) hb.1
  have f0 := em' g0 m
  have f1 := em' g1 m
  generalize g0 % m = x0 at b0 f0
  generalize g1 % m = x1 at b1 f1
  refine ⟨hm, rfl, fun x hx => ?_, ⟨1, by simp, by decide⟩, sq_of hp rfl fun x hx => ?_, fall3 rfl (tabl3 c0 c1 c2 x0 x1) ?_ ?_ ?_⟩
  · simp only [List.mem_cons, List.not_mem_nil, or_false] at hx
    rcases hx with rfl | rfl | rfl <;> omega
  · simp only [List.mem_cons, List.not_mem_nil, or_false] at hx
    rcases hx with rfl | rfl | rfl <;> omega
  · exact ⟨_, lin3_1 m l g0 g1 A B _ _ c0 c1 c2 x0 x1 eh e0 e1 e2 f0 f1⟩
  · exact ⟨_, lin3_2 m l g0 g1 A B _ _ c0 c1 c2 x0 x1 eh e0 e1 e2 f0 f1⟩
  · exact ⟨_, lin3_3 m l g0 g1 A B _ _ c0 c1 c2 x0 x1 eh e0 e1 e2 f0 f1⟩
theorem shown_l2 {m l c0 c1 : Int} (hm : m ∈ primes) (hp : IsPoly [c0, c1, 1]) (hr : ∀ c ∈ (divM [c0, c1, 1] [l, 1]).2, m * m ∣ c) (h2 : m ∣ evalP (dP [c0, c1, 1]) (-l)) : ShownOk [c0, c1, 1] m (xM m [c0, c1, 1] [l, 1]) := by
  have hb := primes_hi m hm
  rw [div3, cut1] at hr
  have ex : xM m [c0, c1, 1] [l, 1] = [(c1 - 1 * l) % m, 1 % m] := by
    unfold xM
    rw [div3]
    rfl
  rw [one_mod' hb.1] at ex
  rw [ex]
  obtain ⟨g0, q0⟩ : ∃ h, h = c1 - 1 * l := ⟨_, rfl⟩
  rw [← q0] at hr ⊢
  obtain ⟨A, hA⟩ := hr
  obtain ⟨B, hB⟩ := h2
  have hB : (0 * -l + (1 + 1) * 1) * -l + 1 * c1 = m * B := hB
  have e0 : c0 = l * g0 + m * m * A := by rw [Int.mul_comm l]; omega
  have e1 : c1 = g0 + l := by omega
  have eh : g0 = m * B + l := by omega
  have b0 := md_bd (x := g0) hb.1
  have f0 := em' g0 m
  generalize g0 % m = x0 at b0 f0
  refine ⟨hm, rfl, fun x hx => ?_, ⟨1, by simp, by decide⟩, sq_of hp rfl fun x hx => ?_, fall2 rfl (tabl2 c0 c1 x0) ?_ ?_⟩
  · simp only [List.mem_cons, List.not_mem_nil, or_false] at hx
    rcases hx with rfl | rfl <;> omega
  · simp only [List.mem_cons, List.not_mem_nil, or_false] at hx
    rcases hx with rfl | rfl <;> omega
  · exact ⟨_, lin2_1 m l g0 A B _ c0 c1 x0 eh e0 e1 f0⟩
  · exact ⟨_, lin2_2 m l g0 A B _ c0 c1 x0 eh e0 e1 f0⟩
theorem shown_q {m c0 c1 c2 c3 a b : Int} (hm : m ∈ primes) (hp : IsPoly [c0, c1, c2, c3, 1]) (ha : 0 ≤ a ∧ a < m) (hb' : 0 ≤ b ∧ b < m) (F : FactM m c0 c1 c2 c3 a b a b) (hr : ∀ c ∈ (divM [c0, c1, c2, c3, 1] [b, a, 1]).2, m * m ∣ c) :
    ShownOk [c0, c1, c2, c3, 1] m (xM m [c0, c1, c2, c3, 1] [b, a, 1]) := by
  have hb := primes_hi m hm
  rw [divQ, cut2] at hr
  have ex : xM m [c0, c1, c2, c3, 1] [b, a, 1] = [(c2 - 1 * b - (c3 - 1 * a) * a) % m, (c3 - 1 * a) % m, 1 % m, 0] := by
    unfold xM
    rw [divQ]
    rfl
  obtain ⟨u, hu⟩ := F.f3
  obtain ⟨w', hw'⟩ := F.f2
  obtain ⟨⟨A, hA⟩, ⟨B, hB⟩⟩ := hr
  have e3 : c3 - 1 * a = a + m * u := by omega
  rw [e3] at ex hA hB
  have ed : c2 - 1 * b - (a + m * u) * a = b + m * (w' - u * a) := by
    have : c2 = b + b + a * a + m * w' := by omega
    rw [this]
    grind
  rw [ed] at ex hA hB
  generalize w' - u * a = w at ed ex hA hB
  have r1 : (a + m * u) % m = a := by rw [Int.add_mul_emod_self_left]; exact Int.emod_eq_of_lt ha.1 ha.2
  have r2 : (b + m * w) % m = b := by rw [Int.add_mul_emod_self_left]; exact Int.emod_eq_of_lt hb'.1 hb'.2
  rw [one_mod' hb.1, r1, r2] at ex
  rw [ex]
  have f0 : c0 = b * (b + m * w) + m * m * A := by rw [Int.mul_comm b]; omega
  have f1 : c1 = a * (b + m * w) + (a + m * u) * b + m * m * B := by rw [Int.mul_comm a]; omega
  have f2 : c2 = b + (b + m * w) + a * (a + m * u) := by rw [Int.mul_comm a]; omega
  have f3 : c3 = a + (a + m * u) := by omega
  refine ⟨hm, rfl, fun x hx => ?_, ⟨1, by simp, by decide⟩, sq_of hp rfl fun x hx => ?_, fall4 rfl (tabQ c0 c1 c2 c3 b a) ?_ ?_ ?_ ?_⟩
  · simp only [List.mem_cons, List.not_mem_nil, or_false] at hx
    rcases hx with rfl | rfl | rfl | rfl <;> omega
  · simp only [List.mem_cons, List.not_mem_nil, or_false] at hx
    rcases hx with rfl | rfl | rfl | rfl <;> omega
  · exact ⟨_, quad_1 m a b u w A B c0 c1 c2 c3 f0 f1 f2 f3⟩
  · exact ⟨_, quad_2 m a b u w A B c0 c1 c2 c3 f0 f1 f2 f3⟩
  · exact ⟨_, quad_3 m a b u w A B c0 c1 c2 c3 f0 f1 f2 f3⟩
  · exact ⟨_, quad_4 m a b u w A B c0 c1 c2 c3 f0 f1 f2 f3⟩
theorem shown_ok (ns : List Int) (m : Int) (g : List Int) (hp : IsPoly ns) (hm : m ∈ primes) (h : Lk m ns g) : ShownOk ns m (xM m ns g) := by
  obtain ⟨hd, hr⟩ := h
  rcases hd with ⟨l, l0, l1, rfl, h1, h2⟩ | ⟨c0, c1, c2, c3, a, b, rfl, rfl, ha, hb', F, nr⟩
  · rcases hp.shape with ⟨c0, c1, rfl⟩ | ⟨c0, c1, c2, rfl⟩ | ⟨c0, c1, c2, c3, rfl⟩
    · exact shown_l2 hm hp hr h2
    · exact shown_l3 hm hp hr h2
    · exact shown_l4 hm hp hr h2
  · exact shown_q hm hp ha hb' F hr
end RH

set_option Elab.async false
set_option linter.all false
set_option maxRecDepth 100000
set_option maxHeartbeats 4000000
namespace RH
open PySem PySem.Spec PyProof.Rows L2 Evl
/-! ### a class is called, its __init__ may raise: what is let out at the slots σ -/
section
variable {X : Cx} {CX : CXT} {k : Nat} {f C : Addr} {fd : FuncData} {ps : List Str} {sp : Sp} {E : L2.St → XK} {x : Str} {p pos : Pos} {e : Expr} {es : List Expr} {t : TA}
def tMakeS (C : Addr) (sp : Sp) (E : L2.St → XK) (t : TA) : TE := fun σ H Q => t σ H fun vs H1 => ∀ x dx, H1 x = none → H1 dx = none → dx ≠ x → sp (.ref x :: vs) (upd (upd H1 dx (.own x)) x (.ins C dx [])) (fun v H2 => v = .non ∧ Q (.ref x) H2) (E σ)
theorem run_makeS {pins : List (Addr × Obj)} {σ : L2.St} {H : Hp} {z : Shared} {Q : VK} {us : List Value} {vs : List V} (mk : Mk X.K C f) (keeps : FnOk X.prog X.w X.K X.mg X.base CX k f fd ps sp) (room : Room (k + 1) X.A) (bd : Binds X.K fd ps [])
    (out : PassesAt CX X σ (E σ)) (iv : Inv X pins σ H z) (rel : Vals vs us)
    (ask : ∀ x dx, H x = none → H dx = none → dx ≠ x → sp (.ref x :: vs) (upd (upd H dx (.own x)) x (.ins C dx [])) (fun v H2 => v = .non ∧ Q (.ref x) H2) (E σ)) : wpAny (model X.prog X.w) X.A (call (.ref C) us) (EP X pins σ Q) X.xe z := by
  obtain ⟨n, hn⟩ : ∃ n, n = z.heap.objs.size := ⟨_, rfl⟩
  have made := Inv.made (C := C) iv
  rw [← hn] at made
  have sent := ask (n + 1) n (iv.hok.fresh (hn ▸ Nat.le_succ n)) (iv.hok.fresh (hn ▸ Nat.le_refl n)) (Nat.ne_of_lt (Nat.lt_succ_self n))
  have rel2 : Vals (V.ref (n + 1) :: vs) (Value.ref (n + 1) :: us) := .cons rfl rel
  have cnt : (Value.ref (n + 1) :: us).length = ps.length := rel2.length ▸ keeps.len _ _ _ _ sent
  subst hn
  have bnd := bd _ (Value.ref (z.heap.objs.size + 1) :: us) made.kIn (by rw [List.append_nil]; exact cnt)
  rw [List.append_nil] at bnd
  have ran := keeps.run _ X.stack _ _ ⟨Value.ref (z.heap.objs.size + 1) :: us, []⟩ _ _ _ (E σ) (room.make C us []) (made.env0.make C us []) bnd rel2 sent
  refine wpAny_call (make_map (f := f) iv.kIn mk.makes mk.init (beq_iff_eq.mp mk.fn) (codeAny_mono ran fun res z2 got => ?_))
  match res, got with
  | .error er, got => exact out pins _ _ er z2 made got
  | .ok (.ret u), got =>
    obtain ⟨v, H2, iv2, rv, rfl, q⟩ := made.after got
    exact ⟨rv, V.ref (z.heap.objs.size + 1), H2, iv2, rfl, q⟩
  | .ok .next, got => exact got.elim
  | .ok .brk, got => exact got.elim
  | .ok .cont, got => exact got.elim
theorem pe_makeS (mk : Mk X.K C f) (keeps : FnOk X.prog X.w X.K X.mg X.base CX k f fd ps sp) (room : Room (k + 1) X.A) (gl : Gl X x) (at' : X.mg x = some (.ref C)) (bd : Binds X.K fd ps []) (out : ∀ σ, PassesAt CX X σ (E σ)) (args : PA X (e :: es) t)
    (nodebug : (x == ("__debug__" : Str)) = false := by decide) (hd : starEach (e :: es) X.env = (false, eval e X.env) :: starEach es X.env := by rfl) (tl : (backTo pos (starEach es X.env)).any (·.1) = false := by rfl) :
    PE X (.Call (.Name x p) (e :: es) [] pos) (tMakeS C sp E t) := ⟨fun pins z σ H Q iv ask => by
  refine wpAny_Call_Name_kw (ld_glob iv gl at' (PySem.W.callWith_K (h₀ := X.base) iv.ok.mod.kin mk.kp (thn (args.run pos pins z σ H _ iv ask) ?_) hd tl) nodebug)
  rintro us z1 ⟨vs, H1, iv1, rel, ask1⟩
  exact ⟨iv1.kIn, run_makeS mk keeps room bd (out σ) iv1 rel ask1⟩⟩
end
/-! ### several except clauses, some with a name -/
abbrev Suite := Addr → Value → Option Addr → TS
/-- the ends of a suite whose clause names slot i -/
def namedEnds (i : Nat) (D : Ends) : Ends := { nx := fun σ' H' => D.nx (σ'.set i none) H', rt := D.rt, bk := fun σ' H' => D.bk (σ'.set i none) H', ct := fun σ' H' => D.ct (σ'.set i none) H' }
def wClauses (K : PySem.W.Frag) (Wout : WX) (D : Ends) : List (Value × Option Nat × Suite) → WX
  | [] => Wout
  | (c, none, ts) :: r => fun cls d σ H => ∃ b, PySem.W.exmOne K cls c = some b ∧ (b = true → ∀ a, H a = none → ts a cls d D σ H) ∧ (b = false → wClauses K Wout D r cls d σ H)
  | (c, some i, ts) :: r => fun cls d σ H => ∃ b, PySem.W.exmOne K cls c = some b ∧ (b = true → ∀ a, H a = none → ts a cls d (namedEnds i D) (σ.set i (some (.ref a))) H) ∧ (b = false → wClauses K Wout D r cls d σ H)
def SuiteOk (X : Cx) (b : List Stmt) (ts : Suite) : Prop := ∀ (a : Addr) (oe : Obj) (cls : Value) (d : Option Addr) (pn : List (Addr × Obj)), Zc cls d oe → (∃ vs, oe.data = .fields vs) → PSs (X.suite a ((a, oe) :: pn)) b (ts a cls d)
inductive Clauses (X : Cx) : List ExceptHandler → List (Value × Option Nat × Suite) → Prop
  | nil : Clauses X [] []
  | plain {x : Str} {c : Value} {ts : Suite} {b₀ : Stmt} {b : List Stmt} {np p' : Pos} {hds : List ExceptHandler} {l : List (Value × Option Nat × Suite)} (hc : Names X x c) (hsu : SuiteOk X (b₀ :: b) ts) (r : Clauses X hds l) :
      Clauses X (.ExceptHandler (some (.Name x np)) none (b₀ :: b) p' :: hds) ((c, none, ts) :: l)
  | named {x n : Str} {c : Value} {i : Nat} {ts : Suite} {b₀ : Stmt} {b : List Stmt} {np p' : Pos} {hds : List ExceptHandler} {l : List (Value × Option Nat × Suite)} (hc : Names X x c) (hi : X.N[i]? = some n) (hn : X.env.kindOf n = some .local) (hsu : SuiteOk X (b₀ :: b) ts)
      (r : Clauses X hds l) : Clauses X (.ExceptHandler (some (.Name x np)) (some n) (b₀ :: b) p' :: hds) ((c, some i, ts) :: l)
section
variable {X : Cx} {pins : List (Addr × Obj)} {D : Ends} {a : Addr} {cls : Value} {d : Option Addr} {σ : L2.St} {H : Hp} {B : Heap} {z : Shared}
/-- a suite's end is the try's end -/
theorem end_suite {q : Addr × Obj} {fl : Flow} (ok : X.Ok) (h : SP (X.suite a (q :: (X.pn ++ pins))) [] D fl z) : SP X pins D fl z := by
  match fl, h with
  | .next, ⟨sg, hh, iv, w⟩ => exact ⟨sg, hh, iv.unsuite ok, w⟩
  | .brk, ⟨sg, hh, iv, w⟩ => exact ⟨sg, hh, iv.unsuite ok, w⟩
  | .cont, ⟨sg, hh, iv, w⟩ => exact ⟨sg, hh, iv.unsuite ok, w⟩
  | .ret u, ⟨v, sg, hh, iv, rv, w⟩ => exact ⟨v, sg, hh, iv.unsuite ok, rv, w⟩
/-- .. where the clause has a name, which goes -/
theorem end_named {q : Addr × Obj} {fl : Flow} {i : Nat} {n : Str} {p' : Pos} {M : Model} {A : Around} {E : Value → Shared → Prop} (ok : X.Ok) (dist : X.N.Nodup) (hi : X.N[i]? = some n) (hn : X.env.kindOf n = some .local) (h : SP (X.suite a (q :: (X.pn ++ pins))) [] (namedEnds i D) fl z) :
    wpAny M A (do bindName X.env n .none; unbindBehindTheSuite X.env n p') (fun _ z' => SP X pins D fl z') E z := by
  match fl, h with
  | .next, ⟨sg, hh, iv, w⟩ => exact gone_ok (iv.unsuite ok) dist hi hn fun z' iv' => ⟨_, hh, iv', w⟩
  | .brk, ⟨sg, hh, iv, w⟩ => exact gone_ok (iv.unsuite ok) dist hi hn fun z' iv' => ⟨_, hh, iv', w⟩
  | .cont, ⟨sg, hh, iv, w⟩ => exact gone_ok (iv.unsuite ok) dist hi hn fun z' iv' => ⟨_, hh, iv', w⟩
  | .ret u, ⟨v, sg, hh, iv, rv, w⟩ => exact gone_ok (iv.unsuite ok) dist hi hn fun z' iv' => ⟨v, _, hh, iv', rv, w⟩
/-- an exception on the ground: at every heap that only its slots set apart the state is told, and the suite's context with it -/
structure Ground (X : Cx) (pins : List (Addr × Obj)) (σ : L2.St) (H : Hp) (B : Heap) (a : Addr) (cls : Value) (d : Option Addr) (z : Shared) : Prop where
  air : HandSPX.FlyingZ B (X.env :: X.outer) a (Zc cls d) z.heap
  all : ∀ h', HandSPX.FlyingZ B (X.env :: X.outer) a (Zc cls d) h' → z.heap.UpToSlots h' →
    ∃ (o : Obj) (fs : Array Value), h'.get? a = some o ∧ Zc cls d o ∧ o.data = .fields fs ∧ Inv X pins σ H { z with heap := h' } ∧ Inv (X.suite a ((a, o) :: (X.pn ++ pins))) [] σ H { z with heap := h' }
  new : H a = none
/-- the clauses, one after the other; behind the last the exception goes on -/
theorem clauses_run {Wout : WX} {E : Value → Shared → Prop} (ok : X.Ok) (dist : X.N.Nodup) (g : Ground X pins σ H B a cls d z)
    (on : Wout cls d σ H → wpAny (model X.prog X.w) X.A (handleBy (.ref a) X.env []) (SP X pins D) E z) {hds : List ExceptHandler} {l : List (Value × Option Nat × Suite)} (cl : Clauses X hds l) :
    wClauses X.K Wout D l cls d σ H → wpAny (model X.prog X.w) X.A (handleBy (.ref a) X.env hds) (SP X pins D) E z := by
  obtain ⟨o, fs, ea, za, da, iv, ivS⟩ := g.all z.heap g.air (Heap.UpToSlots.refl _)
  have ty : PySem.W.Looks (model X.prog X.w) z.heap (typeOf (.ref a)) cls := fun _ _ _ _ keep q => wpAny_typeOf_ref (keep a o ea) (za.1 ▸ q)
  have named : ∀ {x : Str} {c : Value} {np : Pos} {Q : Value → Shared → Prop} {E' : Value → Shared → Prop}, Names X x c → Q c z → wpAny (model X.prog X.w) (X.A.mark (some (.ref a))) (eval (.Name x np) X.env) Q E' z := by
    rintro x c np Q E' ⟨gl, nd, top | ⟨no, bi, nn⟩⟩ q
    · exact ld_glob ivS gl top q nd
    · exact ld_blt ivS gl no bi q nn nd
  induction cl with
  | nil => exact on
  | plain nm su _ ih =>
    rintro ⟨b, one, yes, no⟩
    refine wpAny_handleBy_cons (codeAny_handlers_test (named nm ((PySem.W.exm_one (M := model X.prog X.w) iv.kIn ty one).here ?_))) Value.noConfusion
    match b with
    | false => exact ih (no rfl)
    | true =>
      refine codeAny_handlers_suite (HandSPX.lands_againZ g.air fun h4 air4 up4 => ?_)
      obtain ⟨o4, fs4, _, z4, d4, _, iv4⟩ := g.all h4 air4 up4
      exact wpAny_mono ((su a o4 cls d (X.pn ++ pins) z4 ⟨fs4, d4⟩).run [] _ _ H _ iv4 (yes rfl a g.new)) (fun _ _ r => end_suite ok r) fun _ _ r => r.elim
  | named nm hi hn su _ ih =>
    rintro ⟨b, one, yes, no⟩
    refine wpAny_handleBy_cons (codeAny_handlers_test (named nm ((PySem.W.exm_one (M := model X.prog X.w) iv.kIn ty one).here ?_))) Value.noConfusion
    match b with
    | false => exact ih (no rfl)
    | true =>
      refine codeAny_handlers_suite_as (HandSPX.lands_againZ g.air fun h4 air4 up4 => ?_)
      obtain ⟨o4, fs4, _, z4, d4, _, iv4⟩ := g.all h4 air4 up4
      refine store_ok (X := X.suite a ((a, o4) :: (X.pn ++ pins))) (v := .ref a) iv4 dist hi (.inl hn) rfl (fun z5 iv5 => ?_) (.inr hn)
      exact wpAny_mono ((su a o4 cls d (X.pn ++ pins) z4 ⟨fs4, d4⟩).run [] z5 _ H _ iv5 (yes rfl a g.new)) (fun _ _ r => end_named ok dist hi hn r) fun _ _ r => r.elim
end
section
variable {X : Cx} {body : List Stmt} {h₀ : ExceptHandler} {hds : List ExceptHandler} {l : List (Value × Option Nat × Suite)} {pos : Pos} {tb : WX → TS} {Wout : WX}
theorem ps_try_clauses (stk : X.stack = X.env :: X.outer) (frm : X.env.frame = some X.env.locals) (dist : X.N.Nodup) (tk : Takes X Wout)
    (bod : ∀ (W : WX) (pn : List (Addr × Obj)) (xe : Value → Shared → Prop), Takes (X.tr pn xe) W → PassesOwn (model X.prog X.w) X.A X.env xe → PSs (X.tr pn xe) body (tb W)) (cl : Clauses X (h₀ :: hds) l) :
    PS X (.Try body (h₀ :: hds) [] [] pos) (fun D σ H => tb (wClauses X.K Wout D l) D σ H) := ⟨fun pins s σ H D iv ask => by
  have ok := iv.ok
  have frs' : X.A.frames = some (X.env :: X.outer) := ok.frames.trans (congrArg some stk)
  refine wpAny_Try_except (wpAny_mono ((bod (wClauses X.K Wout D l) (X.pn ++ pins) _ ?takes PassesOwn.looking).run [] s σ H D (iv.toTry _) ask) ?ends fun _ _ r => r)
  case ends =>
    intro fl z r
    match fl, r with
    | .next, ⟨sg, hh, iv2, w⟩ => exact wpAny_execs_nil ⟨sg, hh, iv2.ofTry ok, w⟩
    | .brk, ⟨sg, hh, iv2, w⟩ => exact ⟨sg, hh, iv2.ofTry ok, w⟩
    | .cont, ⟨sg, hh, iv2, w⟩ => exact ⟨sg, hh, iv2.ofTry ok, w⟩
    | .ret u, ⟨v, sg, hh, iv2, rv, w⟩ => exact ⟨v, sg, hh, iv2.ofTry ok, rv, w⟩
  case takes =>
    rintro u z ⟨a, B, zI, pins', σ', H', cls, d, rfl, ivT, far, up, sky, new, os, bare, wish⟩
    have ivI : Inv X pins σ' H' zI := ivT.ofTry ok
    rw [show (X.tr (X.pn ++ pins) _).stack = X.env :: X.outer from stk] at sky
    refine Sky.land Zc.steady frs' frm sky fun hg airg upg => ?_
    have ground : Ground X pins σ' H' B a cls d { z with heap := hg } := by
      refine ⟨airg, fun h' air' up' => ?_, new⟩
      obtain ⟨o, fs, ea, za, da⟩ := air'.there
      have ivN : Inv X pins σ' H' { z with heap := h' } := ivI.landed far air'.1 ((up.trans upg).trans up') os bare
      have clear : ∀ e ∈ X.env :: X.outer, e.frame ≠ some a := fun e me fe => by
        obtain ⟨_, o2, e2, nf⟩ := air'.2.2.1.mem (List.mem_filterMap.mpr ⟨e, me, fe⟩)
        rw [ea] at e2
        cases e2
        exact nf _ da
      refine ⟨o, fs, ea, za, da, ivN, ivN.suite ea da new (fun e => clear X.env (.head _) (by rw [frm, e])) fun m => ?_⟩
      obtain ⟨e, me, fe⟩ := List.mem_filterMap.mp m
      exact clear e (.tail _ me) fe
    refine clauses_run ok dist ground (fun w => ?_) cl wish
    refine wpAny_handleBy_nil ?_
    obtain ⟨_, _, _, o, fs, T, _, _, ea, _, da, one, _⟩ := id airg
    unfold PySem.passOn
    refine wpAny_bind (wpAny_field ea da one ?_)
    rw [if_neg (fun q => by cases eq_of_beq q)]
    have leave : wpAny (model X.prog X.w) X.A (setFlight (.ref a) X.env.frame) (fun _ z4 => wpAny (model X.prog X.w) X.A (throw (.ref a) : Sem Flow) (SP X pins D) X.xe z4) X.xe { z with heap := hg } :=
      frm ▸ HandSPX.setFlight_upZ airg fun h4 held up4 => wpAny_throw (tk _ _ ⟨a, B, zI, pins, σ', H', cls, d, rfl, ivI, far, (up.trans upg).trans up4, .inr (.inr (stk ▸ held)), new, os, bare, w⟩)
    first
      | exact wpAny_bind leave
      | exact wpAny_bind (wpAny_pure (wpAny_bind leave))⟩
end
end RH

set_option Elab.async false
set_option linter.all false
set_option maxRecDepth 100000
set_option maxHeartbeats 4000000
namespace RH
open PySem PySem.Spec PyProof.Rows L2 Evl
/-! ### the classes of the text, all that is asked of them -/
/-- an own error with an __init__ of two fields -/
structure ErrAt (K : PySem.W.Frag) (mg : Str → Option Value) (x qual : Str) (st : Stmt) (ps : List Str) (f1 f2 : Str) where
  C : Addr
  f : Addr
  fd : FuncData
  g : mg x = some (.ref C)
  o : OexC K C
  i : PySem.W.findIn K (.ref C) "__init__" = some (some (.ref f))
  t : PySem.W.typeIn K (.ref f) = some (.type "function")
  F : Fun K "__init__" qual st f fd
  b : Binds K fd ps []
  n1 : PySem.W.findIn K (.ref C) f1 = some none
  n2 : PySem.W.findIn K (.ref C) f2 = some none
/-- an own error without -/
structure PlainErrAt (K : PySem.W.Frag) (mg : Str → Option Value) (x : Str) (bm : List Value) where
  C : Addr
  g : mg x = some (.ref C)
  q : PySem.W.excIn K C bm "ValueError.__new__" = true
  k : PySem.W.keepIn K (.ref C) = true
  e : PySem.W.subIn K (.ref C) (.type "BaseException") = some true
  t : PySem.W.typeIn K (.ref C) = some (.type "type")
def veM : List Value := [.type "ValueError", .type "Exception", .type "BaseException", .type "object"]
structure Zxt (K : PySem.W.Frag) (mg : Str → Option Value) where
  FallsApart : ErrAt K mg "FallsApart" "FallsApart.__init__" s_FallsApart___init__ ["self", "left", "right"] "left" "right"
  NotWhole : ErrAt K mg "NotWhole" "NotWhole.__init__" s_NotWhole___init__ ["self", "prime", "number"] "prime" "number"
  xNW : XfC K NotWhole.C
  TooGreat : PlainErrAt K mg "TooGreat" veM
  RE : Addr
  gRE : mg "RingError" = some (.ref RE)
  C : Addr
  f : Addr
  fd : FuncData
  g : mg "Ring" = some (.ref C)
  M : Mk K C f
  cl : Cls K C
  F : Fun K "__init__" "Ring.__init__" s_Ring___init__ f fd
  b : Binds K fd ["self", "poly"] []
  n1 : NoAttr K C "poly"
  n2 : NoAttr K C "degree"
  n3 : NoAttr K C "measure"
  x11 : PySem.W.exmOne K (.ref FallsApart.C) (.ref FallsApart.C) = some true
  x21 : PySem.W.exmOne K (.ref TooGreat.C) (.ref FallsApart.C) = some false
  x22 : PySem.W.exmOne K (.ref TooGreat.C) (.ref TooGreat.C) = some true
  x31 : PySem.W.exmOne K (.ref NotWhole.C) (.ref FallsApart.C) = some false
  x32 : PySem.W.exmOne K (.ref NotWhole.C) (.ref TooGreat.C) = some false
  x33 : PySem.W.exmOne K (.ref NotWhole.C) (.ref NotWhole.C) = some true
def sp_init2 (C : Addr) (f1 f2 : Str) : Sp := fun vs H Q _ => ∃ (a : Addr) (x y : V), vs = [.ref a, x, y] ∧ H a = some (exo a C none) ∧
  ∀ H2 d, H d = none → H2 a = some (exo a C (some d)) → H2 d = some (exd d [(f2, y), (f1, x)]) → (∀ b o, b ≠ a → H b = some o → H2 b = some o) → Q .non H2
theorem init2_end {C : Addr} {f1 f2 : Str} {H : Hp} {Q : VK} {a dx : Addr} {x y : V} (hd : H dx = none) (hne : dx ≠ a)
    (k : ∀ H2 d, H d = none → H2 a = some (exo a C (some d)) → H2 d = some (exd d [(f2, y), (f1, x)]) → (∀ b o, b ≠ a → H b = some o → H2 b = some o) → Q .non H2) :
    Q .non (upd (upd (upd H dx (exd dx [(f1, x)])) a (exo a C (some dx))) dx (exd dx [(f2, y), (f1, x)])) := by
  refine k _ dx hd ?_ upd_same fun b o hb h => ?_
  · rw [upd_ne (Ne.symm hne), upd_same]
  · have : b ≠ dx := fun z => by rw [z, hd] at h; cases h
    rw [upd_ne this, upd_ne hb, upd_ne this]
    exact h
section
local macro_rules | `(tactic| walk_at "rs") => `(tactic| first
  | with_reducible refine w_seq ?_
  | with_reducible refine w_asg ?_
  | ((with_reducible refine' w_var ?h ?_); (case h => exact rfl))
  | with_reducible refine w_c ?_
  | with_reducible refine w_op ?_
  | with_reducible refine w_I0 ?_
  | with_reducible refine w_cb ?_
  | with_reducible refine w_cons ?_
  | with_reducible refine w_nil ?_
  | with_reducible refine w_ret ?_
  | with_reducible refine w_call ?_
  | with_reducible refine w_if ?_
  | with_reducible refine w_test ?_
  | with_reducible refine w_exbl ?_
  | with_reducible refine w_eqI ?_
  | with_reducible refine w_neI ?_
  | with_reducible refine w_next ?_
  | with_reducible refine w_un ?_
  | with_reducible refine w_U ?_
  | with_reducible refine w_B ?_
  | with_reducible refine w_and ?_
  | with_reducible refine w_or ?_
  | with_reducible refine w_not ?_
  | with_reducible refine w_andV ?_
  | with_reducible refine w_notV ?_
  | with_reducible refine w_tup ?_
  | with_reducible refine w_lst ?_
  | with_reducible refine w_for ?_
  | with_reducible refine w_rng1 ?_
  | with_reducible refine w_rng2 ?_
  | with_reducible refine w_rng3 ?_
  | with_reducible refine w_iList ?_
  | with_reducible refine w_iTup ?_
  | with_reducible refine w_iRevA ?_
  | with_reducible refine w_lc ?_
  | with_reducible refine w_drop ?_
  | with_reducible refine w_par ?_
  | ((with_reducible refine' w_aug ?h ?_); (case h => exact rfl))
  | with_reducible refine w_sl ?_
  | with_reducible refine w_noPart ?_
  | with_reducible refine w_part ?_
  | with_reducible refine w_exint ?_
  | with_reducible refine w_revL ?_
  | with_reducible refine w_bm ?_
  | with_reducible refine w_augS ?_
  | with_reducible refine w_ip ?_
  | with_reducible refine w_gSub ?_
  | with_reducible refine w_gName ?_
  | with_reducible refine w_gCons ?_
  | with_reducible refine w_gNil ?_
  | with_reducible refine w_chain ?_
  | with_reducible refine w_asgG ?_)
local macro_rules | `(tactic| walk_at "rr") => `(tactic| repeat walk_at "rs")
local macro_rules | `(tactic| walk_at "rn1") => `(tactic| first
  | with_reducible refine w_seq ?_
  | with_reducible refine w_asg ?_
  | ((with_reducible refine' w_var ?h ?_); (case h => exact rfl))
  | with_reducible refine w_c ?_
  | with_reducible refine w_op ?_
  | with_reducible refine w_I0 ?_
  | with_reducible refine w_cb ?_
  | with_reducible refine w_cons ?_
  | with_reducible refine w_nil ?_
  | with_reducible refine w_ret ?_
  | with_reducible refine w_call ?_
  | with_reducible refine w_if ?_
  | with_reducible refine w_test ?_
  | with_reducible refine w_exbl ?_
  | with_reducible refine w_eqI ?_
  | with_reducible refine w_neI ?_
  | with_reducible refine w_next ?_
  | with_reducible refine w_un ?_
  | with_reducible refine w_U ?_
  | with_reducible refine w_B ?_
  | with_reducible refine w_and ?_
  | with_reducible refine w_or ?_
  | with_reducible refine w_not ?_
  | with_reducible refine w_andV ?_
  | with_reducible refine w_notV ?_
  | with_reducible refine w_lst ?_
  | with_reducible refine w_for ?_
  | with_reducible refine w_rng1 ?_
  | with_reducible refine w_rng2 ?_
  | with_reducible refine w_rng3 ?_
  | with_reducible refine w_iList ?_
  | with_reducible refine w_iTup ?_
  | with_reducible refine w_iRevA ?_
  | with_reducible refine w_lc ?_
  | with_reducible refine w_drop ?_
  | with_reducible refine w_par ?_
  | ((with_reducible refine' w_aug ?h ?_); (case h => exact rfl))
  | with_reducible refine w_sl ?_
  | with_reducible refine w_noPart ?_
  | with_reducible refine w_part ?_
  | with_reducible refine w_exint ?_
  | with_reducible refine w_revL ?_
  | with_reducible refine w_bm ?_
  | with_reducible refine w_augS ?_
  | with_reducible refine w_ip ?_
  | with_reducible refine w_gSub ?_
  | with_reducible refine w_gName ?_
  | with_reducible refine w_gCons ?_
  | with_reducible refine w_gNil ?_
  | with_reducible refine w_chain ?_
  | with_reducible refine w_asgG ?_)
local macro_rules | `(tactic| walk_at "rn") => `(tactic| repeat walk_at "rn1")

variable {P : Program} {w : World} {K : PySem.W.Frag} {mg : Str → Option Value} {base : Heap}
theorem ok_FallsApart (Z : Zxt K mg) : FnOk P w K mg base CX0 1 Z.FallsApart.f Z.FallsApart.fd ["self", "left", "right"] (sp_init2 Z.FallsApart.C "left" "right") := by
  refine Z.FallsApart.F.ok sc_FallsApart___init__ (fun vs H Q E h => ?_) (fun cdv A outer s H vs Q E hr h => ?_)
  · obtain ⟨a, x, y, rfl, _⟩ := h
    rfl
  · obtain ⟨a, x, y, rfl, ha, k⟩ := h
    refine ⟨_, pss_cons (ps_ost (pv 0) (pv 1)) (pss_one (ps_ost (pv 0) (pv 2))), ?_⟩
    rw [show L2.start N_FallsApart___init__ [V.ref a, x, y] = [some (.ref a), some x, some y] from rfl]
    try dsimp only [cxOf]
    refine w_seq ?_
    unfold tOst
    walk_at "rr"
    refine ⟨a, _, rfl, Z.FallsApart.o, Z.FallsApart.n1, .inl ⟨ha, fun dx hdx hne => ?_⟩⟩
    walk_at "rr"
    refine ⟨a, _, rfl, Z.FallsApart.o, Z.FallsApart.n2, .inr ⟨dx, [("left", x)], upd_same, by rw [upd_ne hne, upd_same], (by show 1 ≤ 900; decide), ?_⟩⟩
    exact init2_end hdx hne k
theorem ok_NotWhole (Z : Zxt K mg) : FnOk P w K mg base CX0 1 Z.NotWhole.f Z.NotWhole.fd ["self", "prime", "number"] (sp_init2 Z.NotWhole.C "prime" "number") := by
  refine Z.NotWhole.F.ok sc_NotWhole___init__ (fun vs H Q E h => ?_) (fun cdv A outer s H vs Q E hr h => ?_)
  · obtain ⟨a, x, y, rfl, _⟩ := h
    rfl
  · obtain ⟨a, x, y, rfl, ha, k⟩ := h
    refine ⟨_, pss_cons (ps_ost (pv 0) (pv 1)) (pss_one (ps_ost (pv 0) (pv 2))), ?_⟩
    rw [show L2.start N_NotWhole___init__ [V.ref a, x, y] = [some (.ref a), some x, some y] from rfl]
    try dsimp only [cxOf]
    refine w_seq ?_
    unfold tOst
    walk_at "rr"
    refine ⟨a, _, rfl, Z.NotWhole.o, Z.NotWhole.n1, .inl ⟨ha, fun dx hdx hne => ?_⟩⟩
    walk_at "rr"
    refine ⟨a, _, rfl, Z.NotWhole.o, Z.NotWhole.n2, .inr ⟨dx, [("prime", x)], upd_same, by rw [upd_ne hne, upd_same], (by show 1 ≤ 900; decide), ?_⟩⟩
    exact init2_end hdx hne k
end
/-! ### Ring -/
/-- the heap behind a made exception -/
theorem ex_made {H1 H2 : Hp} {a d : Addr} {C : Addr} {o : HO} (ha : H1 a = none) (hd : H1 d = none) (k : ∀ b o', b ≠ a → (upd H1 a (exo a C none)) b = some o' → H2 b = some o') : Ex H1 (upd (del H2 a) d o) := fun b o' h => by
  have ba : b ≠ a := fun z => by rw [z, ha] at h; cases h
  have bd : b ≠ d := fun z => by rw [z, hd] at h; cases h
  rw [upd_ne bd, del_ne ba]
  refine k b o' ba ?_
  rw [upd_ne ba]
  exact h
theorem sqt_upd {K : PySem.W.Frag} {H : Hp} {p r : Addr} {xs : List V} {o : HO} {C dx : Addr} {fs : List (Str × V)} (h : SqT K H p xs) (n : H r = some (.ins C dx fs)) : SqT K (upd H r o) p xs := by
  rcases h with (s | ⟨ob, s⟩) | s
  · exact .inl (.inl (by rw [upd_ne (ne_of s n (by intro z; cases z))]; exact s))
  · exact .inl (.inr ⟨ob, by rw [upd_ne (ne_of s n (by intro z; cases z))]; exact s⟩)
  · exact .inr s
theorem putF_len (f : Str) (v : V) : ∀ fs : List (Str × V), (L2.putF f v fs).length ≤ fs.length + 1
  | [] => by show 1 ≤ 0 + 1; decide
  | (g, x) :: r => by
    show (if g = f then (g, v) :: r else (g, x) :: L2.putF f v r).length ≤ _
    split
    · rw [List.length_cons, List.length_cons]; omega
    · have := putF_len f v r
      rw [List.length_cons, List.length_cons]; omega
theorem none_of_upd {H : Hp} {a d C : Addr} (h : (upd H a (exo a C none)) d = none) : H d = none := by
  by_cases hd : d = a
  · rw [hd, upd_same] at h; cases h
  · rwa [upd_ne hd] at h
def ringF (p : Addr) (deg size : Int) : List (Str × V) := L2.putF "measure" (.int size) (L2.putF "degree" (.int deg) (L2.putF "poly" (.ref p) []))
/-- what a try of a ring comes to: 1 falls apart, 2 too great, 3 not whole, 4 a ring -/
def sp_Ring (K : PySem.W.Frag) (mg : Str → Option Value) (Z : Zxt K mg) : Sp := fun vs H Q E => ∃ (r dx p : Addr) (ns : List Int), vs = [.ref r, .ref p] ∧ H r = some (.ins Z.C dx []) ∧ SqT K H p (ns.map V.int) ∧ IsPoly ns ∧
  (Red ns → ∀ d H', Ex H H' → E (.ref Z.FallsApart.C) (some d) H') ∧
  (¬ Red ns → (measM ns > 39999 ∨ measM ns < -39999) → ∀ H', Ex H H' → E (.ref Z.TooGreat.C) none H') ∧
  (¬ Red ns → ¬ (measM ns > 39999 ∨ measM ns < -39999) → ∀ d H' fs m g y, Ex H H' → H' d = some (.xd fs) → fs.lookup ("prime" : Str) = some (.int m) → fs.lookup ("number" : Str) = some y → m ∈ primes → m * m ∣ measM ns → Lk m ns g → IsT K H' y (xM m ns g) → E (.ref Z.NotWhole.C) (some d) H') ∧
  (¬ Red ns → ¬ (measM ns > 39999 ∨ measM ns < -39999) → ¬ Lacks ns (measM ns) → ∀ H', (∀ b o, b ≠ r → H b = some o → H' b = some o) → H' r = some (.ins Z.C dx (ringF p (ns.length - 1) (measM ns))) → Q .non H')
section
local macro_rules | `(tactic| walk_at "rs") => `(tactic| first
  | with_reducible refine w_seq ?_
  | with_reducible refine w_asg ?_
  | ((with_reducible refine' w_var ?h ?_); (case h => exact rfl))
  | with_reducible refine w_c ?_
  | with_reducible refine w_op ?_
  | with_reducible refine w_I0 ?_
  | with_reducible refine w_cb ?_
  | with_reducible refine w_cons ?_
  | with_reducible refine w_nil ?_
  | with_reducible refine w_ret ?_
  | with_reducible refine w_call ?_
  | with_reducible refine w_if ?_
  | with_reducible refine w_test ?_
  | with_reducible refine w_exbl ?_
  | with_reducible refine w_eqI ?_
  | with_reducible refine w_neI ?_
  | with_reducible refine w_next ?_
  | with_reducible refine w_un ?_
  | with_reducible refine w_U ?_
  | with_reducible refine w_B ?_
  | with_reducible refine w_and ?_
  | with_reducible refine w_or ?_
  | with_reducible refine w_not ?_
  | with_reducible refine w_andV ?_
  | with_reducible refine w_notV ?_
  | with_reducible refine w_tup ?_
  | with_reducible refine w_lst ?_
  | with_reducible refine w_for ?_
  | with_reducible refine w_rng1 ?_
  | with_reducible refine w_rng2 ?_
  | with_reducible refine w_rng3 ?_
  | with_reducible refine w_iList ?_
  | with_reducible refine w_iTup ?_
  | with_reducible refine w_iRevA ?_
  | with_reducible refine w_lc ?_
  | with_reducible refine w_drop ?_
  | with_reducible refine w_par ?_
  | ((with_reducible refine' w_aug ?h ?_); (case h => exact rfl))
  | with_reducible refine w_sl ?_
  | with_reducible refine w_noPart ?_
  | with_reducible refine w_part ?_
  | with_reducible refine w_exint ?_
  | with_reducible refine w_revL ?_
  | with_reducible refine w_bm ?_
  | with_reducible refine w_augS ?_
  | with_reducible refine w_ip ?_
  | with_reducible refine w_gSub ?_
  | with_reducible refine w_gName ?_
  | with_reducible refine w_gCons ?_
  | with_reducible refine w_gNil ?_
  | with_reducible refine w_chain ?_
  | with_reducible refine w_asgG ?_)
local macro_rules | `(tactic| walk_at "rr") => `(tactic| repeat walk_at "rs")
local macro_rules | `(tactic| walk_at "rn1") => `(tactic| first
  | with_reducible refine w_seq ?_
  | with_reducible refine w_asg ?_
  | ((with_reducible refine' w_var ?h ?_); (case h => exact rfl))
  | with_reducible refine w_c ?_
  | with_reducible refine w_op ?_
  | with_reducible refine w_I0 ?_
  | with_reducible refine w_cb ?_
  | with_reducible refine w_cons ?_
  | with_reducible refine w_nil ?_
  | with_reducible refine w_ret ?_
  | with_reducible refine w_call ?_
  | with_reducible refine w_if ?_
  | with_reducible refine w_test ?_
  | with_reducible refine w_exbl ?_
  | with_reducible refine w_eqI ?_
  | with_reducible refine w_neI ?_
  | with_reducible refine w_next ?_
  | with_reducible refine w_un ?_
  | with_reducible refine w_U ?_
  | with_reducible refine w_B ?_
  | with_reducible refine w_and ?_
  | with_reducible refine w_or ?_
  | with_reducible refine w_not ?_
  | with_reducible refine w_andV ?_
  | with_reducible refine w_notV ?_
  | with_reducible refine w_lst ?_
  | with_reducible refine w_for ?_
  | with_reducible refine w_rng1 ?_
  | with_reducible refine w_rng2 ?_
  | with_reducible refine w_rng3 ?_
  | with_reducible refine w_iList ?_
  | with_reducible refine w_iTup ?_
  | with_reducible refine w_iRevA ?_
  | with_reducible refine w_lc ?_
  | with_reducible refine w_drop ?_
  | with_reducible refine w_par ?_
  | ((with_reducible refine' w_aug ?h ?_); (case h => exact rfl))
  | with_reducible refine w_sl ?_
  | with_reducible refine w_noPart ?_
  | with_reducible refine w_part ?_
  | with_reducible refine w_exint ?_
  | with_reducible refine w_revL ?_
  | with_reducible refine w_bm ?_
  | with_reducible refine w_augS ?_
  | with_reducible refine w_ip ?_
  | with_reducible refine w_gSub ?_
  | with_reducible refine w_gName ?_
  | with_reducible refine w_gCons ?_
  | with_reducible refine w_gNil ?_
  | with_reducible refine w_chain ?_
  | with_reducible refine w_asgG ?_)
local macro_rules | `(tactic| walk_at "rn") => `(tactic| repeat walk_at "rn1")

variable {P : Program} {w : World} {K : PySem.W.Frag} {mg : Str → Option Value} {base : Heap}
theorem look_prime {x y : V} : List.lookup ("prime" : Str) [(("number" : Str), y), (("prime" : Str), x)] = some x := by
  rw [lookup_put, if_neg (by decide +kernel), lookup_put, if_pos rfl]
theorem look_number {x y : V} : List.lookup ("number" : Str) [(("number" : Str), y), (("prime" : Str), x)] = some y := by
  rw [lookup_put, if_pos rfl]
theorem ok_Ring (T : Txt K mg) (Z : Zxt K mg) (G_apart : FnOk P w K mg base CX0 3 T.apart.f T.apart.fd ["poly"] (sp_apart K)) (G_measure : FnOk P w K mg base CX0 5 T.measure.f T.measure.fd ["poly"] (sp_measure K))
    (G_outside : FnOk P w K mg base CX0 6 T.outside.f T.outside.fd ["poly", "size"] (sp_outside K))
    (G_FallsApart : FnOk P w K mg base CX0 1 Z.FallsApart.f Z.FallsApart.fd ["self", "left", "right"] (sp_init2 Z.FallsApart.C "left" "right"))
    (G_NotWhole : FnOk P w K mg base CX0 1 Z.NotWhole.f Z.NotWhole.fd ["self", "prime", "number"] (sp_init2 Z.NotWhole.C "prime" "number")) :
    FnOk P w K mg base (L2.CX P w) 7 Z.f Z.fd ["self", "poly"] (sp_Ring K mg Z) := by
  refine Z.F.okX sc_Ring___init__ (fun vs H Q E h => ?_) (fun cdv A outer s H vs Q E hr h => ?_)
  · obtain ⟨r, dx, p, ns, rfl, _⟩ := h
    rfl
  · obtain ⟨r, dx, p, ns, rfl, hr0, hx, hp, k1, k2, k3, k4⟩ := h
    have hl := hp.len
    refine ⟨_, (pss_cons (ps_set (i := 2) sc_Ring___init__.nd rfl (.inl rfl) (pe_call G_apart (hr.mono (by omega)) (by rfl) T.apart.g T.apart.F.kp T.apart.b .nil pass0 (pa_cons (pv 1) pa_nil)))
      (pss_cons (ps_if (pt_cmpR op_notN (pv 2) pe_non (nomark _))
        (pss_one (ps_raise rfl (takes_of rfl rfl rfl rfl) (pmk_oex Z.FallsApart.o Z.FallsApart.i Z.FallsApart.t G_FallsApart (hr.mono (by omega)) Z.FallsApart.b .nil pass0 (by rfl) Z.FallsApart.g (pa_cons (pe_ix (r := rIxT K) ix_tup (pv 2) pe_int (fun _ _ => rfl)) (pa_cons (pe_ix (r := rIxT K) ix_tup (pv 2) pe_int (fun _ _ => rfl)) pa_nil)))))
        pss_nil)
      (pss_cons (ps_set (i := 3) sc_Ring___init__.nd rfl (.inl rfl) (pe_call G_measure (hr.mono (by omega)) (by rfl) T.measure.g T.measure.F.kp T.measure.b .nil pass0 (pa_cons (pv 1) pa_nil)))
      (pss_cons (ps_if (pt_cmpR op_gt (pe_callB call_abs (by rfl) T.n_abs (by decide +kernel) (pa_cons (pv 3) pa_nil)) (pe_glob (v := .int 39999) rfl T.g_GREATEST.choose_spec ⟨_, rfl⟩) (nomark _))
        (pss_one (ps_raise rfl (takes_of rfl rfl rfl rfl) (pmk_own PySem.F.excBase_ValueError Z.TooGreat.q Z.TooGreat.g Z.TooGreat.k (raises_own Z.TooGreat.e Z.TooGreat.t) (by rfl))))
        pss_nil)
      (pss_cons (ps_set (i := 4) sc_Ring___init__.nd rfl (.inl rfl) (pe_call G_outside (hr.mono (by omega)) (by rfl) T.outside.g T.outside.F.kp T.outside.b .nil pass0 (pa_cons (pv 1) (pa_cons (pv 3) pa_nil))))
      (pss_cons (ps_if (pt_cmpR op_notN (pv 4) pe_non (nomark _))
        (pss_one (ps_raise rfl (takes_of rfl rfl rfl rfl) (pmk_oex Z.NotWhole.o Z.NotWhole.i Z.NotWhole.t G_NotWhole (hr.mono (by omega)) Z.NotWhole.b .nil pass0 (by rfl) Z.NotWhole.g (pa_cons (pe_ix (r := rIxT K) ix_tup (pv 4) pe_int (fun _ _ => rfl)) (pa_cons (pe_ix (r := rIxT K) ix_tup (pv 4) pe_int (fun _ _ => rfl)) pa_nil)))))
        pss_nil)
      (pss_cons (ps_fld (pv 0) (pv 1) rfl)
      (pss_cons (ps_fld (pv 0) (pe_op op_sub (pe_callB call_len_seq (by rfl) T.n_len (by decide +kernel) (pa_cons (pv 1) pa_nil)) pe_int) rfl)
      (pss_one (ps_fld (pv 0) (pv 3) rfl)))))))))), ?_⟩
    rw [show L2.start N_Ring___init__ [V.ref r, .ref p] = [some (.ref r), some (.ref p), none, none, none] from rfl]
    try dsimp only [cxOf]
    walk_at "rr"
    refine ⟨p, ns, rfl, hx, hp, fun v H1 e1 r1 => ?_⟩
    walk_at "rr"
    rcases r1 with ⟨rfl, hred⟩ | ⟨⟨q, x, y, rfl, hq, _, _⟩, hred⟩
    · refine ⟨rfl, ?_⟩
      walk_at "rr"
      refine iteF ?_
      walk_at "rr"
      refine ⟨p, ns, rfl, ex_t e1 hx, hp, fun v H2 e2 r2 => ?_⟩
      subst r2
      have e12 := e1.trans e2
      walk_at "rr"
      refine ⟨_, rfl, ?_⟩
      have babs : (if measM ns < 0 then -measM ns else measM ns) > 39999 ↔ (measM ns > 39999 ∨ measM ns < -39999) := by split <;> omega
      walk_at "rr"
      refine w_ite (fun hbig => ?_) (fun hsmall => ?_)
      · exact k2 hred (babs.mp hbig) _ e12
      · have hsm : ¬ (measM ns > 39999 ∨ measM ns < -39999) := fun z => hsmall (babs.mpr z)
        walk_at "rr"
        refine ⟨p, ns, measM ns, rfl, ex_t e12 hx, hp, fun v H3 e3 r3 => ?_⟩
        have e13 := e12.trans e3
        walk_at "rr"
        rcases r3 with ⟨rfl, hno⟩ | ⟨m, g, hm, hmn, hlk, q, x, y, rfl, hq, rfl, hy⟩
        · refine ⟨rfl, ?_⟩
          walk_at "rr"
          refine iteF ?_
          walk_at "rr"
          unfold sFld
          walk_at "rr"
          refine ⟨r, Z.C, dx, [], rfl, e13 _ _ hr0, Z.cl, Z.n1, by show 0 < 1000; decide, ?_⟩
          walk_at "rr"
          refine ⟨p, _, rfl, .inr (sqt_upd (ex_t e13 hx) (e13 _ _ hr0)), ?_⟩
          rw [List.length_map]
          walk_at "rr"
          refine ⟨r, Z.C, dx, _, rfl, upd_same, Z.cl, Z.n2, by show 1 < 1000; decide, ?_⟩
          walk_at "rr"
          refine ⟨r, Z.C, dx, _, rfl, upd_same, Z.cl, Z.n3, ?_, ?_⟩
          · exact Nat.lt_of_le_of_lt (putF_len _ _ _) (Nat.lt_of_le_of_lt (Nat.succ_le_succ (putF_len _ _ _)) (by show 2 < 1000; decide))
          · refine k4 hred hsm hno _ (fun b o hb h => ?_) upd_same
            rw [upd_ne hb, upd_ne hb, upd_ne hb]
            exact e13 _ _ h
        · refine ⟨rfl, ?_⟩
          walk_at "rr"
          refine iteT ?_
          unfold tMkO
          walk_at "rr"
          refine w_ixT hq (atI_nat (j := 0) rfl) ?_
          walk_at "rr"
          refine w_ixT hq (atI_nat (j := 1) rfl) ?_
          walk_at "rr"
          refine ⟨by show 2 ≤ 1000; decide, fun a ha => ⟨a, .int m, y, rfl, upd_same, fun H4 d hd h1 h2 h3 => ⟨rfl, d, _, h1, h2, none_of_upd hd, ?_⟩⟩⟩
          have em := ex_made (o := .xd [("number", y), ("prime", .int m)]) ha (none_of_upd hd) h3
          exact k3 hred hsm d _ _ m g y (e13.trans em) upd_same look_prime look_number hm hmn hlk (hy.ex em)
    · refine ⟨rfl, ?_⟩
      walk_at "rr"
      refine iteT ?_
      have q0 : True := trivial
      unfold tMkO
      walk_at "rr"
      refine w_ixT (hq) (atI_nat (j := 0) rfl) ?_
      walk_at "rr"
      refine w_ixT (hq) (atI_nat (j := 1) rfl) ?_
      walk_at "rr"
      refine ⟨by show 2 ≤ 1000; decide, fun a ha => ⟨a, x, y, rfl, upd_same, fun H4 d hd h1 h2 h3 => ⟨rfl, d, _, h1, h2, none_of_upd hd, ?_⟩⟩⟩
      exact k1 hred _ _ (e1.trans (ex_made ha (none_of_upd hd) h3))
end
end RH

set_option Elab.async false
set_option linter.all false
set_option maxRecDepth 100000
set_option maxHeartbeats 4000000
namespace RH
open PySem PySem.Spec PyProof.Rows L2 Evl
/-! ### the law's try -/
inductive Out (K : PySem.W.Frag) (C : Addr) (p : Addr) (ns : List Int) (H : Hp) (tv rv : V) : Int → Prop
  | one (h : Red ns) : Out K C p ns H tv rv 1
  | two (h : ¬ Red ns) (b : measM ns > 39999 ∨ measM ns < -39999) : Out K C p ns H tv rv 2
  | three (h : ¬ Red ns) (b : ¬ (measM ns > 39999 ∨ measM ns < -39999)) (m : Int) (g : List Int) (q px : Addr) (e : tv = .ref q) (s : SqT K H q [.int m, .ref px]) (sx : SqT K H px ((xM m ns g).map V.int)) (hm : m ∈ primes) (hmm : m * m ∣ measM ns) (hl : Lk m ns g) : Out K C p ns H tv rv 3
  | four (h : ¬ Red ns) (b : ¬ (measM ns > 39999 ∨ measM ns < -39999)) (l : ¬ Lacks ns (measM ns)) (r dx : Addr) (e : rv = .ref r) (s : H r = some (.ins C dx (ringF p (ns.length - 1) (measM ns)))) : Out K C p ns H tv rv 4
def sp__law_outcome (K : PySem.W.Frag) (C : Addr) : Sp := fun vs H Q _ => ∃ (p : Addr) (ns : List Int), vs = [.ref p] ∧ SqT K H p (ns.map V.int) ∧ IsPoly ns ∧ Ret H Q fun H' v => ∃ (t : Addr) (kv : Int) (tv rv : V), v = .ref t ∧ SqT K H' t [.int kv, tv, rv] ∧ Out K C p ns H' tv rv kv
/-- the heap where a ring is about to be made -/
theorem ex_inst {H : Hp} {x dx C : Addr} (hx : H x = none) (hd : H dx = none) : Ex H (upd (upd H dx (.own x)) x (.ins C dx [])) := fun b o h => by
  have h1 : b ≠ x := fun z => by rw [z, hx] at h; cases h
  have h2 : b ≠ dx := fun z => by rw [z, hd] at h; cases h
  rw [upd_ne h1, upd_ne h2]
  exact h
section
local macro_rules | `(tactic| walk_at "rs") => `(tactic| first
  | with_reducible refine w_seq ?_
  | with_reducible refine w_asg ?_
  | ((with_reducible refine' w_var ?h ?_); (case h => exact rfl))
  | with_reducible refine w_c ?_
  | with_reducible refine w_op ?_
  | with_reducible refine w_I0 ?_
  | with_reducible refine w_cb ?_
  | with_reducible refine w_cons ?_
  | with_reducible refine w_nil ?_
  | with_reducible refine w_ret ?_
  | with_reducible refine w_call ?_
  | with_reducible refine w_if ?_
  | with_reducible refine w_test ?_
  | with_reducible refine w_exbl ?_
  | with_reducible refine w_eqI ?_
  | with_reducible refine w_neI ?_
  | with_reducible refine w_next ?_
  | with_reducible refine w_un ?_
  | with_reducible refine w_U ?_
  | with_reducible refine w_B ?_
  | with_reducible refine w_and ?_
  | with_reducible refine w_or ?_
  | with_reducible refine w_not ?_
  | with_reducible refine w_andV ?_
  | with_reducible refine w_notV ?_
  | with_reducible refine w_tup ?_
  | with_reducible refine w_lst ?_
  | with_reducible refine w_for ?_
  | with_reducible refine w_rng1 ?_
  | with_reducible refine w_rng2 ?_
  | with_reducible refine w_rng3 ?_
  | with_reducible refine w_iList ?_
  | with_reducible refine w_iTup ?_
  | with_reducible refine w_iRevA ?_
  | with_reducible refine w_lc ?_
  | with_reducible refine w_drop ?_
  | with_reducible refine w_par ?_
  | ((with_reducible refine' w_aug ?h ?_); (case h => exact rfl))
  | with_reducible refine w_sl ?_
  | with_reducible refine w_noPart ?_
  | with_reducible refine w_part ?_
  | with_reducible refine w_exint ?_
  | with_reducible refine w_revL ?_
  | with_reducible refine w_bm ?_
  | with_reducible refine w_augS ?_
  | with_reducible refine w_ip ?_
  | with_reducible refine w_gSub ?_
  | with_reducible refine w_gName ?_
  | with_reducible refine w_gCons ?_
  | with_reducible refine w_gNil ?_
  | with_reducible refine w_chain ?_
  | with_reducible refine w_asgG ?_)
local macro_rules | `(tactic| walk_at "rr") => `(tactic| repeat walk_at "rs")
local macro_rules | `(tactic| walk_at "rn1") => `(tactic| first
  | with_reducible refine w_seq ?_
  | with_reducible refine w_asg ?_
  | ((with_reducible refine' w_var ?h ?_); (case h => exact rfl))
  | with_reducible refine w_c ?_
  | with_reducible refine w_op ?_
  | with_reducible refine w_I0 ?_
  | with_reducible refine w_cb ?_
  | with_reducible refine w_cons ?_
  | with_reducible refine w_nil ?_
  | with_reducible refine w_ret ?_
  | with_reducible refine w_call ?_
  | with_reducible refine w_if ?_
  | with_reducible refine w_test ?_
  | with_reducible refine w_exbl ?_
  | with_reducible refine w_eqI ?_
  | with_reducible refine w_neI ?_
  | with_reducible refine w_next ?_
  | with_reducible refine w_un ?_
  | with_reducible refine w_U ?_
  | with_reducible refine w_B ?_
  | with_reducible refine w_and ?_
  | with_reducible refine w_or ?_
  | with_reducible refine w_not ?_
  | with_reducible refine w_andV ?_
  | with_reducible refine w_notV ?_
  | with_reducible refine w_lst ?_
  | with_reducible refine w_for ?_
  | with_reducible refine w_rng1 ?_
  | with_reducible refine w_rng2 ?_
  | with_reducible refine w_rng3 ?_
  | with_reducible refine w_iList ?_
  | with_reducible refine w_iTup ?_
  | with_reducible refine w_iRevA ?_
  | with_reducible refine w_lc ?_
  | with_reducible refine w_drop ?_
  | with_reducible refine w_par ?_
  | ((with_reducible refine' w_aug ?h ?_); (case h => exact rfl))
  | with_reducible refine w_sl ?_
  | with_reducible refine w_noPart ?_
  | with_reducible refine w_part ?_
  | with_reducible refine w_exint ?_
  | with_reducible refine w_revL ?_
  | with_reducible refine w_bm ?_
  | with_reducible refine w_augS ?_
  | with_reducible refine w_ip ?_
  | with_reducible refine w_gSub ?_
  | with_reducible refine w_gName ?_
  | with_reducible refine w_gCons ?_
  | with_reducible refine w_gNil ?_
  | with_reducible refine w_chain ?_
  | with_reducible refine w_asgG ?_)
local macro_rules | `(tactic| walk_at "rn") => `(tactic| repeat walk_at "rn1")

variable {P : Program} {w : World} {K : PySem.W.Frag} {mg : Str → Option Value} {base : Heap}
theorem ok__law_outcome (T : Txt K mg) (Z : Zxt K mg) (G_Ring : FnOk P w K mg base (L2.CX P w) 7 Z.f Z.fd ["self", "poly"] (sp_Ring K mg Z)) :
    FnOk P w K mg base CX0 9 T._law_outcome.f T._law_outcome.fd ["_law_poly"] (sp__law_outcome K Z.C) := by
  refine T._law_outcome.F.ok sc__law_outcome (fun vs H Q E h => ?_) (fun cdv A outer st H vs Q E hr h => ?_)
  · obtain ⟨p, ns, rfl, _⟩ := h
    rfl
  · obtain ⟨p, ns, rfl, hx, hp, k⟩ := h
    have nd := sc__law_outcome.nd
    refine ⟨_, pss_cons (ps_set (i := 1) nd rfl (.inl rfl) pe_int) (pss_cons (ps_set (i := 2) nd rfl (.inl rfl) (pe_tup pa_nil)) (pss_cons (ps_set (i := 3) nd rfl (.inl rfl) pe_non)
      (pss_cons (ps_try_clauses (tb := fun W => tSeq (tAsg (tMakeS Z.C (sp_Ring K mg Z) (WE W) (tCons (tVar 0) tNil)) (gName 3)) (tAsg (tC (.int 4)) (gName 1))) (Wout := fun _ _ _ _ => False) rfl rfl nd takes0
        (fun W pn xe tk _ => pss_cons (ps_set (i := 3) nd rfl (.inl rfl) (pe_makeS Z.M G_Ring (hr.mono (by omega)) (by rfl) Z.g Z.b (fun σ => passAt tk σ) (pa_cons (pv 0) pa_nil))) (pss_one (ps_set (i := 1) nd rfl (.inl rfl) pe_int)))
        (.plain ⟨rfl, by decide, .inl Z.FallsApart.g⟩ (fun a oe cls d pn hz hf => pss_one (ps_set (i := 1) nd rfl (.inl rfl) pe_int))
        (.plain ⟨rfl, by decide, .inl Z.TooGreat.g⟩ (fun a oe cls d pn hz hf => pss_one (ps_set (i := 1) nd rfl (.inl rfl) pe_int))
        (.named (i := 4) ⟨rfl, by decide, .inl Z.NotWhole.g⟩ rfl rfl (fun a oe cls d pn hz hf => pss_cons (ps_set (i := 1) nd rfl (.inl rfl) pe_int)
          (pss_one (ps_set (i := 2) nd rfl (.inl rfl) (pe_tup (pa_cons (pe_xf Z.xNW Z.NotWhole.n1 hz hf (pv 4)) (pa_cons (pe_xf Z.xNW Z.NotWhole.n2 hz hf (pv 4)) pa_nil))))))
        (.plain ⟨rfl, by decide, .inl Z.gRE⟩ (fun a oe cls d pn hz hf => pss_one (ps_set (i := 1) nd rfl (.inl rfl) pe_int)) .nil)))))
      (pss_one (ps_ret (pe_tup (pa_cons (pv 1) (pa_cons (pv 2) (pa_cons (pv 3) pa_nil))))))))), ?_⟩
    rw [show L2.start N__law_outcome [V.ref p] = [some (.ref p), none, none, none, none] from rfl]
    try dsimp only [cxOf]
    walk_at "rr"
    refine ⟨Nat.zero_le _, fun q0 n0 => ?_⟩
    have e0 : Ex H (upd H q0 (.tup [])) := Ex.new n0
    generalize upd H q0 (.tup []) = H0 at e0
    walk_at "rr"
    unfold tMakeS
    walk_at "rr"
    have fin : ∀ (H' : Hp) (kv : Int) (tv rv : V) (pp : Addr), Ex H H' → H' pp = none → Out K Z.C p ns H' tv rv kv → Q (.ref pp) (upd H' pp (.tup [.int kv, tv, rv])) := fun H' kv tv rv pp e npp o => by
      have en : Ex H' (upd H' pp (.tup [.int kv, tv, rv])) := Ex.new npp
      refine k _ _ (e.trans en) ⟨pp, kv, tv, rv, rfl, .inl (.inl upd_same), ?_⟩
      cases o with
      | one h => exact .one h
      | two h b => exact .two h b
      | three h b m g q px e s sx hm hmm hl => exact .three h b m g q px e (ex_t en s) (ex_t en sx) hm hmm hl
      | four h b l r dx e s => exact .four h b l r dx e (en _ _ s)
    intro x dx hx0 hd0 hne
    have ei := ex_inst (C := Z.C) hx0 hd0
    refine ⟨x, dx, p, ns, rfl, upd_same, ex_t (e0.trans ei) hx, hp, fun hred d H' e => ?_, fun hred hb H' e => ?_, fun hred hb d H' fs m g y e hd hl1 hl2 hm hmm hlk hy => ?_, fun hred hb hl H' hk hr' => ?_⟩
    · refine ⟨true, Z.x11, fun _ a na => ?_, fun z => by cases z⟩
      walk_at "rr"
      refine ⟨by show 3 ≤ sizeLine; decide, fun pp npp => ?_⟩
      exact fin _ _ _ _ _ (e0.trans (ei.trans e)) npp (.one hred)
    · refine ⟨false, Z.x21, (fun z => by cases z), fun _ => ⟨true, Z.x22, fun _ a na => ?_, fun z => by cases z⟩⟩
      walk_at "rr"
      refine ⟨by show 3 ≤ sizeLine; decide, fun pp npp => ?_⟩
      exact fin _ _ _ _ _ (e0.trans (ei.trans e)) npp (.two hred hb)
    · refine ⟨false, Z.x31, (fun z => by cases z), fun _ => ⟨false, Z.x32, (fun z => by cases z), fun _ => ⟨true, Z.x33, fun _ a na => ?_, fun z => by cases z⟩⟩⟩
      obtain ⟨px, rfl, hpx⟩ := hy
      refine w_seq ?_
      refine w_asg ?_
      refine w_c ?_
      refine w_asg ?_
      refine w_tup ?_
      refine w_cons ?_
      unfold tXf
      refine ⟨_, rfl, rfl, rfl, d, fs, _, rfl, hd, hl1, ?_⟩
      refine w_cons ?_
      refine ⟨_, rfl, rfl, rfl, d, fs, _, rfl, hd, hl2, ?_⟩
      refine w_nil ?_
      refine ⟨by show 2 ≤ sizeLine; decide, fun q1 n1 => ?_⟩
      have e1 : Ex H' (upd H' q1 (.tup [.int m, .ref px])) := Ex.new n1
      have s1 : SqT K (upd H' q1 (.tup [.int m, .ref px])) q1 [.int m, .ref px] := .inl (.inl upd_same)
      generalize upd H' q1 (.tup [.int m, .ref px]) = H1 at e1 s1
      dsimp only
      walk_at "rr"
      refine ⟨by show 3 ≤ sizeLine; decide, fun pp npp => ?_⟩
      exact fin _ _ _ _ _ (e0.trans (ei.trans (e.trans e1))) npp (.three hred hb m g q1 px rfl s1 (ex_t e1 hpx) hm hmm hlk)
    · refine ⟨rfl, ?_⟩
      walk_at "rr"
      have e : Ex H0 H' := fun b o h => by
        have : b ≠ x := fun z => by rw [z, hx0] at h; cases h
        exact hk b o this (ei _ _ h)
      refine ⟨by show 3 ≤ sizeLine; decide, fun pp npp => ?_⟩
      exact fin _ _ _ _ _ (e0.trans e) npp (.four hred hb hl x dx rfl hr')
end
end RH

set_option Elab.async false
set_option linter.all false
set_option maxRecDepth 100000
set_option maxHeartbeats 4000000
namespace RH
open PySem PySem.Spec PyProof.Rows L2 Evl
/-- the mathematics that joins the two sides -/
structure Maths : Prop where
  meas : ∀ ns, IsPoly ns → measM ns = closedM ns
  red : ∀ b s, DrawnP b s → (Red (shift s b) ↔ Red b)
  lacks : ∀ ns n, IsPoly ns → (Lacks ns n ↔ LLacks ns n)
  shown : ∀ ns m g, IsPoly ns → m ∈ primes → Lk m ns g → ShownOk ns m (xM m ns g)
def Due (b ns : List Int) (due : Int) : Prop := (Red b ∧ due = 1) ∨ (¬ Red b ∧ (closedM ns > 39999 ∨ closedM ns < -39999) ∧ due = 2) ∨ (¬ Red b ∧ ¬ (closedM ns > 39999 ∨ closedM ns < -39999) ∧ LLacks ns (closedM ns) ∧ due = 3) ∨
  (¬ Red b ∧ ¬ (closedM ns > 39999 ∨ closedM ns < -39999) ∧ ¬ LLacks ns (closedM ns) ∧ due = 4)
theorem dp_ints {K : PySem.W.Frag} {H : Hp} : ∀ ns : List Int, DpAll K H (ns.map V.int) (ns.map PyData.int)
  | [] => .nil
  | n :: ns => .cons (.int n) (dp_ints ns)
theorem dp_same {ns : List Int} (h : IsPoly ns) : SeqAt.shaped (.tuple (ns.map PyData.int)) = true ∧ PyData.eqv (.tuple (ns.map PyData.int)) (.tuple (ns.map PyData.int)) = true := by
  have hl := h.len
  have : ns.length = 3 ∨ ns.length = 4 ∨ ns.length = 5 := by omega
  rcases this with e | e | e
  · obtain ⟨c0, c1, rfl⟩ := h.three e
    exact ⟨rfl, by simp [PyData.eqv, PyData.eqvAll]⟩
  · obtain ⟨c0, c1, c2, rfl⟩ := h.four e
    exact ⟨rfl, by simp [PyData.eqv, PyData.eqvAll]⟩
  · obtain ⟨c0, c1, c2, c3, rfl⟩ := h.five e
    exact ⟨rfl, by simp [PyData.eqv, PyData.eqvAll]⟩
theorem ring_poly (p : Addr) (d n : Int) : (ringF p d n).lookup ("poly" : Str) = some (.ref p) := by
  unfold ringF
  rw [lookup_putF, if_neg (by decide +kernel), lookup_putF, if_neg (by decide +kernel), lookup_putF, if_pos rfl]
theorem ring_degree (p : Addr) (d n : Int) : (ringF p d n).lookup ("degree" : Str) = some (.int d) := by
  unfold ringF
  rw [lookup_putF, if_neg (by decide +kernel), lookup_putF, if_pos rfl]
theorem ring_measure (p : Addr) (d n : Int) : (ringF p d n).lookup ("measure" : Str) = some (.int n) := by
  unfold ringF
  rw [lookup_putF, if_pos rfl]
section
local macro_rules | `(tactic| walk_at "rs") => `(tactic| first
  | with_reducible refine w_seq ?_
  | with_reducible refine w_asg ?_
  | ((with_reducible refine' w_var ?h ?_); (case h => exact rfl))
  | with_reducible refine w_c ?_
  | with_reducible refine w_op ?_
  | with_reducible refine w_I0 ?_
  | with_reducible refine w_cb ?_
  | with_reducible refine w_cons ?_
  | with_reducible refine w_nil ?_
  | with_reducible refine w_ret ?_
  | with_reducible refine w_call ?_
  | with_reducible refine w_if ?_
  | with_reducible refine w_test ?_
  | with_reducible refine w_exbl ?_
  | with_reducible refine w_eqI ?_
  | with_reducible refine w_neI ?_
  | with_reducible refine w_next ?_
  | with_reducible refine w_un ?_
  | with_reducible refine w_U ?_
  | with_reducible refine w_B ?_
  | with_reducible refine w_and ?_
  | with_reducible refine w_or ?_
  | with_reducible refine w_not ?_
  | with_reducible refine w_andV ?_
  | with_reducible refine w_notV ?_
  | with_reducible refine w_tup ?_
  | with_reducible refine w_lst ?_
  | with_reducible refine w_for ?_
  | with_reducible refine w_rng1 ?_
  | with_reducible refine w_rng2 ?_
  | with_reducible refine w_rng3 ?_
  | with_reducible refine w_iList ?_
  | with_reducible refine w_iTup ?_
  | with_reducible refine w_iRevA ?_
  | with_reducible refine w_lc ?_
  | with_reducible refine w_drop ?_
  | with_reducible refine w_par ?_
  | ((with_reducible refine' w_aug ?h ?_); (case h => exact rfl))
  | with_reducible refine w_sl ?_
  | with_reducible refine w_noPart ?_
  | with_reducible refine w_part ?_
  | with_reducible refine w_exint ?_
  | with_reducible refine w_revL ?_
  | with_reducible refine w_bm ?_
  | with_reducible refine w_augS ?_
  | with_reducible refine w_ip ?_
  | with_reducible refine w_gSub ?_
  | with_reducible refine w_gName ?_
  | with_reducible refine w_gCons ?_
  | with_reducible refine w_gNil ?_
  | with_reducible refine w_chain ?_
  | with_reducible refine w_asgG ?_)
local macro_rules | `(tactic| walk_at "rr") => `(tactic| repeat walk_at "rs")
local macro_rules | `(tactic| walk_at "rn1") => `(tactic| first
  | with_reducible refine w_seq ?_
  | with_reducible refine w_asg ?_
  | ((with_reducible refine' w_var ?h ?_); (case h => exact rfl))
  | with_reducible refine w_c ?_
  | with_reducible refine w_op ?_
  | with_reducible refine w_I0 ?_
  | with_reducible refine w_cb ?_
  | with_reducible refine w_cons ?_
  | with_reducible refine w_nil ?_
  | with_reducible refine w_ret ?_
  | with_reducible refine w_call ?_
  | with_reducible refine w_if ?_
  | with_reducible refine w_test ?_
  | with_reducible refine w_exbl ?_
  | with_reducible refine w_eqI ?_
  | with_reducible refine w_neI ?_
  | with_reducible refine w_next ?_
  | with_reducible refine w_un ?_
  | with_reducible refine w_U ?_
  | with_reducible refine w_B ?_
  | with_reducible refine w_and ?_
  | with_reducible refine w_or ?_
  | with_reducible refine w_not ?_
  | with_reducible refine w_andV ?_
  | with_reducible refine w_notV ?_
  | with_reducible refine w_lst ?_
  | with_reducible refine w_for ?_
  | with_reducible refine w_rng1 ?_
  | with_reducible refine w_rng2 ?_
  | with_reducible refine w_rng3 ?_
  | with_reducible refine w_iList ?_
  | with_reducible refine w_iTup ?_
  | with_reducible refine w_iRevA ?_
  | with_reducible refine w_lc ?_
  | with_reducible refine w_drop ?_
  | with_reducible refine w_par ?_
  | ((with_reducible refine' w_aug ?h ?_); (case h => exact rfl))
  | with_reducible refine w_sl ?_
  | with_reducible refine w_noPart ?_
  | with_reducible refine w_part ?_
  | with_reducible refine w_exint ?_
  | with_reducible refine w_revL ?_
  | with_reducible refine w_bm ?_
  | with_reducible refine w_augS ?_
  | with_reducible refine w_ip ?_
  | with_reducible refine w_gSub ?_
  | with_reducible refine w_gName ?_
  | with_reducible refine w_gCons ?_
  | with_reducible refine w_gNil ?_
  | with_reducible refine w_chain ?_
  | with_reducible refine w_asgG ?_)
local macro_rules | `(tactic| walk_at "rn") => `(tactic| repeat walk_at "rn1")

variable {P : Program} {w : World} {K : PySem.W.Frag} {mg : Str → Option Value} {base : Heap}
def sp_law (K : PySem.W.Frag) : Sp := fun vs H Q _ => ∃ (a : Addr) (ns : List Int), vs = [.ref a] ∧ SqL K H a (ns.map V.int) ∧ ns.length ≤ 63 ∧ ∀ H', Q (.bl true) H'
theorem ok_law (MM : Maths) (T : Txt K mg) (Z : Zxt K mg)
    (G__law_cell : FnOk P w K mg base CX0 1 T._law_cell.f T._law_cell.fd ["_law_script", "_law_k"] (sp__law_cell K))
    (G__law_drawn : FnOk P w K mg base CX0 3 T._law_drawn.f T._law_drawn.fd ["_law_cell_here"] (sp__law_drawn K))
    (G__law_shifted : FnOk P w K mg base CX0 1 T._law_shifted.f T._law_shifted.fd ["_law_poly", "_law_s"] (sp__law_shifted K))
    (G__law_closed : FnOk P w K mg base CX0 1 T._law_closed.f T._law_closed.fd ["_law_poly"] (sp__law_closed K))
    (G__law_outcome : FnOk P w K mg base CX0 9 T._law_outcome.f T._law_outcome.fd ["_law_poly"] (sp__law_outcome K Z.C))
    (G__law_falls : FnOk P w K mg base CX0 2 T._law_falls.f T._law_falls.fd ["_law_poly"] (sp__law_falls K))
    (G__law_lacks : FnOk P w K mg base CX0 2 T._law_lacks.f T._law_lacks.fd ["_law_poly", "_law_amount"] (sp__law_lacks K))
    (G__law_shown : FnOk P w K mg base CX0 7 T._law_shown.f T._law_shown.fd ["_law_poly", "_law_told"] (sp__law_shown K))
    (G__law_row : FnOk P w K mg base CX0 2 T._law_row.f T._law_row.fd ["_law_found", "_law_many"] (sp__law_row K))
    (G__law_whole : FnOk P w K mg base CX0 1 T._law_whole.f T._law_whole.fd ["_law_found"] sp__law_whole) :
    FnOk P w K mg base CX0 10 T.law.f T.law.fd ["_law_script"] (sp_law K) := by
  refine T.law.F.ok sc_law (fun vs H Q E h => ?_) (fun cdv A outer st H vs Q E hr h => ?_)
  · obtain ⟨a, ns, rfl, _⟩ := h
    rfl
  · obtain ⟨a, script, rfl, ha, hl63, k⟩ := h
    refine ⟨_, (pss_cons (ps_for PassesOwn.never rfl (pi_range1 (by rfl) T.n_range (pa_cons pe_int pa_nil)) (pg_name (i := 1) sc_law.nd rfl (.inl rfl))
        (pss_cons (ps_asg (pe_call G__law_drawn (hr.mono (by omega)) (by rfl) T._law_drawn.g T._law_drawn.F.kp T._law_drawn.b .nil pass0 (pa_cons (pe_call G__law_cell (hr.mono (by omega)) (by rfl) T._law_cell.g T._law_cell.F.kp T._law_cell.b .nil pass0 (pa_cons (pv 0) (pa_cons (pv 1) pa_nil))) pa_nil)) (pg_tup (by rfl) (pgs_cons (pg_name (i := 2) sc_law.nd rfl (.inl rfl)) (pgs_cons (pg_name (i := 3) sc_law.nd rfl (.inl rfl)) pgs_nil))))
          (pss_cons (ps_set (i := 4) sc_law.nd rfl (.inl rfl) (pe_call G__law_shifted (hr.mono (by omega)) (by rfl) T._law_shifted.g T._law_shifted.F.kp T._law_shifted.b .nil pass0 (pa_cons (pv 2) (pa_cons (pv 3) pa_nil))))
          (pss_cons (ps_set (i := 5) sc_law.nd rfl (.inl rfl) (pe_call G__law_closed (hr.mono (by omega)) (by rfl) T._law_closed.g T._law_closed.F.kp T._law_closed.b .nil pass0 (pa_cons (pv 4) pa_nil)))
          (pss_cons (ps_asg (pe_call G__law_outcome (hr.mono (by omega)) (by rfl) T._law_outcome.g T._law_outcome.F.kp T._law_outcome.b .nil pass0 (pa_cons (pv 4) pa_nil)) (pg_tup (by rfl) (pgs_cons (pg_name (i := 6) sc_law.nd rfl (.inl rfl)) (pgs_cons (pg_name (i := 7) sc_law.nd rfl (.inl rfl)) (pgs_cons (pg_name (i := 8) sc_law.nd rfl (.inl rfl)) pgs_nil)))))
          (pss_cons (ps_if (pt_val (pe_call G__law_falls (hr.mono (by omega)) (by rfl) T._law_falls.g T._law_falls.F.kp T._law_falls.b .nil pass0 (pa_cons (pv 2) pa_nil)))
            (pss_one (ps_set (i := 9) sc_law.nd rfl (.inl rfl) pe_int))
            (pss_one (ps_if (pt_cmpR op_gt (pe_callB call_abs (by rfl) T.n_abs (by decide +kernel) (pa_cons (pv 5) pa_nil)) pe_int (nomark _))
                (pss_one (ps_set (i := 9) sc_law.nd rfl (.inl rfl) pe_int))
                (pss_one (ps_set (i := 9) sc_law.nd rfl (.inl rfl) (pe_op op_sub pe_int (pe_callTy call_int1 (by rfl) T.n_int (by decide +kernel) (pa_cons (pe_call G__law_lacks (hr.mono (by omega)) (by rfl) T._law_lacks.g T._law_lacks.F.kp T._law_lacks.b .nil pass0 (pa_cons (pv 4) (pa_cons (pv 5) pa_nil))) pa_nil))))))))
          (pss_cons (ps_if (pt_cmpR op_ne (pv 6) (pv 9) (nomark _))
            (pss_one (ps_ret pe_bl))
            pss_nil)
          (pss_cons (ps_if (PW.pt (pw_and (pt_cmpR op_eq (pv 6) pe_int (nomark _)) (pw_and1 (pt_not (pt_val (pe_call G__law_shown (hr.mono (by omega)) (by rfl) T._law_shown.g T._law_shown.F.kp T._law_shown.b .nil pass0 (pa_cons (pv 4) (pa_cons (pv 7) pa_nil))))))))
            (pss_one (ps_ret pe_bl))
            pss_nil)
          (pss_one (ps_if (pt_cmpR op_eq (pv 6) pe_int (nomark _))
            (pss_cons (ps_if (PW.pt (pw_or (pt_not (pt_val (pe_call G__law_row (hr.mono (by omega)) (by rfl) T._law_row.g T._law_row.F.kp T._law_row.b .nil pass0 (pa_cons (pe_fld (pv 8) rfl) (pa_cons (pe_callB call_len_seq (by rfl) T.n_len (by decide +kernel) (pa_cons (pv 4) pa_nil)) pa_nil))))) (pw_or (pt_cmpR (op_neD hr.units) (pe_fld (pv 8) rfl) (pv 4) (nomark _)) (pw_or1 (pt_not (pt_val (pe_call G__law_whole (hr.mono (by omega)) (by rfl) T._law_whole.g T._law_whole.F.kp T._law_whole.b .nil pass0 (pa_cons (pe_fld (pv 8) rfl) pa_nil))))))))
                (pss_one (ps_ret pe_bl))
                pss_nil)
              (pss_one (ps_if (PW.pt (pw_or (pt_cmpR op_ne (pe_fld (pv 8) rfl) (pe_op op_sub (pe_callB call_len_seq (by rfl) T.n_len (by decide +kernel) (pa_cons (pv 4) pa_nil)) pe_int) (nomark _)) (pw_or (pt_not (pt_val (pe_call G__law_whole (hr.mono (by omega)) (by rfl) T._law_whole.g T._law_whole.F.kp T._law_whole.b .nil pass0 (pa_cons (pe_fld (pv 8) rfl) pa_nil)))) (pw_or1 (pt_cmpR op_ne (pe_fld (pv 8) rfl) (pv 5) (nomark _))))))
                (pss_one (ps_ret pe_bl))
                pss_nil)))
            pss_nil))))))))))
      (pss_one (ps_ret pe_bl))), ?_⟩
    rw [show L2.start N_law [V.ref a] = [some (.ref a), none, none, none, none, none, none, none, none, none] from rfl]
    try dsimp only [cxOf]
    walk_at "rr"
    refine f_r1 (by decide) (by decide) (fun i σ' H' => ∃ y1 y2 y3 y4 y5 y6 y7 y8 y9, σ' = [some (.ref a), y1, y2, y3, y4, y5, y6, y7, y8, y9] ∧ Ex H H') ⟨none, none, none, none, none, none, none, none, none, rfl, Ex.refl H⟩ (fun i σ' H' hi hq => ?_) (fun σ' H' hq => ?_)
    · obtain ⟨y1, y2, y3, y4, y5, y6, y7, y8, y9, rfl, e⟩ := hq
      walk_at "rr"
      refine ⟨a, script, (i : Int), rfl, ex_l e ha, hl63, by omega, by omega, fun v H1 e1 r1 => ?_⟩
      obtain ⟨c, rfl⟩ := r1
      walk_at "rr"
      refine ⟨c, rfl, fun v H2 e2 r2 => ?_⟩
      obtain ⟨b, s, ⟨q, x, y, rfl, hq, ⟨pb, rfl, hpb⟩, rfl⟩, hd⟩ := r2
      walk_at "rr"
      refine w_gTup hq rfl ?_
      walk_at "rr"
      have hbl := hd.hb.len
      refine ⟨pb, b, s, rfl, hpb, hbl.1, hbl.2, hd.s0, hd.s1, fun v H3 e3 r3 => ?_⟩
      obtain ⟨p, rfl, hx⟩ := r3
      have hp := hd.hp
      have hred := MM.red b s hd
      generalize shift s b = ns at hx hp hred
      have hnl := hp.len
      have hmeas := MM.meas ns hp
      walk_at "rr"
      refine ⟨p, ns, rfl, hx, hp, fun v H4 e4 r4 => ?_⟩
      subst r4
      walk_at "rr"
      refine ⟨p, ns, rfl, ex_t e4 hx, hp, fun v H5 e5 r5 => ?_⟩
      obtain ⟨t, kv, tv, rv, rfl, ht, ho⟩ := r5
      walk_at "rr"
      refine w_gTup ht rfl ?_
      repeat (first | with_reducible refine w_gCons ?_ | with_reducible refine w_gName ?_ | with_reducible refine w_gNil ?_)
      refine w_seq ?_
      have e05 : Ex H H5 := e.trans (e1.trans (e2.trans (e3.trans (e4.trans e5))))
      have e35 : Ex H3 H5 := e4.trans e5
      have e25 : Ex H2 H5 := e3.trans e35
      refine w_cutA (fun σ' H' => ∃ due, σ' = [some (.ref a), some (.int (i : Int)), some (.ref pb), some (.int s), some (.ref p), some (.int (closedM ns)), some (.int kv), some tv, some rv, some (.int due)] ∧ Ex H5 H' ∧ Due b ns due) (fun A' hA => ?_) (fun σ' H6 hq6 => ?_)
      · walk_at "rr"
        refine ⟨pb, b, rfl, ex_t e25 hpb, hd.hb, fun v H6 e6 r6 => ?_⟩
        obtain ⟨z, rfl, hz⟩ := r6
        walk_at "rr"
        refine w_iteB (fun hzt => ?_) (fun hzf => ?_)
        · walk_at "rr"
          exact hA _ _ ⟨1, rfl, e6, .inl ⟨hz.mp hzt, rfl⟩⟩
        · have nr : ¬ Red b := fun h => by rw [hz.mpr h] at hzf; cases hzf
          walk_at "rr"
          refine ⟨_, rfl, ?_⟩
          have babs : (if closedM ns < 0 then -closedM ns else closedM ns) > 39999 ↔ (closedM ns > 39999 ∨ closedM ns < -39999) := by split <;> omega
          walk_at "rr"
          refine w_ite (fun hbig => ?_) (fun hsm => ?_)
          · walk_at "rr"
            exact hA _ _ ⟨2, rfl, e6, .inr (.inl ⟨nr, babs.mp hbig, rfl⟩)⟩
          · have ns' : ¬ (closedM ns > 39999 ∨ closedM ns < -39999) := fun h => hsm (babs.mpr h)
            walk_at "rr"
            refine ⟨p, ns, closedM ns, rfl, ex_t (e35.trans e6) hx, hp, fun v H7 e7 r7 => ?_⟩
            obtain ⟨z2, rfl, hz2⟩ := r7
            walk_at "rr"
            refine .inr ⟨z2, rfl, ?_⟩
            walk_at "rr"
            cases z2 with
            | true => exact hA _ _ ⟨3, rfl, e6.trans e7, .inr (.inr (.inl ⟨nr, ns', hz2.mp rfl, rfl⟩))⟩
            | false => exact hA _ _ ⟨4, rfl, e6.trans e7, .inr (.inr (.inr ⟨nr, ns', fun h => Bool.false_ne_true (hz2.mpr h), rfl⟩))⟩
      · obtain ⟨due, rfl, e6, hdue⟩ := hq6
        have e36 := e35.trans e6
        have hkd : kv = due := by
          have hlk := MM.lacks ns (measM ns) hp
          rw [hmeas] at hlk
          cases ho with
          | one h =>
            rcases hdue with ⟨_, r⟩ | ⟨n, _⟩ | ⟨n, _⟩ | ⟨n, _⟩
            · exact r.symm
            all_goals exact absurd (hred.mp h) n
          | two h bg =>
            rw [hmeas] at bg
            rcases hdue with ⟨n, _⟩ | ⟨_, _, r⟩ | ⟨_, n, _⟩ | ⟨_, n, _⟩
            · exact absurd (hred.mpr n) h
            · exact r.symm
            all_goals exact absurd bg n
          | three h bg m g q px e' s' sx hm hmm hl =>
            rw [hmeas] at bg hmm
            rcases hdue with ⟨n, _⟩ | ⟨_, n, _⟩ | ⟨_, _, _, r⟩ | ⟨_, _, n, _⟩
            · exact absurd (hred.mpr n) h
            · exact absurd n bg
            · exact r.symm
            · exact absurd (hlk.mp ⟨m, hm, hmm, g, hl⟩) n
          | four h bg l r' dx e' s' =>
            rw [hmeas] at bg l
            rcases hdue with ⟨n, _⟩ | ⟨_, n, _⟩ | ⟨_, _, n, _⟩ | ⟨_, _, _, r⟩
            · exact absurd (hred.mpr n) h
            · exact absurd n bg
            · exact absurd (hlk.mpr n) l
            · exact r.symm
        clear hdue
        subst hkd
        walk_at "rr"
        refine w_iteN (fun h => absurd rfl h) (fun _ => ?_)
        have onward : ∀ H', Ex H H' → ∃ y1 y2 y3 y4 y5 y6 y7 y8 y9, [some (V.ref a), some (.int (i : Int)), some (.ref pb), some (.int s), some (.ref p), some (.int (closedM ns)), some (.int kv), some tv, some rv, some (.int kv)] = [some (.ref a), y1, y2, y3, y4, y5, y6, y7, y8, y9] ∧ Ex H H' :=
          fun H' e => ⟨_, _, _, _, _, _, _, _, _, rfl, e⟩
        walk_at "rr"
        cases ho with
        | one h =>
          walk_at "rr"
          refine iteF ?_
          walk_at "rr"
          refine iteF ?_
          walk_at "rr"
          exact onward _ (e05.trans e6)
        | two h bg =>
          walk_at "rr"
          refine iteF ?_
          walk_at "rr"
          refine iteF ?_
          walk_at "rr"
          exact onward _ (e05.trans e6)
        | three h bg m g q px e' s' sx hm hmm hl =>
          subst e'
          walk_at "rr"
          refine iteT ?_
          walk_at "rr"
          refine ⟨p, q, px, ns, _, m, rfl, ex_t e36 hx, ex_t e6 s', ex_t e6 sx, hp, MM.shown ns m g hp hm hl, fun v H7 e7 r7 => ?_⟩
          subst r7
          walk_at "rr"
          refine iteF ?_
          walk_at "rr"
          refine iteF ?_
          walk_at "rr"
          exact onward _ (e05.trans (e6.trans e7))
        | four h bg l r' dx e' s' =>
          subst e'
          walk_at "rr"
          refine iteF ?_
          walk_at "rr"
          refine iteF ?_
          walk_at "rr"
          refine iteT ?_
          have hx6 := ex_t e36 hx
          have s6 := e6 _ _ s'
          rw [hmeas] at s6
          unfold tFld
          walk_at "rr"
          refine ⟨r', Z.C, dx, _, _, rfl, s6, Z.cl, Z.n1, ring_poly _ _ _, ?_⟩
          walk_at "rr"
          refine ⟨p, _, rfl, .inr hx6, ?_⟩
          rw [List.length_map]
          walk_at "rr"
          refine ⟨p, ns, _, rfl, hx6, rfl, by omega, fun v H7 e7 r7 => ?_⟩
          subst r7
          walk_at "rr"
          refine iteF ?_
          walk_at "rr"
          refine ⟨r', Z.C, dx, _, _, rfl, e7 _ _ s6, Z.cl, Z.n1, ring_poly _ _ _, ?_⟩
          walk_at "rr"
          have hx7 := ex_t e7 hx6
          have sh := dp_same hp
          refine ⟨_, _, .tup hx7 (dp_ints ns), .tup hx7 (dp_ints ns), sh.1, sh.1, ?_⟩
          rw [sh.2]
          walk_at "rr"
          refine iteF ?_
          walk_at "rr"
          refine ⟨r', Z.C, dx, _, _, rfl, e7 _ _ s6, Z.cl, Z.n2, ring_degree _ _ _, ?_⟩
          walk_at "rr"
          refine ⟨_, rfl, fun v H8 e8 r8 => ?_⟩
          subst r8
          have s8 := (e7.trans e8) _ _ s6
          have hx8 := ex_t e8 hx7
          walk_at "rr"
          refine iteF ?_
          walk_at "rr"
          refine ⟨r', Z.C, dx, _, _, rfl, s8, Z.cl, Z.n2, ring_degree _ _ _, ?_⟩
          walk_at "rr"
          refine ⟨p, _, rfl, .inr hx8, ?_⟩
          rw [List.length_map]
          walk_at "rr"
          refine w_iteN (fun h => absurd rfl h) (fun _ => ?_)
          walk_at "rr"
          refine ⟨r', Z.C, dx, _, _, rfl, s8, Z.cl, Z.n3, ring_measure _ _ _, ?_⟩
          walk_at "rr"
          refine ⟨_, rfl, fun v H9 e9 r9 => ?_⟩
          subst r9
          walk_at "rr"
          refine iteF ?_
          walk_at "rr"
          refine ⟨r', Z.C, dx, _, _, rfl, e9 _ _ s8, Z.cl, Z.n3, ring_measure _ _ _, ?_⟩
          walk_at "rr"
          refine w_iteN (fun h => absurd rfl h) (fun _ => ?_)
          walk_at "rr"
          exact onward _ (e05.trans (e6.trans (e7.trans (e8.trans e9))))
    · obtain ⟨_, _, _, _, _, _, _, _, _, rfl, e⟩ := hq
      walk_at "rr"
      exact k _
end
end RH

set_option Elab.async false
set_option linter.all false
set_option maxRecDepth 100000
set_option maxHeartbeats 4000000
namespace RH
open PySem PySem.Spec PyProof.Rows L2 Evl
/-! ### what the top has written -/
def DefIn (K : PySem.W.Frag) (x : Str) (st : Stmt) : Prop := ∃ (f : Addr) (oc : Value) (od : Option Addr) (kV doc pm : Value) (an : Option Addr) (cdv ct : Value) (osl : Array (Option Value)), PySem.W.nsIn K mainGlobals x = some (some (.ref f)) ∧
  K.lookup f = some ⟨oc, od, .func (PySem.W.fnOf x x (defArgs st) (defBody st) (defScope st) .none kV doc pm an cdv ct), osl⟩ ∧ PySem.W.codeIn K cdv x = true ∧ PySem.W.keepIn K (.ref f) = true
theorem defIn_mk {K : PySem.W.Frag} {x : Str} {st : Stmt} {f : Addr} {oc : Value} {od : Option Addr} {kV doc pm : Value} {an : Option Addr} {cdv ct : Value} {osl : Array (Option Value)} (a : PySem.W.nsIn K mainGlobals x = some (some (.ref f)))
    (l : K.lookup f = some ⟨oc, od, .func (PySem.W.fnOf x x (defArgs st) (defBody st) (defScope st) .none kV doc pm an cdv ct), osl⟩) (c : PySem.W.codeIn K cdv x = true) (k : PySem.W.keepIn K (.ref f) = true) : DefIn K x st := ⟨f, oc, od, kV, doc, pm, an, cdv, ct, osl, a, l, c, k⟩
theorem defAt_of {K : PySem.W.Frag} {mg : Str → Option Value} {h : Heap} {x : Str} {st : Stmt} {ps : List Str} (X : K.In h) (G : h.Ns mainGlobals mg) (d : DefIn K x st)
    (hb : ∀ (kV doc pm : Value) (an : Option Addr) (cdv ct : Value) (us : List Value), us.length = ps.length → bindArgs (PySem.W.fnOf x x (defArgs st) (defBody st) (defScope st) .none kV doc pm an cdv ct) ⟨us, []⟩ = pure (ps.zip us)) : Nonempty (DefAt K mg x st ps) := by
  obtain ⟨f, oc, od, kV, doc, pm, an, cdv, ct, osl, a, l, c, k⟩ := d
  have F := fun_mk (x := x) (qual := x) (st := st) l c k
  exact ⟨⟨f, _, F, F.binds hb, PySem.W.mg_of X G a⟩⟩
/-- the __init__ of a class -/
def InitIn (K : PySem.W.Frag) (q : Str) (st : Stmt) (f : Addr) : Prop := ∃ (oc : Value) (od : Option Addr) (kV doc pm : Value) (an : Option Addr) (cdv ct : Value) (osl : Array (Option Value)),
  K.lookup f = some ⟨oc, od, .func (PySem.W.fnOf "__init__" q (defArgs st) (defBody st) (defScope st) .none kV doc pm an cdv ct), osl⟩ ∧ PySem.W.codeIn K cdv q = true ∧ PySem.W.keepIn K (.ref f) = true
theorem initIn_mk {K : PySem.W.Frag} {q : Str} {st : Stmt} {f : Addr} {oc : Value} {od : Option Addr} {kV doc pm : Value} {an : Option Addr} {cdv ct : Value} {osl : Array (Option Value)}
    (l : K.lookup f = some ⟨oc, od, .func (PySem.W.fnOf "__init__" q (defArgs st) (defBody st) (defScope st) .none kV doc pm an cdv ct), osl⟩) (c : PySem.W.codeIn K cdv q = true) (k : PySem.W.keepIn K (.ref f) = true) : InitIn K q st f := ⟨oc, od, kV, doc, pm, an, cdv, ct, osl, l, c, k⟩
theorem initAt_of {K : PySem.W.Frag} {q : Str} {st : Stmt} {f : Addr} {ps : List Str} (d : InitIn K q st f)
    (hb : ∀ (kV doc pm : Value) (an : Option Addr) (cdv ct : Value) (us : List Value), us.length = ps.length → bindArgs (PySem.W.fnOf "__init__" q (defArgs st) (defBody st) (defScope st) .none kV doc pm an cdv ct) ⟨us, []⟩ = pure (ps.zip us)) :
    ∃ fd, Fun K "__init__" q st f fd ∧ Binds K fd ps [] := by
  obtain ⟨oc, od, kV, doc, pm, an, cdv, ct, osl, l, c, k⟩ := d
  have F := fun_mk (x := "__init__") (qual := q) (st := st) l c k
  exact ⟨_, F, F.binds hb⟩
/-- an error of the class at D and the clause that names the class at S -/
theorem exm_of {K : PySem.W.Frag} {D S : Addr} {b : Bool} (h1 : PySem.W.subIn K (.ref S) (.type "BaseException") = some true) (h2 : PySem.W.isClsIn K S = true) (h3 : PySem.W.typeIn K (.ref S) = some (.type "type")) (h4 : PySem.W.subIn K (.ref D) (.ref S) = some b) :
    PySem.W.exmOne K (.ref D) (.ref S) = some b := by
  have e1 : (PySem.W.subIn K (.ref S) (.type "BaseException") == some true) = true := by rw [h1] <;> rfl
  have e2 : ((PySem.W.clsIn K S).isSome && PySem.W.typeIn K (.ref S) == some (.type "type")) = true := by
    have h2' : (PySem.W.clsIn K S).isSome = true := h2
    rw [h2', h3] <;> rfl
  show (if (PySem.W.subIn K (.ref S) (.type "BaseException") == some true) = true then (if ((PySem.W.clsIn K S).isSome && PySem.W.typeIn K (.ref S) == some (.type "type")) = true then PySem.W.subIn K (.ref D) (.ref S) else none) else none) = some b
  rw [if_pos e1, if_pos e2]
  exact h4
/-- an own error with two fields, as the written part has it -/
structure ErrIn (K : PySem.W.Frag) (x q : Str) (st : Stmt) (f1 f2 : Str) (C : Addr) : Prop where
  a : PySem.W.nsIn K mainGlobals x = some (some (.ref C))
  o : OexC K C
  c : PySem.W.isClsIn K C = true
  n1 : PySem.W.findIn K (.ref C) f1 = some none
  n2 : PySem.W.findIn K (.ref C) f2 = some none
  i : ∃ f, PySem.W.findIn K (.ref C) "__init__" = some (some (.ref f)) ∧ PySem.W.typeIn K (.ref f) = some (.type "function") ∧ InitIn K q st f
theorem errIn_mk {K : PySem.W.Frag} {x q : Str} {st : Stmt} {f1 f2 : Str} {C f : Addr} {nm qq : Str} {N : Addr} {bs bm : List Value} {sn : List Str} {sub : List Value} {ab : Bool} {col : Option Bool} {dd : Option Addr} {m0 m1 m2 m3 m5 : Option Value}
    {oc : Value} {od : Option Addr} {kV doc pm : Value} {an : Option Addr} {cdv ct : Value} {osl : Array (Option Value)}
    (a : PySem.W.nsIn K mainGlobals x = some (some (.ref C))) (xL : K.lookup C = some (excClassObj nm qq C N bs bm true sn sub ab col dd m0 m1 m2 m3 m5 "ValueError.__new__")) (xr : PySem.HandSPX.refsVE bm = true)
    (sa : PySem.W.findIn K (.ref C) "__setattr__" = some (some (.builtin "object.__setattr__"))) (e : PySem.W.subIn K (.ref C) (.type "BaseException") = some true) (t : PySem.W.typeIn K (.ref C) = some (.type "type")) (k : PySem.W.keepIn K (.ref C) = true) (c : PySem.W.isClsIn K C = true)
    (n1 : PySem.W.findIn K (.ref C) f1 = some none) (n2 : PySem.W.findIn K (.ref C) f2 = some none) (i : PySem.W.findIn K (.ref C) "__init__" = some (some (.ref f))) (ti : PySem.W.typeIn K (.ref f) = some (.type "function"))
    (l : K.lookup f = some ⟨oc, od, .func (PySem.W.fnOf "__init__" q (defArgs st) (defBody st) (defScope st) .none kV doc pm an cdv ct), osl⟩) (cc : PySem.W.codeIn K cdv q = true) (kk : PySem.W.keepIn K (.ref f) = true) : ErrIn K x q st f1 f2 C :=
  ⟨a, ⟨⟨nm, qq, N, bs, bm, sn, sub, ab, col, dd, m0, m1, m2, m3, m5, xL, xr⟩, sa, e, t, k⟩, c, n1, n2, ⟨f, i, ti, initIn_mk l cc kk⟩⟩
theorem vals_of : ∀ (ns : List Int) (us : List Value), us.map absV = ns.map (fun n => some (V.int n)) → Vals (ns.map V.int) us
  | [], [], _ => .nil
  | [], _ :: _, h => by cases h
  | _ :: _, [], h => by cases h
  | n :: ns, u :: us, h => by
    rw [List.map_cons, List.map_cons] at h
    injection h with h1 h2
    refine .cons ?_ (vals_of ns us h2)
    cases u <;> first | (cases h1; done) | (cases h1; exact ⟨_, rfl⟩)
theorem sqt_of {K : PySem.W.Frag} {a : Addr} {d : Option Addr} {its : Array Value} {n : Nat} {sl : Array (Option Value)} {ns : List Int} (l : K.lookup a = some ⟨.type "tuple", d, .seq its n, sl⟩) (v : its.toList.map absV = ns.map fun n => some (V.int n)) (hz : ns.length ≤ 1000) (H : Hp) :
    SqT K H a (ns.map V.int) := by
  refine .inr ⟨_, its, n, l, rfl, rfl, ?_, vals_of _ _ v⟩
  have e := congrArg List.length v
  rw [List.length_map, List.length_map, Array.length_toList] at e
  rw [e]
  exact Nat.le_of_lt (small1000 hz)
theorem intIn_mk {K : PySem.W.Frag} {x : Str} {n : Int} {t : Tok} (a : PySem.W.nsIn K mainGlobals x = some (some (.int n t))) : ∃ t, PySem.W.nsIn K mainGlobals x = some (some (.int n t)) := ⟨t, a⟩
/-- all of it -/
structure AllIn (K : PySem.W.Frag) : Prop where
  d_cut : DefIn K "cut" s_cut
  d_poly_parted : DefIn K "poly_parted" s_poly_parted
  d_poly_at : DefIn K "poly_at" s_poly_at
  d_root : DefIn K "root" s_root
  d_small_primes : DefIn K "small_primes" s_small_primes
  d_turned : DefIn K "turned" s_turned
  d_check_poly : DefIn K "check_poly" s_check_poly
  d_whole_root : DefIn K "whole_root" s_whole_root
  d_pair_by : DefIn K "pair_by" s_pair_by
  d_apart : DefIn K "apart" s_apart
  d_det : DefIn K "det" s_det
  d_power_sums : DefIn K "power_sums" s_power_sums
  d_measure : DefIn K "measure" s_measure
  d_mod_poly : DefIn K "mod_poly" s_mod_poly
  d_mod_parted : DefIn K "mod_parted" s_mod_parted
  d_mod_at : DefIn K "mod_at" s_mod_at
  d_pair_of : DefIn K "pair_of" s_pair_of
  d_rootless : DefIn K "rootless" s_rootless
  d_split_by : DefIn K "split_by" s_split_by
  d_square_primes : DefIn K "square_primes" s_square_primes
  d_parts_of : DefIn K "parts_of" s_parts_of
  d_divides_all : DefIn K "divides_all" s_divides_all
  d_outside : DefIn K "outside" s_outside
  d__law_cell : DefIn K "_law_cell" s__law_cell
  d__law_mixed : DefIn K "_law_mixed" s__law_mixed
  d__law_draws : DefIn K "_law_draws" s__law_draws
  d__law_shifted : DefIn K "_law_shifted" s__law_shifted
  d__law_value : DefIn K "_law_value" s__law_value
  d__law_whole : DefIn K "_law_whole" s__law_whole
  d__law_row : DefIn K "_law_row" s__law_row
  d__law_times : DefIn K "_law_times" s__law_times
  d__law_table : DefIn K "_law_table" s__law_table
  d__law_det : DefIn K "_law_det" s__law_det
  d__law_falls : DefIn K "_law_falls" s__law_falls
  d__law_closed : DefIn K "_law_closed" s__law_closed
  d__law_square_lacks : DefIn K "_law_square_lacks" s__law_square_lacks
  d__law_lacks : DefIn K "_law_lacks" s__law_lacks
  d__law_own : DefIn K "_law_own" s__law_own
  d__law_whole_by : DefIn K "_law_whole_by" s__law_whole_by
  d__law_drawn : DefIn K "_law_drawn" s__law_drawn
  d__law_outcome : DefIn K "_law_outcome" s__law_outcome
  d__law_shown : DefIn K "_law_shown" s__law_shown
  d_law : DefIn K "law" s_law
  b_abs : PySem.W.nsIn K mainGlobals "abs" = some none
  b_all : PySem.W.nsIn K mainGlobals "all" = some none
  b_any : PySem.W.nsIn K mainGlobals "any" = some none
  b_bool : PySem.W.nsIn K mainGlobals "bool" = some none
  b_int : PySem.W.nsIn K mainGlobals "int" = some none
  b_isinstance : PySem.W.nsIn K mainGlobals "isinstance" = some none
  b_len : PySem.W.nsIn K mainGlobals "len" = some none
  b_list : PySem.W.nsIn K mainGlobals "list" = some none
  b_max : PySem.W.nsIn K mainGlobals "max" = some none
  b_min : PySem.W.nsIn K mainGlobals "min" = some none
  b_range : PySem.W.nsIn K mainGlobals "range" = some none
  b_reversed : PySem.W.nsIn K mainGlobals "reversed" = some none
  b_sorted : PySem.W.nsIn K mainGlobals "sorted" = some none
  b_tuple : PySem.W.nsIn K mainGlobals "tuple" = some none
  i_LARGEST : ∃ t, PySem.W.nsIn K mainGlobals "LARGEST" = some (some (.int 499 t))
  i_GREATEST : ∃ t, PySem.W.nsIn K mainGlobals "GREATEST" = some (some (.int 39999 t))
  i_PRIMES : ∃ a, PySem.W.nsIn K mainGlobals "PRIMES" = some (some (.ref a)) ∧ ∀ H, SqT K H a (primes.map V.int)
theorem txt_of {K : PySem.W.Frag} {h : Heap} {mg : Str → Option Value} (X : K.In h) (G : h.Ns mainGlobals mg) (A : AllIn K) : Nonempty (Txt K mg) := by
  obtain ⟨d_cut⟩ := defAt_of (ps := ["row"]) X G A.d_cut fun _ _ _ _ _ _ us hl => match us, hl with | [_], _ => rfl
  obtain ⟨d_poly_parted⟩ := defAt_of (ps := ["f", "g"]) X G A.d_poly_parted fun _ _ _ _ _ _ us hl => match us, hl with | [_, _], _ => rfl
  obtain ⟨d_poly_at⟩ := defAt_of (ps := ["f", "x"]) X G A.d_poly_at fun _ _ _ _ _ _ us hl => match us, hl with | [_, _], _ => rfl
  obtain ⟨d_root⟩ := defAt_of (ps := ["m"]) X G A.d_root fun _ _ _ _ _ _ us hl => match us, hl with | [_], _ => rfl
  obtain ⟨d_small_primes⟩ := defAt_of (ps := []) X G A.d_small_primes fun _ _ _ _ _ _ us hl => match us, hl with | [], _ => rfl
  obtain ⟨d_turned⟩ := defAt_of (ps := ["a", "p"]) X G A.d_turned fun _ _ _ _ _ _ us hl => match us, hl with | [_, _], _ => rfl
  obtain ⟨d_check_poly⟩ := defAt_of (ps := ["poly"]) X G A.d_check_poly fun _ _ _ _ _ _ us hl => match us, hl with | [_], _ => rfl
  obtain ⟨d_whole_root⟩ := defAt_of (ps := ["poly"]) X G A.d_whole_root fun _ _ _ _ _ _ us hl => match us, hl with | [_], _ => rfl
  obtain ⟨d_pair_by⟩ := defAt_of (ps := ["poly", "b"]) X G A.d_pair_by fun _ _ _ _ _ _ us hl => match us, hl with | [_, _], _ => rfl
  obtain ⟨d_apart⟩ := defAt_of (ps := ["poly"]) X G A.d_apart fun _ _ _ _ _ _ us hl => match us, hl with | [_], _ => rfl
  obtain ⟨d_det⟩ := defAt_of (ps := ["table"]) X G A.d_det fun _ _ _ _ _ _ us hl => match us, hl with | [_], _ => rfl
  obtain ⟨d_power_sums⟩ := defAt_of (ps := ["poly", "many"]) X G A.d_power_sums fun _ _ _ _ _ _ us hl => match us, hl with | [_, _], _ => rfl
  obtain ⟨d_measure⟩ := defAt_of (ps := ["poly"]) X G A.d_measure fun _ _ _ _ _ _ us hl => match us, hl with | [_], _ => rfl
  obtain ⟨d_mod_poly⟩ := defAt_of (ps := ["row", "p"]) X G A.d_mod_poly fun _ _ _ _ _ _ us hl => match us, hl with | [_, _], _ => rfl
  obtain ⟨d_mod_parted⟩ := defAt_of (ps := ["a", "b", "p"]) X G A.d_mod_parted fun _ _ _ _ _ _ us hl => match us, hl with | [_, _, _], _ => rfl
  obtain ⟨d_mod_at⟩ := defAt_of (ps := ["f", "x", "p"]) X G A.d_mod_at fun _ _ _ _ _ _ us hl => match us, hl with | [_, _, _], _ => rfl
  obtain ⟨d_pair_of⟩ := defAt_of (ps := ["left", "p"]) X G A.d_pair_of fun _ _ _ _ _ _ us hl => match us, hl with | [_, _], _ => rfl
  obtain ⟨d_rootless⟩ := defAt_of (ps := ["left", "p"]) X G A.d_rootless fun _ _ _ _ _ _ us hl => match us, hl with | [_, _], _ => rfl
  obtain ⟨d_split_by⟩ := defAt_of (ps := ["poly", "p"]) X G A.d_split_by fun _ _ _ _ _ _ us hl => match us, hl with | [_, _], _ => rfl
  obtain ⟨d_square_primes⟩ := defAt_of (ps := ["size"]) X G A.d_square_primes fun _ _ _ _ _ _ us hl => match us, hl with | [_], _ => rfl
  obtain ⟨d_parts_of⟩ := defAt_of (ps := ["poly", "p"]) X G A.d_parts_of fun _ _ _ _ _ _ us hl => match us, hl with | [_, _], _ => rfl
  obtain ⟨d_divides_all⟩ := defAt_of (ps := ["m", "row"]) X G A.d_divides_all fun _ _ _ _ _ _ us hl => match us, hl with | [_, _], _ => rfl
  obtain ⟨d_outside⟩ := defAt_of (ps := ["poly", "size"]) X G A.d_outside fun _ _ _ _ _ _ us hl => match us, hl with | [_, _], _ => rfl
  obtain ⟨d__law_cell⟩ := defAt_of (ps := ["_law_script", "_law_k"]) X G A.d__law_cell fun _ _ _ _ _ _ us hl => match us, hl with | [_, _], _ => rfl
  obtain ⟨d__law_mixed⟩ := defAt_of (ps := ["_law_cell_here", "_law_k", "_law_prime"]) X G A.d__law_mixed fun _ _ _ _ _ _ us hl => match us, hl with | [_, _, _], _ => rfl
  obtain ⟨d__law_draws⟩ := defAt_of (ps := ["_law_cell_here", "_law_widths", "_law_prime"]) X G A.d__law_draws fun _ _ _ _ _ _ us hl => match us, hl with | [_, _, _], _ => rfl
  obtain ⟨d__law_shifted⟩ := defAt_of (ps := ["_law_poly", "_law_s"]) X G A.d__law_shifted fun _ _ _ _ _ _ us hl => match us, hl with | [_, _], _ => rfl
  obtain ⟨d__law_value⟩ := defAt_of (ps := ["_law_poly", "_law_r"]) X G A.d__law_value fun _ _ _ _ _ _ us hl => match us, hl with | [_, _], _ => rfl
  obtain ⟨d__law_whole⟩ := defAt_of (ps := ["_law_found"]) X G A.d__law_whole fun _ _ _ _ _ _ us hl => match us, hl with | [_], _ => rfl
  obtain ⟨d__law_row⟩ := defAt_of (ps := ["_law_found", "_law_many"]) X G A.d__law_row fun _ _ _ _ _ _ us hl => match us, hl with | [_, _], _ => rfl
  obtain ⟨d__law_times⟩ := defAt_of (ps := ["_law_poly", "_law_x", "_law_y"]) X G A.d__law_times fun _ _ _ _ _ _ us hl => match us, hl with | [_, _, _], _ => rfl
  obtain ⟨d__law_table⟩ := defAt_of (ps := ["_law_poly", "_law_x"]) X G A.d__law_table fun _ _ _ _ _ _ us hl => match us, hl with | [_, _], _ => rfl
  obtain ⟨d__law_det⟩ := defAt_of (ps := ["_law_rows"]) X G A.d__law_det fun _ _ _ _ _ _ us hl => match us, hl with | [_], _ => rfl
  obtain ⟨d__law_falls⟩ := defAt_of (ps := ["_law_poly"]) X G A.d__law_falls fun _ _ _ _ _ _ us hl => match us, hl with | [_], _ => rfl
  obtain ⟨d__law_closed⟩ := defAt_of (ps := ["_law_poly"]) X G A.d__law_closed fun _ _ _ _ _ _ us hl => match us, hl with | [_], _ => rfl
  obtain ⟨d__law_square_lacks⟩ := defAt_of (ps := ["_law_poly", "_law_p"]) X G A.d__law_square_lacks fun _ _ _ _ _ _ us hl => match us, hl with | [_, _], _ => rfl
  obtain ⟨d__law_lacks⟩ := defAt_of (ps := ["_law_poly", "_law_amount"]) X G A.d__law_lacks fun _ _ _ _ _ _ us hl => match us, hl with | [_, _], _ => rfl
  obtain ⟨d__law_own⟩ := defAt_of (ps := ["_law_poly", "_law_x"]) X G A.d__law_own fun _ _ _ _ _ _ us hl => match us, hl with | [_, _], _ => rfl
  obtain ⟨d__law_whole_by⟩ := defAt_of (ps := ["_law_poly", "_law_x", "_law_m"]) X G A.d__law_whole_by fun _ _ _ _ _ _ us hl => match us, hl with | [_, _, _], _ => rfl
  obtain ⟨d__law_drawn⟩ := defAt_of (ps := ["_law_cell_here"]) X G A.d__law_drawn fun _ _ _ _ _ _ us hl => match us, hl with | [_], _ => rfl
  obtain ⟨d__law_outcome⟩ := defAt_of (ps := ["_law_poly"]) X G A.d__law_outcome fun _ _ _ _ _ _ us hl => match us, hl with | [_], _ => rfl
  obtain ⟨d__law_shown⟩ := defAt_of (ps := ["_law_poly", "_law_told"]) X G A.d__law_shown fun _ _ _ _ _ _ us hl => match us, hl with | [_, _], _ => rfl
  obtain ⟨d_law⟩ := defAt_of (ps := ["_law_script"]) X G A.d_law fun _ _ _ _ _ _ us hl => match us, hl with | [_], _ => rfl
  obtain ⟨tL, eL⟩ := A.i_LARGEST
  obtain ⟨tG, eG⟩ := A.i_GREATEST
  obtain ⟨aP, eP, sP⟩ := A.i_PRIMES
  exact ⟨⟨d_cut, d_poly_parted, d_poly_at, d_root, d_small_primes, d_turned, d_check_poly, d_whole_root, d_pair_by, d_apart, d_det, d_power_sums, d_measure, d_mod_poly, d_mod_parted, d_mod_at, d_pair_of, d_rootless, d_split_by, d_square_primes, d_parts_of, d_divides_all, d_outside, d__law_cell, d__law_mixed, d__law_draws, d__law_shifted, d__law_value, d__law_whole, d__law_row, d__law_times, d__law_table, d__law_det, d__law_falls, d__law_closed, d__law_square_lacks, d__law_lacks, d__law_own, d__law_whole_by, d__law_drawn, d__law_outcome, d__law_shown, d_law, PySem.W.mg_none_of X G A.b_abs, PySem.W.mg_none_of X G A.b_all, PySem.W.mg_none_of X G A.b_any, PySem.W.mg_none_of X G A.b_bool, PySem.W.mg_none_of X G A.b_int, PySem.W.mg_none_of X G A.b_isinstance, PySem.W.mg_none_of X G A.b_len, PySem.W.mg_none_of X G A.b_list, PySem.W.mg_none_of X G A.b_max, PySem.W.mg_none_of X G A.b_min, PySem.W.mg_none_of X G A.b_range, PySem.W.mg_none_of X G A.b_reversed, PySem.W.mg_none_of X G A.b_sorted, PySem.W.mg_none_of X G A.b_tuple, ⟨tL, PySem.W.mg_of X G eL⟩, ⟨tG, PySem.W.mg_of X G eG⟩, aP, PySem.W.mg_of X G eP, sP⟩⟩
/-- the classes -/
structure ClsIn (K : PySem.W.Frag) (FA NW TG RE C : Addr) : Prop where
  fa : ErrIn K "FallsApart" "FallsApart.__init__" s_FallsApart___init__ "left" "right" FA
  nw : ErrIn K "NotWhole" "NotWhole.__init__" s_NotWhole___init__ "prime" "number" NW
  nga : PySem.W.findIn K (.ref NW) "__getattribute__" = some (some (.builtin "BaseException.__getattribute__"))
  ngg : PySem.W.findIn K (.ref NW) "__getattr__" = some none
  nhd : PySem.W.hasDictIn K NW = true
  tga : PySem.W.nsIn K mainGlobals "TooGreat" = some (some (.ref TG))
  tgq : PySem.W.excIn K TG veM "ValueError.__new__" = true
  tgk : PySem.W.keepIn K (.ref TG) = true
  tge : PySem.W.subIn K (.ref TG) (.type "BaseException") = some true
  tgt : PySem.W.typeIn K (.ref TG) = some (.type "type")
  tgc : PySem.W.isClsIn K TG = true
  rea : PySem.W.nsIn K mainGlobals "RingError" = some (some (.ref RE))
  ra : PySem.W.nsIn K mainGlobals "Ring" = some (some (.ref C))
  rg : PySem.W.plainGet K C Str.empty = true
  rd : PySem.W.hasDictIn K C = true
  ro : PySem.W.plainOver K C = true
  rs : PySem.W.findIn K (.ref C) "__setattr__" = some (some (.builtin "object.__setattr__"))
  rm : PySem.W.makesIn K C = true
  rk : PySem.W.keepIn K (.ref C) = true
  ri : ∃ f, PySem.W.findIn K (.ref C) "__init__" = some (some (.ref f)) ∧ PySem.W.isFn K (.ref f) = true ∧ InitIn K "Ring.__init__" s_Ring___init__ f
  n1 : PySem.W.findIn K (.ref C) "poly" = some none
  n2 : PySem.W.findIn K (.ref C) "degree" = some none
  n3 : PySem.W.findIn K (.ref C) "measure" = some none
  x11 : PySem.W.subIn K (.ref FA) (.ref FA) = some true
  x21 : PySem.W.subIn K (.ref TG) (.ref FA) = some false
  x22 : PySem.W.subIn K (.ref TG) (.ref TG) = some true
  x31 : PySem.W.subIn K (.ref NW) (.ref FA) = some false
  x32 : PySem.W.subIn K (.ref NW) (.ref TG) = some false
  x33 : PySem.W.subIn K (.ref NW) (.ref NW) = some true
theorem initIn3 {K : PySem.W.Frag} {C f : Addr} {oc : Value} {od : Option Addr} {kV doc pm : Value} {an : Option Addr} {cdv ct : Value} {osl : Array (Option Value)} (i : PySem.W.findIn K (.ref C) "__init__" = some (some (.ref f))) (n : PySem.W.isFn K (.ref f) = true)
    (l : K.lookup f = some ⟨oc, od, .func (PySem.W.fnOf "__init__" "Ring.__init__" (defArgs s_Ring___init__) (defBody s_Ring___init__) (defScope s_Ring___init__) .none kV doc pm an cdv ct), osl⟩) (c : PySem.W.codeIn K cdv "Ring.__init__" = true) (k : PySem.W.keepIn K (.ref f) = true) :
    ∃ f, PySem.W.findIn K (.ref C) "__init__" = some (some (.ref f)) ∧ PySem.W.isFn K (.ref f) = true ∧ InitIn K "Ring.__init__" s_Ring___init__ f := ⟨f, i, n, initIn_mk l c k⟩
theorem zxt_of {K : PySem.W.Frag} {h : Heap} {mg : Str → Option Value} {FA NW TG RE C : Addr} (X : K.In h) (G : h.Ns mainGlobals mg) (A : ClsIn K FA NW TG RE C) : Nonempty (Zxt K mg) := by
  obtain ⟨f1, i1, t1, u1⟩ := A.fa.i
  obtain ⟨f2, i2, t2, u2⟩ := A.nw.i
  obtain ⟨f3, i3, t3, u3⟩ := A.ri
  obtain ⟨fd1, F1, B1⟩ := initAt_of (ps := ["self", "left", "right"]) u1 fun _ _ _ _ _ _ us hl => match us, hl with | [_, _, _], _ => rfl
  obtain ⟨fd2, F2, B2⟩ := initAt_of (ps := ["self", "prime", "number"]) u2 fun _ _ _ _ _ _ us hl => match us, hl with | [_, _, _], _ => rfl
  obtain ⟨fd3, F3, B3⟩ := initAt_of (ps := ["self", "poly"]) u3 fun _ _ _ _ _ _ us hl => match us, hl with | [_, _], _ => rfl
  exact ⟨{ FallsApart := ⟨FA, f1, fd1, PySem.W.mg_of X G A.fa.a, A.fa.o, i1, t1, F1, B1, A.fa.n1, A.fa.n2⟩
           NotWhole := ⟨NW, f2, fd2, PySem.W.mg_of X G A.nw.a, A.nw.o, i2, t2, F2, B2, A.nw.n1, A.nw.n2⟩
           xNW := ⟨A.nga, A.ngg, A.nw.o.exC, A.nhd⟩
           TooGreat := ⟨TG, PySem.W.mg_of X G A.tga, A.tgq, A.tgk, A.tge, A.tgt⟩
           RE := RE, gRE := PySem.W.mg_of X G A.rea, C := C, f := f3, fd := fd3, g := PySem.W.mg_of X G A.ra, M := ⟨A.rm, i3, t3, A.rk⟩, cl := ⟨A.rg, A.rd, A.ro, A.rs⟩, F := F3, b := B3, n1 := A.n1, n2 := A.n2, n3 := A.n3
           x11 := exm_of A.fa.o.exC A.fa.c A.fa.o.tyC A.x11, x21 := exm_of A.fa.o.exC A.fa.c A.fa.o.tyC A.x21, x22 := exm_of A.tge A.tgc A.tgt A.x22
           x31 := exm_of A.fa.o.exC A.fa.c A.fa.o.tyC A.x31, x32 := exm_of A.tge A.tgc A.tgt A.x32, x33 := exm_of A.nw.o.exC A.nw.c A.nw.o.tyC A.x33 }⟩
/-- every def holds its promise -/
theorem all_ok {P : Program} {w : World} {K : PySem.W.Frag} {mg : Str → Option Value} {base : Heap} (MM : Maths) (T : Txt K mg) (Z : Zxt K mg) : FnOk P w K mg base CX0 10 T.law.f T.law.fd ["_law_script"] (sp_law K) := by
  have G_cut := ok_cut (P := P) (w := w) (base := base) T
  have G_poly_at := ok_poly_at (P := P) (w := w) (base := base) T
  have G__law_value := ok__law_value (P := P) (w := w) (base := base) T
  have G_mod_at := ok_mod_at (P := P) (w := w) (base := base) T
  have G_small_primes := ok_small_primes (P := P) (w := w) (base := base) T
  have G_root := ok_root (P := P) (w := w) (base := base) T
  have G_turned := ok_turned (P := P) (w := w) (base := base) T
  have G_check_poly := ok_check_poly (P := P) (w := w) (base := base) T
  have G_mod_poly := ok_mod_poly (P := P) (w := w) (base := base) T G_cut
  have G_divides_all := ok_divides_all (P := P) (w := w) (base := base) T
  have G_square_primes := ok_square_primes (P := P) (w := w) (base := base) T G_small_primes
  have G_poly_parted := ok_poly_parted (P := P) (w := w) (base := base) T G_cut
  have G_whole_root := ok_whole_root (P := P) (w := w) (base := base) T G_poly_at
  have G_pair_by := ok_pair_by (P := P) (w := w) (base := base) T G_root
  have G_apart := ok_apart (P := P) (w := w) (base := base) T G_check_poly G_whole_root G_poly_parted G_pair_by
  have G_det0 : ∀ k, _ := fun k => ok_det (P := P) (w := w) (base := base) T k
  have G_power_sums := ok_power_sums (P := P) (w := w) (base := base) T
  have G_measure := ok_measure (P := P) (w := w) (base := base) T G_check_poly G_power_sums G_det0
  have G_mod_parted := ok_mod_parted (P := P) (w := w) (base := base) T G_mod_poly G_turned G_cut
  have G_pair_of := ok_pair_of (P := P) (w := w) (base := base) T G_turned
  have G_rootless := ok_rootless (P := P) (w := w) (base := base) T G_pair_of
  have G_split_by := ok_split_by (P := P) (w := w) (base := base) T G_mod_poly G_mod_at G_mod_parted G_rootless
  have G_parts_of := ok_parts_of (P := P) (w := w) (base := base) T G_split_by G_poly_parted
  have G_outside := ok_outside (P := P) (w := w) (base := base) T G_square_primes G_parts_of G_divides_all G_poly_parted
  have G__law_cell := ok__law_cell (P := P) (w := w) (base := base) T
  have G__law_mixed := ok__law_mixed (P := P) (w := w) (base := base) T
  have G__law_draws := ok__law_draws (P := P) (w := w) (base := base) T G__law_mixed
  have G__law_shifted := ok__law_shifted (P := P) (w := w) (base := base) T
  have G__law_drawn := ok__law_drawn (P := P) (w := w) (base := base) T G__law_draws
  have G__law_falls := ok__law_falls (P := P) (w := w) (base := base) T G__law_value
  have G__law_closed := ok__law_closed (P := P) (w := w) (base := base) T
  have G__law_square_lacks := ok__law_square_lacks (P := P) (w := w) (base := base) T
  have G__law_lacks := ok__law_lacks (P := P) (w := w) (base := base) T G__law_value G__law_square_lacks
  have G__law_whole := ok__law_whole (P := P) (w := w) (base := base) T
  have G__law_row := ok__law_row (P := P) (w := w) (base := base) T G__law_whole
  have G__law_det0 : ∀ k, _ := fun k => ok__law_det (P := P) (w := w) (base := base) T k
  have G__law_times := ok__law_times (P := P) (w := w) (base := base) T
  have G__law_table := ok__law_table (P := P) (w := w) (base := base) T G__law_times
  have G__law_own := ok__law_own (P := P) (w := w) (base := base) T G__law_table G__law_det0
  have G__law_whole_by := ok__law_whole_by (P := P) (w := w) (base := base) T G__law_own
  have G__law_shown := ok__law_shown (P := P) (w := w) (base := base) T G__law_whole G__law_row G__law_whole_by
  have G_FallsApart := ok_FallsApart (P := P) (w := w) (base := base) Z
  have G_NotWhole := ok_NotWhole (P := P) (w := w) (base := base) Z
  have G_Ring := ok_Ring (P := P) (w := w) (base := base) T Z G_apart G_measure G_outside G_FallsApart G_NotWhole
  have G__law_outcome := ok__law_outcome (P := P) (w := w) (base := base) T Z G_Ring
  exact ok_law MM T Z G__law_cell G__law_drawn G__law_shifted G__law_closed G__law_outcome G__law_falls G__law_lacks G__law_shown G__law_row G__law_whole
theorem all_mk {P : Program} {w : World} {K : PySem.W.Frag} {h : Heap} {mg : Str → Option Value} {fa FA NW TG RE C : Addr} (MM : Maths) (X : K.In h) (G : h.Ns mainGlobals mg) (hfa : mg "law" = some (.ref fa)) (A : AllIn K) (B : ClsIn K FA NW TG RE C) :
    ∃ fd : FuncData, (∀ (s : Shared) (v : Value), BindsTo s fd ⟨[v], []⟩ [("_law_script", v)]) ∧ ∀ base : Heap, K.In base → base.Ns mainGlobals mg → FnOk P w K mg base CX0 10 fa fd ["_law_script"] (sp_law K) := by
  obtain ⟨T⟩ := txt_of X G A
  obtain ⟨Z⟩ := zxt_of X G B
  have e := hfa.symm.trans T.law.g
  cases e
  obtain ⟨oc, od, kV, doc, pm, an, cdv, ct, osl, ef, _, _⟩ := T.law.F.ex
  exact ⟨T.law.fd, fun s v => by rw [ef]; exact .of_eq rfl, fun base _ _ => all_ok MM T Z⟩
theorem walk {l : PySem.W.OpenLaw} {q : Program} {loose : List Str} {XP : (Str → Option Value) → Heap → Prop} {YP : World → Heap → Prop} {d : DefRec} {K : Params → PySem.W.Frag} (hn : l.most = some 63) (hdf : d.params.defaults = [])
    (hY : ∀ (w : World) (h : Heap), YP w h → (K w.params).In h)
    (F : ∀ (w : World) (mg : Str → Option Value) (fa : Addr) (h : Heap), (K w.params).In h → h.Ns mainGlobals mg → mg d.name = some (.ref fa) →
      ∃ fd : FuncData, (∀ (s : Shared) (u : Value), BindsTo s fd ⟨[u], []⟩ [("_law_script", u)]) ∧ ∀ base : Heap, (K w.params).In base → base.Ns mainGlobals mg → FnOk l.prog w (K w.params) mg base CX0 10 fa fd ["_law_script"] (sp_law (K w.params))) :
    PySem.W.WalkO q loose XP YP l.row.toRowW d [] (fun f vs => PySem.call f vs) :=
  L2.walk_of (n := 63) (k := 10) (x := "_law_script") (CX := fun _ => CX0) (sp := fun w => sp_law (K w.params)) hn (by decide) hdf ⟨rfl, by decide, by decide⟩ hY F (fun _ _ a ns hl _ hS => ⟨a, ns, rfl, hS, hl, fun _ => rfl⟩) fun _ _ _ _ _ z => z
end RH

namespace RH
theorem maths : Maths := ⟨meas_eq, red_shift, lacks_iff, shown_ok⟩
end RH
open PySem PySem.W PyProof.Rows in
set_option maxRecDepth 100000 in
set_option maxHeartbeats 0 in
theorem PySem.Challenge.cw_ringhouse_k16_whole_verdicts_holds : PySem.Challenge.rw_ringhouse_k16_whole_verdicts.Holds := by
  w_on; o_law; k_head; (case hw => w_witness2)
  k_fill
  refine RH.walk (l := PySem.Challenge.rw_ringhouse_k16_whole_verdicts) rfl rfl (fun w h Y => PySem.W.kIn_of Y) ?F
  case F =>
    intro w mg fa h KX G hmg
    refine' RH.all_mk RH.maths KX G hmg ?A ?B
    case A =>
      refine' RH.AllIn.mk ?d_cut ?d_poly_parted ?d_poly_at ?d_root ?d_small_primes ?d_turned ?d_check_poly ?d_whole_root ?d_pair_by ?d_apart ?d_det ?d_power_sums ?d_measure ?d_mod_poly ?d_mod_parted ?d_mod_at ?d_pair_of ?d_rootless ?d_split_by ?d_square_primes ?d_parts_of ?d_divides_all ?d_outside ?d__law_cell ?d__law_mixed ?d__law_draws ?d__law_shifted ?d__law_value ?d__law_whole ?d__law_row ?d__law_times ?d__law_table ?d__law_det ?d__law_falls ?d__law_closed ?d__law_square_lacks ?d__law_lacks ?d__law_own ?d__law_whole_by ?d__law_drawn ?d__law_outcome ?d__law_shown ?d_law ?b_abs ?b_all ?b_any ?b_bool ?b_int ?b_isinstance ?b_len ?b_list ?b_max ?b_min ?b_range ?b_reversed ?b_sorted ?b_tuple ?iL ?iG ?iP
      (case d_cut => (refine' RH.defIn_mk ?a ?l ?c ?k; (case a => k_is); (case l => k_is); (case c => k_is); (case k => k_is)))
      (case d_poly_parted => (refine' RH.defIn_mk ?a ?l ?c ?k; (case a => k_is); (case l => k_is); (case c => k_is); (case k => k_is)))
      (case d_poly_at => (refine' RH.defIn_mk ?a ?l ?c ?k; (case a => k_is); (case l => k_is); (case c => k_is); (case k => k_is)))
      (case d_root => (refine' RH.defIn_mk ?a ?l ?c ?k; (case a => k_is); (case l => k_is); (case c => k_is); (case k => k_is)))
      (case d_small_primes => (refine' RH.defIn_mk ?a ?l ?c ?k; (case a => k_is); (case l => k_is); (case c => k_is); (case k => k_is)))
      (case d_turned => (refine' RH.defIn_mk ?a ?l ?c ?k; (case a => k_is); (case l => k_is); (case c => k_is); (case k => k_is)))
      (case d_check_poly => (refine' RH.defIn_mk ?a ?l ?c ?k; (case a => k_is); (case l => k_is); (case c => k_is); (case k => k_is)))
      (case d_whole_root => (refine' RH.defIn_mk ?a ?l ?c ?k; (case a => k_is); (case l => k_is); (case c => k_is); (case k => k_is)))
      (case d_pair_by => (refine' RH.defIn_mk ?a ?l ?c ?k; (case a => k_is); (case l => k_is); (case c => k_is); (case k => k_is)))
      (case d_apart => (refine' RH.defIn_mk ?a ?l ?c ?k; (case a => k_is); (case l => k_is); (case c => k_is); (case k => k_is)))
      (case d_det => (refine' RH.defIn_mk ?a ?l ?c ?k; (case a => k_is); (case l => k_is); (case c => k_is); (case k => k_is)))
      (case d_power_sums => (refine' RH.defIn_mk ?a ?l ?c ?k; (case a => k_is); (case l => k_is); (case c => k_is); (case k => k_is)))
      (case d_measure => (refine' RH.defIn_mk ?a ?l ?c ?k; (case a => k_is); (case l => k_is); (case c => k_is); (case k => k_is)))
      (case d_mod_poly => (refine' RH.defIn_mk ?a ?l ?c ?k; (case a => k_is); (case l => k_is); (case c => k_is); (case k => k_is)))
      (case d_mod_parted => (refine' RH.defIn_mk ?a ?l ?c ?k; (case a => k_is); (case l => k_is); (case c => k_is); (case k => k_is)))
      (case d_mod_at => (refine' RH.defIn_mk ?a ?l ?c ?k; (case a => k_is); (case l => k_is); (case c => k_is); (case k => k_is)))
      (case d_pair_of => (refine' RH.defIn_mk ?a ?l ?c ?k; (case a => k_is); (case l => k_is); (case c => k_is); (case k => k_is)))
      (case d_rootless => (refine' RH.defIn_mk ?a ?l ?c ?k; (case a => k_is); (case l => k_is); (case c => k_is); (case k => k_is)))
      (case d_split_by => (refine' RH.defIn_mk ?a ?l ?c ?k; (case a => k_is); (case l => k_is); (case c => k_is); (case k => k_is)))
      (case d_square_primes => (refine' RH.defIn_mk ?a ?l ?c ?k; (case a => k_is); (case l => k_is); (case c => k_is); (case k => k_is)))
      (case d_parts_of => (refine' RH.defIn_mk ?a ?l ?c ?k; (case a => k_is); (case l => k_is); (case c => k_is); (case k => k_is)))
      (case d_divides_all => (refine' RH.defIn_mk ?a ?l ?c ?k; (case a => k_is); (case l => k_is); (case c => k_is); (case k => k_is)))
      (case d_outside => (refine' RH.defIn_mk ?a ?l ?c ?k; (case a => k_is); (case l => k_is); (case c => k_is); (case k => k_is)))
      (case d__law_cell => (refine' RH.defIn_mk ?a ?l ?c ?k; (case a => k_is); (case l => k_is); (case c => k_is); (case k => k_is)))
      (case d__law_mixed => (refine' RH.defIn_mk ?a ?l ?c ?k; (case a => k_is); (case l => k_is); (case c => k_is); (case k => k_is)))
      (case d__law_draws => (refine' RH.defIn_mk ?a ?l ?c ?k; (case a => k_is); (case l => k_is); (case c => k_is); (case k => k_is)))
      (case d__law_shifted => (refine' RH.defIn_mk ?a ?l ?c ?k; (case a => k_is); (case l => k_is); (case c => k_is); (case k => k_is)))
      (case d__law_value => (refine' RH.defIn_mk ?a ?l ?c ?k; (case a => k_is); (case l => k_is); (case c => k_is); (case k => k_is)))
      (case d__law_whole => (refine' RH.defIn_mk ?a ?l ?c ?k; (case a => k_is); (case l => k_is); (case c => k_is); (case k => k_is)))
      (case d__law_row => (refine' RH.defIn_mk ?a ?l ?c ?k; (case a => k_is); (case l => k_is); (case c => k_is); (case k => k_is)))
      (case d__law_times => (refine' RH.defIn_mk ?a ?l ?c ?k; (case a => k_is); (case l => k_is); (case c => k_is); (case k => k_is)))
      (case d__law_table => (refine' RH.defIn_mk ?a ?l ?c ?k; (case a => k_is); (case l => k_is); (case c => k_is); (case k => k_is)))
      (case d__law_det => (refine' RH.defIn_mk ?a ?l ?c ?k; (case a => k_is); (case l => k_is); (case c => k_is); (case k => k_is)))
      (case d__law_falls => (refine' RH.defIn_mk ?a ?l ?c ?k; (case a => k_is); (case l => k_is); (case c => k_is); (case k => k_is)))
      (case d__law_closed => (refine' RH.defIn_mk ?a ?l ?c ?k; (case a => k_is); (case l => k_is); (case c => k_is); (case k => k_is)))
      (case d__law_square_lacks => (refine' RH.defIn_mk ?a ?l ?c ?k; (case a => k_is); (case l => k_is); (case c => k_is); (case k => k_is)))
      (case d__law_lacks => (refine' RH.defIn_mk ?a ?l ?c ?k; (case a => k_is); (case l => k_is); (case c => k_is); (case k => k_is)))
      (case d__law_own => (refine' RH.defIn_mk ?a ?l ?c ?k; (case a => k_is); (case l => k_is); (case c => k_is); (case k => k_is)))
      (case d__law_whole_by => (refine' RH.defIn_mk ?a ?l ?c ?k; (case a => k_is); (case l => k_is); (case c => k_is); (case k => k_is)))
      (case d__law_drawn => (refine' RH.defIn_mk ?a ?l ?c ?k; (case a => k_is); (case l => k_is); (case c => k_is); (case k => k_is)))
      (case d__law_outcome => (refine' RH.defIn_mk ?a ?l ?c ?k; (case a => k_is); (case l => k_is); (case c => k_is); (case k => k_is)))
      (case d__law_shown => (refine' RH.defIn_mk ?a ?l ?c ?k; (case a => k_is); (case l => k_is); (case c => k_is); (case k => k_is)))
      (case d_law => (refine' RH.defIn_mk ?a ?l ?c ?k; (case a => k_is); (case l => k_is); (case c => k_is); (case k => k_is)))
      (case b_abs => k_is)
      (case b_all => k_is)
      (case b_any => k_is)
      (case b_bool => k_is)
      (case b_int => k_is)
      (case b_isinstance => k_is)
      (case b_len => k_is)
      (case b_list => k_is)
      (case b_max => k_is)
      (case b_min => k_is)
      (case b_range => k_is)
      (case b_reversed => k_is)
      (case b_sorted => k_is)
      (case b_tuple => k_is)
      (case iL => (refine' RH.intIn_mk ?a; (case a => first | k_is | rfl)))
      (case iG => (refine' RH.intIn_mk ?a; (case a => first | k_is | rfl)))
      (case iP => (refine' Exists.intro _ (And.intro ?a (RH.sqt_of ?l ?v ?z)); (case a => k_is); (case l => k_is); (case v => rfl); (case z => decide)))
    case B =>
      refine' RH.ClsIn.mk (RH.errIn_mk ?a1 ?a2 ?a3 ?a4 ?a5 ?a6 ?a7 ?a8 ?a9 ?a10 ?a11 ?a12 ?a13 ?a14 ?a15) (RH.errIn_mk ?b1 ?b2 ?b3 ?b4 ?b5 ?b6 ?b7 ?b8 ?b9 ?b10 ?b11 ?b12 ?b13 ?b14 ?b15) ?nga ?ngg ?nhd ?tga ?tgq ?tgk ?tge ?tgt ?tgc ?rea ?ra ?rg ?rd ?ro ?rs ?rm ?rk (RH.initIn3 ?r1 ?r2 ?r3 ?r4 ?r5) ?n1 ?n2 ?n3 ?x11 ?x21 ?x22 ?x31 ?x32 ?x33
      (case a1 => k_is)
      (case a2 => k_is)
      (case a3 => rfl)
      (case a4 => k_is)
      (case a5 => k_is)
      (case a6 => k_is)
      (case a7 => k_is)
      (case a8 => k_is)
      (case a9 => k_is)
      (case a10 => k_is)
      (case a11 => k_is)
      (case a12 => k_is)
      (case a13 => k_is)
      (case a14 => k_is)
      (case a15 => k_is)
      (case b1 => k_is)
      (case b2 => k_is)
      (case b3 => rfl)
      (case b4 => k_is)
      (case b5 => k_is)
      (case b6 => k_is)
      (case b7 => k_is)
      (case b8 => k_is)
      (case b9 => k_is)
      (case b10 => k_is)
      (case b11 => k_is)
      (case b12 => k_is)
      (case b13 => k_is)
      (case b14 => k_is)
      (case b15 => k_is)
      (case nga => k_is)
      (case ngg => k_is)
      (case nhd => k_is)
      (case tga => k_is)
      (case tgq => first | k_exc | rfl)
      (case tgk => k_is)
      (case tge => k_is)
      (case tgt => k_is)
      (case tgc => k_is)
      (case rea => k_is)
      (case ra => k_is)
      (case rg => k_is)
      (case rd => k_is)
      (case ro => k_is)
      (case rs => k_is)
      (case rm => k_is)
      (case rk => k_is)
      (case r1 => k_is)
      (case r2 => k_is)
      (case r3 => k_is)
      (case r4 => k_is)
      (case r5 => k_is)
      (case n1 => k_is)
      (case n2 => k_is)
      (case n3 => k_is)
      (case x11 => k_is)
      (case x21 => k_is)
      (case x22 => k_is)
      (case x31 => k_is)
      (case x32 => k_is)
      (case x33 => k_is)
