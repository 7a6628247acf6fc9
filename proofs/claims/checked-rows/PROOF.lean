import PyProof.Rows.All
import Wide.All
import OpenK.AllK
import Wide.FinOn
import PySem.Challenge.RW_turnprimes_k63_whole_checked_rows
import HandS.ForMost
import HandS.Walk
import HandS.Zip
import HandS.Style
import HandS.TupAny
import HandS.TupSets
import HandS.Gcd
import HandS.DictComp
import HandS.IsInst
import KE.KStateDown
import Lean
import HandS.Defaults
import HandS.Head0
import HandS.Head1
import HandS.Head2
import HandS.Head3
import HandS.HeadEnd
import HandS.HeadHook1
import HandS.HeadHook2
import HandS.HeadHook3
import HandS.HeadHook4
import KE.SortData
import KE.DataMinMax
import KE.GoesEnum
import KE.GoesMore
import HandS.WordsDict
set_option Elab.async false
set_option linter.all false
set_option maxRecDepth 100000
set_option maxHeartbeats 0
/-! The text by places, the head's facts. Printed by genhead.py. -/
namespace TP
open PySem PySem.Spec PyProof.Rows L2
def top (i : Nat) : Stmt := PySem.Challenge.pw_turnprimes_k63_whole_checked_rows.main.body.getD i (.Pass ⟨0, 0, 0, 0⟩)
abbrev s_is_number : Stmt := top 10
abbrev s_check_number : Stmt := top 11
abbrev s_check_not_zero : Stmt := top 12
abbrev s_conjugate : Stmt := top 13
abbrev s_norm : Stmt := top 14
abbrev s_less : Stmt := top 15
abbrev s_product : Stmt := top 16
abbrev s_product_of : Stmt := top 17
abbrev s_units : Stmt := top 18
abbrev s_is_unit : Stmt := top 19
abbrev s_associates : Stmt := top 20
abbrev s_canonical : Stmt := top 21
abbrev s_content : Stmt := top 22
abbrev s_is_primitive : Stmt := top 23
abbrev s_distance_of : Stmt := top 26
abbrev s_nearest : Stmt := top 27
abbrev s_check_pair : Stmt := top 28
abbrev s_divided_left : Stmt := top 29
abbrev s_left_quotient : Stmt := top 30
abbrev s_steps_of : Stmt := top 32
abbrev s_check_some : Stmt := top 33
abbrev s_left_common : Stmt := top 34
abbrev s_whole_primes : Stmt := top 37
abbrev s_prime_list : Stmt := top 38
abbrev s_check_order : Stmt := top 39
abbrev s_left_prime : Stmt := top 40
abbrev s_row_of : Stmt := top 41
abbrev s_shown : Stmt := top 46
abbrev s_is_integer : Stmt := top 47
abbrev s_line_of : Stmt := top 50
abbrev s_row_text : Stmt := top 51
abbrev s_is_line : Stmt := top 52
abbrev s_part_of : Stmt := top 53
abbrev s_parse_row : Stmt := top 54
abbrev s_is_canonical_prime : Stmt := top 55
abbrev s_check_text : Stmt := top 56
abbrev s_law_row : Stmt := top 58
abbrev s_law_numbers : Stmt := top 59
abbrev s_law_times : Stmt := top 63
abbrev s_law_conjugate : Stmt := top 64
abbrev s_law_size : Stmt := top 65
abbrev s_law_units : Stmt := top 66
abbrev s_law_best : Stmt := top 67
abbrev s_law_is_prime : Stmt := top 68
abbrev s_law_prime : Stmt := top 69
abbrev s_law_product : Stmt := top 70
abbrev s_law_right : Stmt := top 71
abbrev s_law_changed : Stmt := top 72
abbrev s_law : Stmt := top 73
abbrev FnP (K : PySem.W.Frag) (x : Str) (st : Stmt) (f : Addr) (fd : FuncData) : Prop := FunD K x x (defArgs st) (defBody st) (defScope st) [] [] f fd
end TP

/-! The head's facts and run. Printed by genhead.py. -/
namespace TP
open PySem PySem.Spec PyProof.Rows L2
def d_is_number : He.DefD := ⟨("is_number", none), "is_number", "is_number", defArgs s_is_number, defBody s_is_number, defScope s_is_number, [], []⟩
def d_check_number : He.DefD := ⟨("check_number", none), "check_number", "check_number", defArgs s_check_number, defBody s_check_number, defScope s_check_number, [], []⟩
def d_check_not_zero : He.DefD := ⟨("check_not_zero", none), "check_not_zero", "check_not_zero", defArgs s_check_not_zero, defBody s_check_not_zero, defScope s_check_not_zero, [], []⟩
def d_conjugate : He.DefD := ⟨("conjugate", none), "conjugate", "conjugate", defArgs s_conjugate, defBody s_conjugate, defScope s_conjugate, [], []⟩
def d_norm : He.DefD := ⟨("norm", none), "norm", "norm", defArgs s_norm, defBody s_norm, defScope s_norm, [], []⟩
def d_less : He.DefD := ⟨("less", none), "less", "less", defArgs s_less, defBody s_less, defScope s_less, [], []⟩
def d_product : He.DefD := ⟨("product", none), "product", "product", defArgs s_product, defBody s_product, defScope s_product, [], []⟩
def d_product_of : He.DefD := ⟨("product_of", none), "product_of", "product_of", defArgs s_product_of, defBody s_product_of, defScope s_product_of, [], []⟩
def d_units : He.DefD := ⟨("units", none), "units", "units", defArgs s_units, defBody s_units, defScope s_units, [], []⟩
def d_is_unit : He.DefD := ⟨("is_unit", none), "is_unit", "is_unit", defArgs s_is_unit, defBody s_is_unit, defScope s_is_unit, [], []⟩
def d_associates : He.DefD := ⟨("associates", none), "associates", "associates", defArgs s_associates, defBody s_associates, defScope s_associates, [], []⟩
def d_canonical : He.DefD := ⟨("canonical", none), "canonical", "canonical", defArgs s_canonical, defBody s_canonical, defScope s_canonical, [], []⟩
def d_content : He.DefD := ⟨("content", none), "content", "content", defArgs s_content, defBody s_content, defScope s_content, [], []⟩
def d_is_primitive : He.DefD := ⟨("is_primitive", none), "is_primitive", "is_primitive", defArgs s_is_primitive, defBody s_is_primitive, defScope s_is_primitive, [], []⟩
def d_distance_of : He.DefD := ⟨("distance_of", none), "distance_of", "distance_of", defArgs s_distance_of, defBody s_distance_of, defScope s_distance_of, [], []⟩
def d_nearest : He.DefD := ⟨("nearest", none), "nearest", "nearest", defArgs s_nearest, defBody s_nearest, defScope s_nearest, [], []⟩
def d_check_pair : He.DefD := ⟨("check_pair", none), "check_pair", "check_pair", defArgs s_check_pair, defBody s_check_pair, defScope s_check_pair, [], []⟩
def d_divided_left : He.DefD := ⟨("divided_left", none), "divided_left", "divided_left", defArgs s_divided_left, defBody s_divided_left, defScope s_divided_left, [], []⟩
def d_left_quotient : He.DefD := ⟨("left_quotient", none), "left_quotient", "left_quotient", defArgs s_left_quotient, defBody s_left_quotient, defScope s_left_quotient, [], []⟩
def d_steps_of : He.DefD := ⟨("steps_of", none), "steps_of", "steps_of", defArgs s_steps_of, defBody s_steps_of, defScope s_steps_of, [], []⟩
def d_check_some : He.DefD := ⟨("check_some", none), "check_some", "check_some", defArgs s_check_some, defBody s_check_some, defScope s_check_some, [], []⟩
def d_left_common : He.DefD := ⟨("left_common", none), "left_common", "left_common", defArgs s_left_common, defBody s_left_common, defScope s_left_common, [], []⟩
def d_whole_primes : He.DefD := ⟨("whole_primes", none), "whole_primes", "whole_primes", defArgs s_whole_primes, defBody s_whole_primes, defScope s_whole_primes, [], []⟩
def d_prime_list : He.DefD := ⟨("prime_list", none), "prime_list", "prime_list", defArgs s_prime_list, defBody s_prime_list, defScope s_prime_list, [], []⟩
def d_check_order : He.DefD := ⟨("check_order", none), "check_order", "check_order", defArgs s_check_order, defBody s_check_order, defScope s_check_order, [], []⟩
def d_left_prime : He.DefD := ⟨("left_prime", none), "left_prime", "left_prime", defArgs s_left_prime, defBody s_left_prime, defScope s_left_prime, [], []⟩
def d_row_of : He.DefD := ⟨("row_of", none), "row_of", "row_of", defArgs s_row_of, defBody s_row_of, defScope s_row_of, [], []⟩
def d_shown : He.DefD := ⟨("shown", none), "shown", "shown", defArgs s_shown, defBody s_shown, defScope s_shown, [], []⟩
def d_is_integer : He.DefD := ⟨("is_integer", none), "is_integer", "is_integer", defArgs s_is_integer, defBody s_is_integer, defScope s_is_integer, [], []⟩
def d_line_of : He.DefD := ⟨("line_of", none), "line_of", "line_of", defArgs s_line_of, defBody s_line_of, defScope s_line_of, [], []⟩
def d_row_text : He.DefD := ⟨("row_text", none), "row_text", "row_text", defArgs s_row_text, defBody s_row_text, defScope s_row_text, [], []⟩
def d_is_line : He.DefD := ⟨("is_line", none), "is_line", "is_line", defArgs s_is_line, defBody s_is_line, defScope s_is_line, [], []⟩
def d_part_of : He.DefD := ⟨("part_of", none), "part_of", "part_of", defArgs s_part_of, defBody s_part_of, defScope s_part_of, [], []⟩
def d_parse_row : He.DefD := ⟨("parse_row", none), "parse_row", "parse_row", defArgs s_parse_row, defBody s_parse_row, defScope s_parse_row, [], []⟩
def d_is_canonical_prime : He.DefD := ⟨("is_canonical_prime", none), "is_canonical_prime", "is_canonical_prime", defArgs s_is_canonical_prime, defBody s_is_canonical_prime, defScope s_is_canonical_prime, [], []⟩
def d_check_text : He.DefD := ⟨("check_text", none), "check_text", "check_text", defArgs s_check_text, defBody s_check_text, defScope s_check_text, [], []⟩
def d_law_row : He.DefD := ⟨("_law_row", none), "_law_row", "_law_row", defArgs s_law_row, defBody s_law_row, defScope s_law_row, [], []⟩
def d_law_numbers : He.DefD := ⟨("_law_numbers", none), "_law_numbers", "_law_numbers", defArgs s_law_numbers, defBody s_law_numbers, defScope s_law_numbers, [], []⟩
def d_law_times : He.DefD := ⟨("_law_times", none), "_law_times", "_law_times", defArgs s_law_times, defBody s_law_times, defScope s_law_times, [], []⟩
def d_law_conjugate : He.DefD := ⟨("_law_conjugate", none), "_law_conjugate", "_law_conjugate", defArgs s_law_conjugate, defBody s_law_conjugate, defScope s_law_conjugate, [], []⟩
def d_law_size : He.DefD := ⟨("_law_size", none), "_law_size", "_law_size", defArgs s_law_size, defBody s_law_size, defScope s_law_size, [], []⟩
def d_law_units : He.DefD := ⟨("_law_units", none), "_law_units", "_law_units", defArgs s_law_units, defBody s_law_units, defScope s_law_units, [], []⟩
def d_law_best : He.DefD := ⟨("_law_best", none), "_law_best", "_law_best", defArgs s_law_best, defBody s_law_best, defScope s_law_best, [], []⟩
def d_law_is_prime : He.DefD := ⟨("_law_is_prime", none), "_law_is_prime", "_law_is_prime", defArgs s_law_is_prime, defBody s_law_is_prime, defScope s_law_is_prime, [], []⟩
def d_law_prime : He.DefD := ⟨("_law_prime", none), "_law_prime", "_law_prime", defArgs s_law_prime, defBody s_law_prime, defScope s_law_prime, [], []⟩
def d_law_product : He.DefD := ⟨("_law_product", none), "_law_product", "_law_product", defArgs s_law_product, defBody s_law_product, defScope s_law_product, [], []⟩
def d_law_right : He.DefD := ⟨("_law_right", none), "_law_right", "_law_right", defArgs s_law_right, defBody s_law_right, defScope s_law_right, [], []⟩
def d_law_changed : He.DefD := ⟨("_law_changed", none), "_law_changed", "_law_changed", defArgs s_law_changed, defBody s_law_changed, defScope s_law_changed, [], []⟩
def d_law : He.DefD := ⟨("law", none), "law", "law", defArgs s_law, defBody s_law, defScope s_law, [], []⟩
def fn : List He.DefD := [d_is_number, d_check_number, d_check_not_zero, d_conjugate, d_norm, d_less, d_product, d_product_of, d_units, d_is_unit, d_associates, d_canonical, d_content, d_is_primitive, d_distance_of, d_nearest, d_check_pair, d_divided_left, d_left_quotient, d_steps_of, d_check_some, d_left_common, d_whole_primes, d_prime_list, d_check_order, d_left_prime, d_row_of, d_shown, d_is_integer, d_line_of, d_row_text, d_is_line, d_part_of, d_parse_row, d_is_canonical_prime, d_check_text, d_law_row, d_law_numbers, d_law_times, d_law_conjugate, d_law_size, d_law_units, d_law_best, d_law_is_prime, d_law_prime, d_law_product, d_law_right, d_law_changed, d_law]
def fa0 : List He.Fa := [.glo "is_number", .glo "check_number", .glo "check_not_zero", .glo "conjugate", .glo "norm", .glo "less", .glo "product", .glo "product_of", .glo "units", .glo "is_unit", .glo "associates", .glo "canonical", .glo "content", .glo "is_primitive", .glo "distance_of", .glo "nearest", .glo "check_pair", .glo "divided_left", .glo "left_quotient", .glo "steps_of", .glo "check_some", .glo "left_common", .glo "whole_primes", .glo "prime_list", .glo "check_order", .glo "left_prime", .glo "row_of", .glo "shown", .glo "is_integer", .glo "line_of"]
def fa1 : List He.Fa := [.glo "row_text", .glo "is_line", .glo "part_of", .glo "parse_row", .glo "is_canonical_prime", .glo "check_text", .glo "_law_row", .glo "_law_numbers", .glo "_law_times", .glo "_law_conjugate", .glo "_law_size", .glo "_law_units", .glo "_law_best", .glo "_law_is_prime", .glo "_law_prime", .glo "_law_product", .glo "_law_right", .glo "_law_changed", .glo "law", .free "abs", .free "all", .free "bool", .free "divmod", .free "enumerate", .free "int", .free "isinstance", .free "len", .free "list", .free "max", .free "range"]
def fa2 : List He.Fa := [.free "sorted", .free "str", .free "sum", .free "tuple", .free "zip", .int "PARTS" (4), .int "MOST_VALUE" (10 ^ 12), .int "MOST_NORM" (10 ^ 12), .int "BASE" (10 ^ 60), .int "MOST_DIGITS" (200), .str "DIGITS" "0123456789"]
def fa : List He.Fa := fa0 ++ fa1 ++ fa2
def tupB (K : PySem.W.Frag) (x : Str) (ns : List Int) : Bool := match PySem.W.nsIn K mainGlobals x with
  | some (some (.ref a)) => (match K.lookup a with
    | some ⟨.type "tuple", _, .seq its _, _⟩ => decide (its.size ≤ 100) && He.relAll (ns.map V.int) its.toList
    | _ => false)
  | _ => false
def exB (K : PySem.W.Frag) : Bool := tupB K "ZERO_numbers" [0, 0, 0, 0] && tupB K "ONE" [2, 0, 0, 0] && tupB K "ZERO_dividing" [0, 0, 0, 0] && He.eqO (PySem.W.nsIn K mainGlobals "gcd") (some (some (.builtin "math.gcd")))
def lo0 : List PySem.Str := ["TurnprimesError", "InvalidNumber", "InvalidPaper", "InvalidQuestion", "ZERO_numbers", "ONE", "PARTS", "is_number", "check_number", "check_not_zero", "conjugate", "norm", "less", "product", "product_of", "units", "is_unit", "associates", "canonical", "content", "is_primitive", "ZERO_dividing", "distance_of", "nearest", "check_pair", "divided_left", "left_quotient", "steps_of", "check_some", "left_common"]
def lo1 : List PySem.Str := ["MOST_VALUE", "whole_primes", "prime_list", "check_order", "left_prime", "row_of", "DIGITS", "MOST_DIGITS", "BASE", "shown", "is_integer", "MOST_NORM", "line_of", "row_text", "is_line", "part_of", "parse_row", "is_canonical_prime", "check_text", "_law_row", "_law_numbers", "_law_part", "_law_number", "_law_small", "_law_times", "_law_conjugate", "_law_size", "_law_units", "_law_best", "_law_is_prime"]
def lo2 : List PySem.Str := ["_law_prime", "_law_product", "_law_right", "_law_changed"]
def lo : List PySem.Str := lo0 ++ lo1 ++ lo2
abbrev R : PySem.W.OpenRow := PySem.W.OpenLaw.row PySem.Challenge.rw_turnprimes_k63_whole_checked_rows
abbrev qv : Program := PySem.W.view R.prog [0, 73]
abbrev hk : PySem.W.Hook := He.hookX 4 fa fn [] [] exB
def ob (s : PySem.W.SharedT) : He.AlX := He.obsX 4 fa fn [] [] exB (HandSHeadRun.getT s)
theorem ob_eq (s : PySem.W.SharedT) : ob s = hk.obs s.abs := He.obsX_eq (HandSHeadRun.getT_eq s)
theorem run (w : World) : HandSHeadRun.RunEqI R qv hk ob 8000 lo w := by
  unfold HandSHeadRun.RunEqI
  kernel_rfl
end TP

/-! The data layer: a value at a heap as data; heapless judgements over the readings of HandS. -/
namespace TP
open PySem L2

/-! ### heaps that grow -/
def Ex (H H' : Hp) : Prop := ∀ a o, H a = some o → H' a = some o
theorem Ex.refl (H : Hp) : Ex H H := fun _ _ h => h
theorem Ex.trans {H H1 H2 : Hp} (a : Ex H H1) (b : Ex H1 H2) : Ex H H2 := fun x o h => b x o (a x o h)
theorem Ex.new {H : Hp} {p : Addr} {o : HO} (h : H p = none) : Ex H (upd H p o) := fun a u e => by
  rw [upd_ne (ne_of_none e h)]
  exact e
theorem Ex.free {H H' : Hp} (e : Ex H H') {p : Addr} (h : H' p = none) : H p = none := by
  cases h1 : H p with
  | none => rfl
  | some o =>
    rw [e p o h1] at h
    cases h
theorem Ex.rd {H H' : Hp} {a : Addr} {u : HO} (e : Ex H H') (h : Rd H a u) : Rd H' a u := by
  rcases h with h | ⟨o, h⟩
  · exact .inl (e a _ h)
  · exact .inr ⟨o, e a _ h⟩
theorem Ex.sql {K : PySem.W.Frag} {H H' : Hp} {a : Addr} {xs : List V} (e : Ex H H') (h : SqL K H a xs) : SqL K H' a xs := by
  rcases h with h | h
  · exact .inl (e.rd h)
  · exact .inr h
theorem Ex.sqt {K : PySem.W.Frag} {H H' : Hp} {a : Addr} {xs : List V} (e : Ex H H') (h : SqT K H a xs) : SqT K H' a xs := by
  rcases h with h | h
  · exact .inl (e.rd h)
  · exact .inr h
theorem sql_of {K : PySem.W.Frag} {H : Hp} {a : Addr} {xs : List V} (h : H a = some (.lst xs)) : SqL K H a xs := .inl (.inl h)
theorem sqt_of {K : PySem.W.Frag} {H : Hp} {a : Addr} {xs : List V} (h : H a = some (.tup xs)) : SqT K H a xs := .inl (.inl h)
theorem le_line {n : Nat} (h : n ≤ 100000) : n ≤ sizeLine := Nat.le_trans h (by decide)
theorem lt_line {n : Nat} (h : n < 100000) : n < sizeLine := Nat.lt_of_lt_of_le h (by decide)

/-! ### a value as data -/
mutual
inductive Rp (K : PySem.W.Frag) (H : Hp) : V → PyData → Prop
  | non : Rp K H .non .none
  | bl (b : Bool) : Rp K H (.bl b) (.bool b)
  | int (i : Int) : Rp K H (.int i) (.int i)
  | str (x : Str) : Rp K H (.str x) (.str x)
  | lst {a : Addr} {xs : List V} {ds : List PyData} : H a = some (.lst xs) → RpL K H xs ds → Rp K H (.ref a) (.list ds)
  | tup {a : Addr} {xs : List V} {ds : List PyData} : SqT K H a xs → RpL K H xs ds → Rp K H (.ref a) (.tuple ds)
inductive RpL (K : PySem.W.Frag) (H : Hp) : List V → List PyData → Prop
  | nil : RpL K H [] []
  | cons {v : V} {vs : List V} {d : PyData} {ds : List PyData} : Rp K H v d → RpL K H vs ds → RpL K H (v :: vs) (d :: ds)
end
section
variable {K : PySem.W.Frag} {H H' : Hp}
mutual
theorem Rp.mono (e : Ex H H') : ∀ (d : PyData) (v : V), Rp K H v d → Rp K H' v d
  | .none, _, h => by
    cases h
    exact .non
  | .bool b, _, h => by
    cases h
    exact .bl b
  | .int i, _, h => by
    cases h
    exact .int i
  | .str x, _, h => by
    cases h
    exact .str x
  | .list ds, _, h => by
    cases h with
    | lst hs ha => exact .lst (e _ _ hs) (RpL.mono e ds _ ha)
  | .tuple ds, _, h => by
    cases h with
    | tup hs ha => exact .tup (e.sqt hs) (RpL.mono e ds _ ha)
  | .dict _, _, h => by cases h
theorem RpL.mono (e : Ex H H') : ∀ (ds : List PyData) (vs : List V), RpL K H vs ds → RpL K H' vs ds
  | [], _, h => by
    cases h
    exact .nil
  | d :: ds, _, h => by
    cases h with
    | cons h1 h2 => exact .cons (Rp.mono e d _ h1) (RpL.mono e ds _ h2)
end
theorem Rp.up {v : V} {d : PyData} (h : Rp K H v d) (e : Ex H H') : Rp K H' v d := Rp.mono e d v h
theorem RpL.up {vs : List V} {ds : List PyData} (h : RpL K H vs ds) (e : Ex H H') : RpL K H' vs ds := RpL.mono e ds vs h
mutual
theorem Rp.dpA : ∀ (d : PyData) (v : V), Rp K H v d → Dp K H v d
  | .none, _, h => by
    cases h
    exact .non
  | .bool b, _, h => by
    cases h
    exact .bl b
  | .int i, _, h => by
    cases h
    exact .int i
  | .str x, _, h => by
    cases h
    exact .str x
  | .list ds, _, h => by
    cases h with
    | lst hs ha => exact .lst (sql_of hs) (RpL.dpA ds _ ha)
  | .tuple ds, _, h => by
    cases h with
    | tup hs ha => exact .tup hs (RpL.dpA ds _ ha)
  | .dict _, _, h => by cases h
theorem RpL.dpA : ∀ (ds : List PyData) (vs : List V), RpL K H vs ds → DpAll K H vs ds
  | [], _, h => by
    cases h
    exact .nil
  | d :: ds, _, h => by
    cases h with
    | cons h1 h2 => exact .cons (Rp.dpA d _ h1) (RpL.dpA ds _ h2)
end
theorem Rp.dp {v : V} {d : PyData} (h : Rp K H v d) : Dp K H v d := Rp.dpA d v h
theorem Rp.of_int {v : V} {i : Int} (h : Rp K H v (.int i)) : v = .int i := by
  cases h
  rfl
theorem Rp.of_str {v : V} {x : Str} (h : Rp K H v (.str x)) : v = .str x := by
  cases h
  rfl
theorem Rp.of_bl {v : V} {b : Bool} (h : Rp K H v (.bool b)) : v = .bl b := by
  cases h
  rfl
theorem Rp.of_non {v : V} (h : Rp K H v .none) : v = .non := by
  cases h
  rfl
theorem Rp.of_lst {v : V} {ds : List PyData} (h : Rp K H v (.list ds)) : ∃ a xs, v = .ref a ∧ H a = some (.lst xs) ∧ RpL K H xs ds := by
  cases h with
  | lst h1 h2 => exact ⟨_, _, rfl, h1, h2⟩
theorem Rp.of_tup {v : V} {ds : List PyData} (h : Rp K H v (.tuple ds)) : ∃ a xs, v = .ref a ∧ SqT K H a xs ∧ RpL K H xs ds := by
  cases h with
  | tup h1 h2 => exact ⟨_, _, rfl, h1, h2⟩
theorem RpL.length : ∀ {vs : List V} {ds : List PyData}, RpL K H vs ds → vs.length = ds.length
  | _, _, .nil => rfl
  | _, _, .cons _ t => congrArg Nat.succ (RpL.length t)
theorem RpL.get : ∀ {vs : List V} {ds : List PyData} {i : Nat} {v : V}, RpL K H vs ds → vs[i]? = some v → ∃ d, ds[i]? = some d ∧ Rp K H v d
  | _, _, _, _, .nil, e => by simp at e
  | _, _, 0, _, .cons r _, e => by
    simp at e
    subst e
    exact ⟨_, rfl, r⟩
  | _, _, i + 1, _, .cons _ t, e => RpL.get (i := i) t e
theorem RpL.got : ∀ {vs : List V} {ds : List PyData} {i : Nat} {d : PyData}, RpL K H vs ds → ds[i]? = some d → ∃ v, vs[i]? = some v ∧ Rp K H v d
  | _, _, _, _, .nil, e => by simp at e
  | _, _, 0, _, .cons r _, e => by
    simp at e
    subst e
    exact ⟨_, rfl, r⟩
  | _, _, i + 1, _, .cons _ t, e => RpL.got (i := i) t e
theorem RpL.append : ∀ {vs ws : List V} {ds es : List PyData}, RpL K H vs ds → RpL K H ws es → RpL K H (vs ++ ws) (ds ++ es)
  | _, _, _, _, .nil, s => s
  | _, _, _, _, .cons r t, s => .cons r (RpL.append t s)
theorem RpL.take : ∀ {vs : List V} {ds : List PyData} (n : Nat), RpL K H vs ds → RpL K H (vs.take n) (ds.take n)
  | _, _, 0, _ => .nil
  | _, _, _ + 1, .nil => .nil
  | _, _, n + 1, .cons r t => .cons r (RpL.take n t)
theorem RpL.drop : ∀ {vs : List V} {ds : List PyData} (n : Nat), RpL K H vs ds → RpL K H (vs.drop n) (ds.drop n)
  | _, _, 0, r => r
  | _, _, _ + 1, .nil => .nil
  | _, _, n + 1, .cons _ t => RpL.drop n t
theorem RpL.rev {vs : List V} {ds : List PyData} (h : RpL K H vs ds) : RpL K H vs.reverse ds.reverse := by
  induction vs generalizing ds with
  | nil =>
    cases h
    exact .nil
  | cons v vs ih =>
    cases h with
    | cons h1 h2 =>
      rw [List.reverse_cons, List.reverse_cons]
      exact RpL.append (ih h2) (.cons h1 .nil)
theorem RpL.set : ∀ {vs : List V} {ds : List PyData} {v : V} {d : PyData} (n : Nat), RpL K H vs ds → Rp K H v d → RpL K H (vs.set n v) (ds.set n d)
  | _, _, _, _, _, .nil, _ => .nil
  | _, _, _, _, 0, .cons _ t, q => .cons q t
  | _, _, _, _, n + 1, .cons r t, q => .cons r (RpL.set n t q)
theorem RpL.ints : ∀ {vs : List V} {ns : List Int}, RpL K H vs (ns.map .int) → vs = ns.map V.int
  | _, [], h => by
    cases h
    rfl
  | _, n :: ns, h => by
    cases h with
    | cons h1 h2 => rw [h1.of_int, RpL.ints h2, List.map_cons]
theorem RpL.of_ints : ∀ (ns : List Int), RpL K H (ns.map V.int) (ns.map .int)
  | [] => .nil
  | n :: ns => .cons (.int n) (RpL.of_ints ns)
theorem RpL.strs : ∀ {vs : List V} {ns : List Str}, RpL K H vs (ns.map .str) → vs = ns.map V.str
  | _, [], h => by
    cases h
    rfl
  | _, n :: ns, h => by
    cases h with
    | cons h1 h2 => rw [h1.of_str, RpL.strs h2, List.map_cons]
theorem RpL.of_strs : ∀ (ns : List Str), RpL K H (ns.map V.str) (ns.map .str)
  | [] => .nil
  | n :: ns => .cons (.str n) (RpL.of_strs ns)
theorem RpL.bls : ∀ {vs : List V} {ns : List Bool}, RpL K H vs (ns.map .bool) → vs = ns.map V.bl
  | _, [], h => by
    cases h
    rfl
  | _, n :: ns, h => by
    cases h with
    | cons h1 h2 => rw [h1.of_bl, RpL.bls h2, List.map_cons]
end

/-! ### a state: the heap H, the part F of it that stays as it is; own lists stand in H, not in F -/
structure Step (F H F' H' : Hp) : Prop where
  f : Ex F F'
  h : Ex H H'
  i : Ex F' H'
  s : ∀ a, F a = none → H a ≠ none → F' a = none
section
variable {F H F' H' F'' H'' : Hp} {p : Addr} {o : HO}
theorem Step.refl (i : Ex F H) : Step F H F H := ⟨Ex.refl F, Ex.refl H, i, fun _ h _ => h⟩
theorem Step.trans (a : Step F H F' H') (b : Step F' H' F'' H'') : Step F H F'' H'' :=
  ⟨a.f.trans b.f, a.h.trans b.h, b.i, fun x h1 h2 => b.s x (a.s x h1 h2) fun z => by
    cases q : H x with
    | none => exact h2 q
    | some o => rw [a.h x o q] at z; cases z⟩
theorem Step.new (i : Ex F H) (h : H p = none) : Step F H (upd F p o) (upd H p o) := by
  have fp : F p = none := i.free h
  refine ⟨Ex.new fp, Ex.new h, fun a u e => ?_, fun a h1 h2 => ?_⟩
  · by_cases q : a = p
    · subst q
      rw [upd_same] at e ⊢
      exact e
    · rw [upd_ne q] at e ⊢
      exact i a u e
  · have q : a ≠ p := fun z => h2 (by rw [z]; exact h)
    rw [upd_ne q]
    exact h1
/-- an own list is made -/
theorem Step.made (i : Ex F H) (h : H p = none) : Step F H F (upd H p o) := ⟨Ex.refl F, Ex.new h, i.trans (Ex.new h), fun _ h _ => h⟩
/-- an own thing is known from now on -/
theorem Step.freeze (s : Step F H F' H') (h0 : H p = none) (f : F' p = none) (e : H' p = some o) : Step F H (upd F' p o) H' := by
  refine ⟨s.f.trans (Ex.new f), s.h, fun a u q => ?_, fun a h1 h2 => ?_⟩
  · by_cases z : a = p
    · subst z
      rw [upd_same] at q
      rw [e]
      exact q
    · rw [upd_ne z] at q
      exact s.i a u q
  · have q : a ≠ p := fun z => h2 (by rw [z]; exact h0)
    rw [upd_ne q]
    exact s.s a h1 h2
/-- an own thing is changed -/
theorem Step.mut (s : Step F H F' H') (h0 : H p = none) (f : F' p = none) : Step F H F' (upd H' p o) :=
  ⟨s.f, fun a u e => by rw [upd_ne (ne_of_none e h0)]; exact s.h a u e, fun a u e => by rw [upd_ne (ne_of_none e f)]; exact s.i a u e, s.s⟩
end

/-! ### environments -/
inductive Bd where
  | val (d : PyData)
  | own (ds : List PyData)
abbrev En := List (Option Bd)
def BdOk (K : PySem.W.Frag) (H0 F H : Hp) (σ : L2.St) (i : Nat) : Bd → Prop
  | .val d => ∃ v, σ[i]? = some (some v) ∧ Rp K F v d
  | .own ds => ∃ p vs, σ[i]? = some (some (.ref p)) ∧ H0 p = none ∧ F p = none ∧ H p = some (.lst vs) ∧ RpL K F vs ds
structure EnvOk (K : PySem.W.Frag) (H0 F H : Hp) (σ : L2.St) (env : En) : Prop where
  len : σ.length = env.length
  get : ∀ (i : Nat) (b : Bd), env[i]? = some (some b) → BdOk K H0 F H σ i b
  dis : ∀ (i j : Nat) (ds es : List PyData) (p : Addr), env[i]? = some (some (.own ds)) → env[j]? = some (some (.own es)) → σ[i]? = some (some (.ref p)) → σ[j]? = some (some (.ref p)) → i = j
section
variable {K : PySem.W.Frag} {H0 F H F' H' : Hp} {σ : L2.St} {env : En}
theorem BdOk.step {i : Nat} : ∀ {b : Bd}, BdOk K H0 F H σ i b → Step F H F' H' → BdOk K H0 F' H' σ i b
  | .val _, ⟨v, h1, h2⟩, s => ⟨v, h1, h2.up s.f⟩
  | .own _, ⟨p, vs, h1, h2, h3, h4, h5⟩, s => ⟨p, vs, h1, h2, s.s p h3 (by rw [h4]; intro z; cases z), s.h _ _ h4, h5.up s.f⟩
theorem EnvOk.step (e : EnvOk K H0 F H σ env) (s : Step F H F' H') : EnvOk K H0 F' H' σ env := ⟨e.len, fun i b h => (e.get i b h).step s, e.dis⟩
theorem EnvOk.val {i : Nat} {d : PyData} (e : EnvOk K H0 F H σ env) (h : env[i]? = some (some (.val d))) : ∃ v, σ[i]? = some (some v) ∧ Rp K F v d := e.get i _ h
theorem EnvOk.own {i : Nat} {ds : List PyData} (e : EnvOk K H0 F H σ env) (h : env[i]? = some (some (.own ds))) : ∃ p vs, σ[i]? = some (some (.ref p)) ∧ H0 p = none ∧ F p = none ∧ H p = some (.lst vs) ∧ RpL K F vs ds := e.get i _ h
theorem EnvOk.set {i : Nat} {v : V} {d : PyData} (e : EnvOk K H0 F H σ env) (h : Rp K F v d) : EnvOk K H0 F H (σ.set i (some v)) (env.set i (some (.val d))) := by
  refine ⟨by rw [List.length_set, List.length_set]; exact e.len, fun j b hj => ?_, fun j k ds es p hj hk sj sk => ?_⟩
  · by_cases q : i = j
    · subst q
      by_cases hl : i < env.length
      · rw [List.getElem?_set_self hl] at hj
        cases hj
        exact ⟨v, by rw [List.getElem?_set_self (by rw [e.len]; exact hl)], h⟩
      · rw [List.getElem?_eq_none (by rw [List.length_set]; omega)] at hj
        cases hj
    · rw [List.getElem?_set_ne q] at hj
      have z := e.get j b hj
      cases b with
      | val d => exact ⟨z.choose, by rw [List.getElem?_set_ne q]; exact z.choose_spec.1, z.choose_spec.2⟩
      | own ds =>
        obtain ⟨p, vs, h1, h2⟩ := z
        exact ⟨p, vs, by rw [List.getElem?_set_ne q]; exact h1, h2⟩
  · have nj : i ≠ j := fun z => by
      subst z
      by_cases hl : i < env.length
      · rw [List.getElem?_set_self hl] at hj
        cases hj
      · rw [List.getElem?_eq_none (by rw [List.length_set]; omega)] at hj
        cases hj
    have nk : i ≠ k := fun z => by
      subst z
      by_cases hl : i < env.length
      · rw [List.getElem?_set_self hl] at hk
        cases hk
      · rw [List.getElem?_eq_none (by rw [List.length_set]; omega)] at hk
        cases hk
    rw [List.getElem?_set_ne nj] at hj sj
    rw [List.getElem?_set_ne nk] at hk sk
    exact e.dis j k ds es p hj hk sj sk
/-- a new own list is given a name -/
theorem EnvOk.setOwn {i : Nat} {p : Addr} {vs : List V} {ds : List PyData} (e : EnvOk K H0 F H σ env) (hn : ∀ (j : Nat) (es : List PyData), env[j]? = some (some (.own es)) → σ[j]? ≠ some (some (.ref p))) (h0 : H0 p = none) (hf : F p = none) (hh : H p = some (.lst vs)) (h : RpL K F vs ds) :
    EnvOk K H0 F H (σ.set i (some (.ref p))) (env.set i (some (.own ds))) := by
  have cas : ∀ {j : Nat} {b : Bd}, (env.set i (some (.own ds)))[j]? = some (some b) → (j = i ∧ b = .own ds ∧ (σ.set i (some (V.ref p)))[j]? = some (some (.ref p))) ∨ (i ≠ j ∧ env[j]? = some (some b) ∧ (σ.set i (some (V.ref p)))[j]? = σ[j]?) := fun {j b} hj => by
    by_cases q : i = j
    · subst q
      by_cases hl : i < env.length
      · rw [List.getElem?_set_self hl] at hj
        cases hj
        exact .inl ⟨rfl, rfl, by rw [List.getElem?_set_self (by rw [e.len]; exact hl)]⟩
      · rw [List.getElem?_eq_none (by rw [List.length_set]; omega)] at hj
        cases hj
    · rw [List.getElem?_set_ne q] at hj
      exact .inr ⟨q, hj, List.getElem?_set_ne q⟩
  refine ⟨by rw [List.length_set, List.length_set]; exact e.len, fun j b hj => ?_, fun j k es fs q hj hk sj sk => ?_⟩
  · rcases cas hj with ⟨_, rfl, s⟩ | ⟨_, hj', s⟩
    · exact ⟨p, vs, s, h0, hf, hh, h⟩
    · have z := e.get j b hj'
      cases b with
      | val d => exact ⟨z.choose, by rw [s]; exact z.choose_spec.1, z.choose_spec.2⟩
      | own ds =>
        obtain ⟨p, vs, h1, h2⟩ := z
        exact ⟨p, vs, by rw [s]; exact h1, h2⟩
  · rcases cas hj with ⟨rfl, _, s⟩ | ⟨nj, hj', s⟩
    · rcases cas hk with ⟨rfl, _, s'⟩ | ⟨nk, hk', s'⟩
      · rfl
      · rw [s] at sj
        cases sj
        rw [s'] at sk
        exact absurd sk (hn k _ hk')
    · rcases cas hk with ⟨rfl, _, s'⟩ | ⟨nk, hk', s'⟩
      · rw [s'] at sk
        cases sk
        rw [s] at sj
        exact absurd sj (hn j _ hj')
      · rw [s] at sj
        rw [s'] at sk
        exact e.dis j k es fs q hj' hk' sj sk
/-- an own list is changed in its place -/
theorem EnvOk.mut {i : Nat} {p : Addr} {vs : List V} {ds es : List PyData} (e : EnvOk K H0 F H σ env) (hi : env[i]? = some (some (.own es))) (hs : σ[i]? = some (some (.ref p))) (hf : F p = none) (h : RpL K F vs ds) :
    EnvOk K H0 F (upd H p (.lst vs)) σ (env.set i (some (.own ds))) := by
  obtain ⟨p', vs', h1, h2, h3, h4, h5⟩ := e.own hi
  rw [hs] at h1
  cases h1
  have hl : i < env.length := (List.getElem?_eq_some_iff.mp hi).1
  refine ⟨by rw [List.length_set]; exact e.len, fun j b hj => ?_, fun j k fs gs q hj hk sj sk => ?_⟩
  · by_cases q : i = j
    · subst q
      rw [List.getElem?_set_self hl] at hj
      cases hj
      exact ⟨p, vs, hs, h2, hf, upd_same, h⟩
    · rw [List.getElem?_set_ne q] at hj
      have z := e.get j b hj
      cases b with
      | val d => exact z
      | own fs =>
        obtain ⟨p', vs', g1, g2, g3, g4, g5⟩ := z
        have ne : p' ≠ p := fun z => q (by
          subst z
          exact e.dis i j _ _ _ hi hj hs g1)
        exact ⟨p', vs', g1, g2, g3, by rw [upd_ne ne]; exact g4, g5⟩
  · have old : ∀ {j : Nat} {fs : List PyData}, (env.set i (some (.own ds)))[j]? = some (some (.own fs)) → ∃ fs', env[j]? = some (some (.own fs')) := fun {j fs} hj => by
      by_cases q : i = j
      · subst q
        exact ⟨_, hi⟩
      · rw [List.getElem?_set_ne q] at hj
        exact ⟨_, hj⟩
    obtain ⟨_, a⟩ := old hj
    obtain ⟨_, b⟩ := old hk
    exact e.dis j k _ _ q a b sj sk
/-- an own list is known from now on -/
theorem EnvOk.freeze {i : Nat} {ds : List PyData} (e : EnvOk K H0 F H σ env) (hi : env[i]? = some (some (.own ds))) :
    ∃ p vs, H0 p = none ∧ F p = none ∧ H p = some (.lst vs) ∧ EnvOk K H0 (upd F p (.lst vs)) H σ (env.set i (some (.val (.list ds)))) := by
  obtain ⟨p, vs, h1, h2, h3, h4, h5⟩ := e.own hi
  have hl : i < env.length := (List.getElem?_eq_some_iff.mp hi).1
  have ef : Ex F (upd F p (.lst vs)) := Ex.new h3
  refine ⟨p, vs, h2, h3, h4, by rw [List.length_set]; exact e.len, fun j b hj => ?_, fun j k fs gs q hj hk sj sk => ?_⟩
  · by_cases q : i = j
    · subst q
      rw [List.getElem?_set_self hl] at hj
      cases hj
      exact ⟨.ref p, h1, .lst upd_same (h5.up ef)⟩
    · rw [List.getElem?_set_ne q] at hj
      have z := e.get j b hj
      cases b with
      | val d => exact ⟨z.choose, z.choose_spec.1, z.choose_spec.2.up ef⟩
      | own fs =>
        obtain ⟨p', vs', g1, g2, g3, g4, g5⟩ := z
        have ne : p' ≠ p := fun z => q (by
          subst z
          exact e.dis i j _ _ _ hi hj h1 g1)
        exact ⟨p', vs', g1, g2, by rw [upd_ne ne]; exact g3, g4, g5.up ef⟩
  · have old : ∀ {j : Nat} {fs : List PyData}, (env.set i (some (.val (.list ds))))[j]? = some (some (.own fs)) → env[j]? = some (some (.own fs)) := fun {j fs} hj => by
      by_cases q : i = j
      · subst q
        rw [List.getElem?_set_self hl] at hj
        cases hj
      · rw [List.getElem?_set_ne q] at hj
        exact hj
    exact e.dis j k _ _ q (old hj) (old hk) sj sk
def wipeE (env : En) : List Nat → En
  | [] => env
  | v :: vs => (wipeE env vs).set v none
theorem wipeE_len : ∀ (vs : List Nat), (wipeE env vs).length = env.length
  | [] => rfl
  | v :: vs => by
    unfold wipeE
    rw [List.length_set, wipeE_len vs]
theorem wipeE_some {i : Nat} {b : Bd} : ∀ {vs : List Nat}, (wipeE env vs)[i]? = some (some b) → env[i]? = some (some b) ∧ i ∉ vs
  | [], h => ⟨h, by simp⟩
  | v :: vs, h => by
    unfold wipeE at h
    by_cases hi : v = i
    · subst hi
      by_cases hv : v < (wipeE env vs).length
      · rw [List.getElem?_set_self hv] at h; cases h
      · rw [List.getElem?_eq_none (by simpa using hv)] at h; cases h
    · rw [List.getElem?_set_ne hi] at h
      obtain ⟨h1, h2⟩ := wipeE_some h
      exact ⟨h1, by simp only [List.mem_cons, not_or]; exact ⟨fun e => hi e.symm, h2⟩⟩
theorem EnvOk.wipe {vs : List Nat} (e : EnvOk K H0 F H σ env) : EnvOk K H0 F H (wipe σ vs) (wipeE env vs) := by
  have sl : ∀ {i : Nat}, i ∉ vs → (L2.wipe σ vs)[i]? = σ[i]? := fun h => wipe_out h
  refine ⟨by rw [wipe_length, wipeE_len]; exact e.len, fun i b h => ?_, fun i j ds es p hi hj si sj => ?_⟩
  · obtain ⟨h1, h2⟩ := wipeE_some h
    have z := e.get i b h1
    cases b with
    | val d => exact ⟨z.choose, by rw [sl h2]; exact z.choose_spec.1, z.choose_spec.2⟩
    | own ds =>
      obtain ⟨p, vs', g1, g2⟩ := z
      exact ⟨p, vs', by rw [sl h2]; exact g1, g2⟩
  · obtain ⟨h1, h2⟩ := wipeE_some hi
    obtain ⟨h3, h4⟩ := wipeE_some hj
    rw [sl h2] at si
    rw [sl h4] at sj
    exact e.dis i j ds es p h1 h3 si sj
end
end TP

/-! The judgements and their rules. -/
namespace TP
open PySem L2
section
variable (K : PySem.W.Frag)
def EvE (te : TE) (env : En) (d : PyData) : Prop := ∀ (H0 F H : Hp) (σ : L2.St) (Q : VK), Ex F H → EnvOk K H0 F H σ env → (∀ v F' H', Step F H F' H' → Rp K F' v d → Q v H') → te σ H Q
def TstE (tt : TT) (env : En) (b : Bool) : Prop := ∀ (H0 F H : Hp) (σ : L2.St) (Q : Bool → Hp → Prop), Ex F H → EnvOk K H0 F H σ env → (∀ F' H', Step F H F' H' → Q b H') → tt σ H Q
def ArE (ta : TA) (env : En) (ds : List PyData) : Prop := ∀ (H0 F H : Hp) (σ : L2.St) (Q : List V → Hp → Prop), Ex F H → EnvOk K H0 F H σ env → (∀ vs F' H', Step F H F' H' → RpL K F' vs ds → Q vs H') → ta σ H Q
def PrE (to : TO) (env : En) (o : Option Int) : Prop := ∀ (H0 F H : Hp) (σ : L2.St) (Q : Option Int → Hp → Prop), Ex F H → EnvOk K H0 F H σ env → (∀ F' H', Step F H F' H' → Q o H') → to σ H Q
def OpE (r : R2) (x y z : PyData) : Prop := ∀ (F H : Hp) (v w : V) (Q : VK), Ex F H → Rp K F v x → Rp K F w y → (∀ u F' H', Step F H F' H' → Rp K F' u z → Q u H') → r v w H Q
def UnE (r : V → Hp → VK → Prop) (x z : PyData) : Prop := ∀ (F H : Hp) (v : V) (Q : VK), Ex F H → Rp K F v x → (∀ u F' H', Step F H F' H' → Rp K F' u z → Q u H') → r v H Q
def CbE (r : List V → Hp → VK → Prop) (ds : List PyData) (z : PyData) : Prop := ∀ (F H : Hp) (vs : List V) (Q : VK), Ex F H → RpL K F vs ds → (∀ u F' H', Step F H F' H' → Rp K F' u z → Q u H') → r vs H Q
def SlE (r : V → Option Int → Option Int → Hp → VK → Prop) (x : PyData) (lo hi : Option Int) (z : PyData) : Prop := ∀ (F H : Hp) (v : V) (Q : VK), Ex F H → Rp K F v x → (∀ u F' H', Step F H F' H' → Rp K F' u z → Q u H') → r v lo hi H Q
def MtE (r : V → List V → Hp → VK → Prop) (x : PyData) (ds : List PyData) (z : PyData) : Prop := ∀ (F H : Hp) (v : V) (vs : List V) (Q : VK), Ex F H → Rp K F v x → RpL K F vs ds → (∀ u F' H', Step F H F' H' → Rp K F' u z → Q u H') → r v vs H Q
/-- a new list, not known yet -/
def EvO (te : TE) (env : En) (ds : List PyData) : Prop := ∀ (H0 F H : Hp) (σ : L2.St) (Q : VK), Ex F H → EnvOk K H0 F H σ env → (∀ p vs F' H', Step F H F' H' → H p = none → F' p = none → H' p = some (.lst vs) → RpL K F' vs ds → Q (.ref p) H') → te σ H Q
def TgE (g : TG) (vs : List Nat) (env : En) (d : PyData) (env' : En) : Prop := ∀ (H0 F H : Hp) (σ : L2.St) (v : V) (Q : L2.St → Hp → Prop), Ex F H → EnvOk K H0 F H σ env → Rp K F v d → (∀ σ', EnvOk K H0 F H σ' env' → wipe σ' vs = wipe σ vs → Q σ' H) → g v σ H Q
def TgsE (g : TGs) (vs : List Nat) (env : En) (ds : List PyData) (env' : En) : Prop := ∀ (H0 F H : Hp) (σ : L2.St) (ws : List V) (Q : L2.St → Hp → Prop), Ex F H → EnvOk K H0 F H σ env → RpL K F ws ds → (∀ σ', EnvOk K H0 F H σ' env' → wipe σ' vs = wipe σ vs → Q σ' H) → g ws σ H Q
def Serves (J : It) (F : Hp) (ds : List PyData) : Prop := Walk J ds.length (fun H => Ex F H) (fun i H x H' => ∀ F1, Ex F F1 → Ex F1 H → ∃ F2 d, Step F1 H F2 H' ∧ ds[i]? = some d ∧ Rp K F2 x d)
def ItE (wi : TI) (env : En) (ds : List PyData) : Prop := ∀ (H0 F H : Hp) (σ : L2.St) (R : It → Hp → Prop), Ex F H → EnvOk K H0 F H σ env → (∀ J F' H', Step F H F' H' → Serves K J F' ds → R J H') → wi σ H R
def StE (ts : TS) (env : En) (N : En → Prop) (R : PyData → Prop) : Prop := ∀ (F0 H0 F H : Hp) (σ : L2.St) (D : Ends), Step F0 H0 F H → EnvOk K H0 F H σ env →
  (∀ env' σ' F' H', Ex F F' → Step F0 H0 F' H' → EnvOk K H0 F' H' σ' env' → N env' → D.nx σ' H') →
  (∀ v d F' H', Step F0 H0 F' H' → Rp K F' v d → R d → D.rt v H') → ts D σ H
/-- a def's promise: R of its arguments and its answer -/
def spR (R : List PyData → PyData → Prop) : Sp := fun vs H Q _ => ∃ F ds d, Ex F H ∧ RpL K F vs ds ∧ R ds d ∧ ∀ v F' H', Step F H F' H' → Rp K F' v d → Q v H'
end
section
variable {K : PySem.W.Frag} {env env' : En} {x y z d : PyData} {ds es : List PyData} {ta tb tc te : TE} {tt tu : TT} {b c : Bool} {r r' : R2}

/-! ### expressions -/
theorem e_var {i : Nat} (h : env[i]? = some (some (.val d))) : EvE K (tVar i) env d := fun H0 F H σ Q i ok q =>
  let ⟨v, h1, h2⟩ := ok.val h
  ⟨v, h1, q v F H (Step.refl i) h2⟩
theorem e_int {i : Int} : EvE K (tC (.int i)) env (.int i) := fun _ F H _ _ i _ q => q _ F H (Step.refl i) (.int _)
theorem e_str {s : Str} : EvE K (tC (.str s)) env (.str s) := fun _ F H _ _ i _ q => q _ F H (Step.refl i) (.str _)
theorem e_bl {s : Bool} : EvE K (tC (.bl s)) env (.bool s) := fun _ F H _ _ i _ q => q _ F H (Step.refl i) (.bl _)
theorem e_non : EvE K (tC .non) env .none := fun _ F H _ _ i _ q => q _ F H (Step.refl i) .non
/-- a constant of the module: a tuple of ints -/
theorem e_con {a : Addr} (h : ∀ F, Rp K F (.ref a) d) : EvE K (tC (.ref a)) env d := fun _ F H _ _ i _ q => q _ F H (Step.refl i) (h F)
theorem e_op (ha : EvE K ta env x) (hb : EvE K tb env y) (hr : OpE K r x y z) : EvE K (tOp r ta tb) env z := fun H0 F H σ Q i ok q =>
  ha H0 F H σ _ i ok fun v F1 H1 s1 r1 => hb H0 F1 H1 σ _ s1.i (ok.step s1) fun w F2 H2 s2 r2 => hr F2 H2 v w Q s2.i (r1.up s2.f) r2 fun u F3 H3 s3 r3 => q u F3 H3 ((s1.trans s2).trans s3) r3
theorem e_un {r : V → Hp → VK → Prop} (ha : EvE K ta env x) (hr : UnE K r x z) : EvE K (tUn r ta) env z := fun H0 F H σ Q i ok q =>
  ha H0 F H σ _ i ok fun v F1 H1 s1 r1 => hr F1 H1 v Q s1.i r1 fun u F3 H3 s3 r3 => q u F3 H3 (s1.trans s3) r3
theorem a_nil : ArE K tNil env [] := fun _ F H _ _ i _ q => q [] F H (Step.refl i) .nil
theorem a_cons {t : TA} (ha : EvE K ta env d) (ht : ArE K t env ds) : ArE K (tCons ta t) env (d :: ds) := fun H0 F H σ Q i ok q =>
  ha H0 F H σ _ i ok fun v F1 H1 s1 r1 => ht H0 F1 H1 σ _ s1.i (ok.step s1) fun vs F2 H2 s2 r2 => q _ F2 H2 (s1.trans s2) (.cons (r1.up s2.f) r2)
theorem e_tup {t : TA} (h : ArE K t env ds) (hl : ds.length ≤ 100000 := by decide) : EvE K (tTup t) env (.tuple ds) := fun H0 F H σ Q i ok q =>
  h H0 F H σ _ i ok fun vs F1 H1 s1 r1 => ⟨le_line (by rw [r1.length]; exact hl), fun p hp =>
    have s2 := Step.new (o := .tup vs) s1.i hp
    q _ _ _ (s1.trans s2) (.tup (sqt_of upd_same) (r1.up s2.f))⟩
theorem o_lst {t : TA} (h : ArE K t env ds) (hl : ds.length ≤ 100000 := by decide) : EvO K (tLst t) env ds := fun H0 F H σ Q i ok q =>
  h H0 F H σ _ i ok fun vs F1 H1 s1 r1 => ⟨le_line (by rw [r1.length]; exact hl), fun p hp =>
    q p vs F1 _ (s1.trans (Step.made s1.i hp)) (s1.h.free hp) (s1.i.free hp) upd_same r1⟩
theorem e_own (h : EvO K te env ds) : EvE K te env (.list ds) := fun H0 F H σ Q i ok q =>
  h H0 F H σ _ i ok fun p vs F' H' s h0 hf hh hr => q _ _ _ (s.freeze h0 hf hh) (.lst upd_same (hr.up (Ex.new hf)))
theorem e_lst {t : TA} (h : ArE K t env ds) (hl : ds.length ≤ 100000 := by decide) : EvE K (tLst t) env (.list ds) := e_own (o_lst h hl)
theorem e_call {R : List PyData → PyData → Prop} {E : XK} {t : TA} (ha : ArE K t env ds) (hr : R ds d) : EvE K (tCall (spR K R) [] E t) env d := fun H0 F H σ Q i ok q =>
  ha H0 F H σ _ i ok fun vs F1 H1 s1 r1 => ⟨F1, ds, d, s1.i, by rw [List.append_nil]; exact r1, hr, fun v F' H' s r => q v F' H' (s1.trans s) r⟩
theorem e_cb {r : List V → Hp → VK → Prop} {t : TA} (ha : ArE K t env ds) (hr : CbE K r ds d) : EvE K (tCB r t) env d := fun H0 F H σ Q i ok q =>
  ha H0 F H σ _ i ok fun vs F1 H1 s1 r1 => hr F1 H1 vs Q s1.i r1 fun u F3 H3 s3 r3 => q u F3 H3 (s1.trans s3) r3
theorem e_if (ht : TstE K tt env b) (h1 : b = true → EvE K ta env d) (h2 : b = false → EvE K tb env d) : EvE K (tIf tt ta tb) env d := fun H0 F H σ Q i ok q =>
  ht H0 F H σ _ i ok fun F1 H1 s1 => by
    cases b with
    | true => exact iteT (h1 rfl H0 F1 H1 σ Q s1.i (ok.step s1) fun v F2 H2 s2 r2 => q v F2 H2 (s1.trans s2) r2)
    | false => exact iteF (h2 rfl H0 F1 H1 σ Q s1.i (ok.step s1) fun v F2 H2 s2 r2 => q v F2 H2 (s1.trans s2) r2)
theorem e_and (h1 : EvE K ta env (.bool b)) (h2 : b = true → EvE K tb env (.bool c)) : EvE K (tAndV ta tb) env (.bool (b && c)) := fun H0 F H σ Q i ok q =>
  h1 H0 F H σ _ i ok fun v F1 H1 s1 r1 => ⟨b, r1.of_bl, by
    cases b with
    | true => exact iteT (h2 rfl H0 F1 H1 σ Q s1.i (ok.step s1) fun v F2 H2 s2 r2 => q v F2 H2 (s1.trans s2) r2)
    | false => exact iteF (q _ F1 H1 s1 (.bl false))⟩
theorem e_or (h1 : EvE K ta env (.bool b)) (h2 : b = false → EvE K tb env (.bool c)) : EvE K (tOrV ta tb) env (.bool (b || c)) := fun H0 F H σ Q i ok q =>
  h1 H0 F H σ _ i ok fun v F1 H1 s1 r1 => ⟨b, r1.of_bl, by
    cases b with
    | true => exact iteT (q _ F1 H1 s1 (.bl true))
    | false => exact iteF (h2 rfl H0 F1 H1 σ Q s1.i (ok.step s1) fun v F2 H2 s2 r2 => q v F2 H2 (s1.trans s2) r2)⟩
theorem e_chain (ha : EvE K ta env x) (hb : EvE K tb env y) (h1 : OpE K r x y (.bool b)) (hc : b = true → EvE K tc env z) (h2 : b = true → OpE K r' y z (.bool c)) : EvE K (tChain r r' ta tb tc) env (.bool (b && c)) := fun H0 F H σ Q i ok q =>
  ha H0 F H σ _ i ok fun v F1 H1 s1 r1 => hb H0 F1 H1 σ _ s1.i (ok.step s1) fun w F2 H2 s2 r2 => h1 F2 H2 v w _ s2.i (r1.up s2.f) r2 fun u F3 H3 s3 r3 => ⟨b, r3.of_bl, by
    cases b with
    | true => exact iteT (hc rfl H0 F3 H3 σ _ s3.i (((ok.step s1).step s2).step s3) fun t F4 H4 s4 r4 => h2 rfl F4 H4 w t Q s4.i (r2.up (s3.f.trans s4.f)) r4 fun u F5 H5 s5 r5 => q u F5 H5 ((((s1.trans s2).trans s3).trans s4).trans s5) r5)
    | false => exact iteF (q _ F3 H3 ((s1.trans s2).trans s3) (.bl false))⟩
theorem e_is (h : EvE K te env d) (e : d = x) : EvE K te env x := by
  rw [← e]
  exact h
theorem p_none : PrE K tNoPart env none := fun _ F H _ _ i _ q => q F H (Step.refl i)
theorem p_some {i : Int} (h : EvE K te env (.int i)) : PrE K (tPart te) env (some i) := fun H0 F H σ Q i ok q =>
  h H0 F H σ _ i ok fun v F1 H1 s1 r1 => ⟨_, r1.of_int, q F1 H1 s1⟩
theorem e_sl {r : V → Option Int → Option Int → Hp → VK → Prop} {tl th : TO} {lo hi : Option Int} (h : EvE K te env x) (h1 : PrE K tl env lo) (h2 : PrE K th env hi) (hr : SlE K r x lo hi z) : EvE K (tSl r te tl th) env z := fun H0 F H σ Q i ok q =>
  h H0 F H σ _ i ok fun v F1 H1 s1 r1 => h1 H0 F1 H1 σ _ s1.i (ok.step s1) fun F2 H2 s2 => h2 H0 F2 H2 σ _ s2.i ((ok.step s1).step s2) fun F3 H3 s3 =>
    hr F3 H3 v Q s3.i (r1.up (s2.f.trans s3.f)) fun u F4 H4 s4 r4 => q u F4 H4 (((s1.trans s2).trans s3).trans s4) r4

/-! ### tests -/
theorem t_b (h : EvE K te env (.bool b)) : TstE K (tB te) env b := fun H0 F H σ Q i ok q => h H0 F H σ _ i ok fun v F1 H1 s1 r1 => ⟨b, r1.of_bl, q F1 H1 s1⟩
theorem t_test (h : EvE K te env (.bool b)) : TstE K (tTest te) env b := fun H0 F H σ Q i ok q => h H0 F H σ _ i ok fun v F1 H1 s1 r1 => ⟨b, r1.of_bl, q F1 H1 s1⟩
theorem t_yes : TstE K tYes env true := fun _ F H _ _ i _ q => q F H (Step.refl i)
theorem t_not (h : TstE K tt env b) : TstE K (tNot tt) env (!b) := fun H0 F H σ Q i ok q => h H0 F H σ _ i ok fun F1 H1 s1 => q F1 H1 s1
theorem t_and (h1 : TstE K tt env b) (h2 : b = true → TstE K tu env c) : TstE K (tAnd tt tu) env (b && c) := fun H0 F H σ Q i ok q => h1 H0 F H σ _ i ok fun F1 H1 s1 => by
  cases b with
  | true => exact iteT (h2 rfl H0 F1 H1 σ Q s1.i (ok.step s1) fun F2 H2 s2 => q F2 H2 (s1.trans s2))
  | false => exact iteF (q F1 H1 s1)
theorem t_or (h1 : TstE K tt env b) (h2 : b = false → TstE K tu env c) : TstE K (tOr tt tu) env (b || c) := fun H0 F H σ Q i ok q => h1 H0 F H σ _ i ok fun F1 H1 s1 => by
  cases b with
  | true => exact iteT (q F1 H1 s1)
  | false => exact iteF (h2 rfl H0 F1 H1 σ Q s1.i (ok.step s1) fun F2 H2 s2 => q F2 H2 (s1.trans s2))
theorem t_is (h : TstE K tt env b) (e : b = c) : TstE K tt env c := by
  rw [← e]
  exact h

/-! ### operators by data -/
theorem o_add {i j : Int} : OpE K (rI0 fun i j => .int (i + j)) (.int i) (.int j) (.int (i + j)) := fun F H v w Q s rv rw' q => ⟨i, j, rv.of_int, rw'.of_int, q _ F H (Step.refl s) (.int _)⟩
theorem o_sub {i j : Int} : OpE K (rI0 fun i j => .int (i - j)) (.int i) (.int j) (.int (i - j)) := fun F H v w Q s rv rw' q => ⟨i, j, rv.of_int, rw'.of_int, q _ F H (Step.refl s) (.int _)⟩
theorem o_mul {i j : Int} (h : CMul i j) : OpE K (rI CMul fun i j => .int (i * j)) (.int i) (.int j) (.int (i * j)) := fun F H v w Q s rv rw' q => ⟨i, j, rv.of_int, rw'.of_int, h, q _ F H (Step.refl s) (.int _)⟩
theorem o_div {i j : Int} (h : CDiv i j) : OpE K (rI CDiv fun i j => .int (i / j)) (.int i) (.int j) (.int (i / j)) := fun F H v w Q s rv rw' q => ⟨i, j, rv.of_int, rw'.of_int, h, q _ F H (Step.refl s) (.int _)⟩
theorem o_mod {i j : Int} (h : 0 < j) : OpE K (rI (fun _ j => 0 < j) fun i j => .int (i % j)) (.int i) (.int j) (.int (i % j)) := fun F H v w Q s rv rw' q => ⟨i, j, rv.of_int, rw'.of_int, h, q _ F H (Step.refl s) (.int _)⟩
theorem o_pow {i j : Int} (h : CPow i j) : OpE K (rI CPow fun i j => .int (i ^ j.toNat)) (.int i) (.int j) (.int (i ^ j.toNat)) := fun F H v w Q s rv rw' q => ⟨i, j, rv.of_int, rw'.of_int, h, q _ F H (Step.refl s) (.int _)⟩
theorem o_lt {i j : Int} : OpE K (rI0 fun i j => .bl (decide (i < j))) (.int i) (.int j) (.bool (decide (i < j))) := fun F H v w Q s rv rw' q => ⟨i, j, rv.of_int, rw'.of_int, q _ F H (Step.refl s) (.bl _)⟩
theorem o_le {i j : Int} : OpE K (rI0 fun i j => .bl (decide (i ≤ j))) (.int i) (.int j) (.bool (decide (i ≤ j))) := fun F H v w Q s rv rw' q => ⟨i, j, rv.of_int, rw'.of_int, q _ F H (Step.refl s) (.bl _)⟩
theorem o_gt {i j : Int} : OpE K (rI0 fun i j => .bl (decide (j < i))) (.int i) (.int j) (.bool (decide (j < i))) := fun F H v w Q s rv rw' q => ⟨i, j, rv.of_int, rw'.of_int, q _ F H (Step.refl s) (.bl _)⟩
theorem o_ge {i j : Int} : OpE K (rI0 fun i j => .bl (decide (j ≤ i))) (.int i) (.int j) (.bool (decide (j ≤ i))) := fun F H v w Q s rv rw' q => ⟨i, j, rv.of_int, rw'.of_int, q _ F H (Step.refl s) (.bl _)⟩
theorem u_neg {i : Int} : UnE K (rU fun i => .int (-i)) (.int i) (.int (-i)) := fun F H v Q s rv q => ⟨i, rv.of_int, q _ F H (Step.refl s) (.int _)⟩
theorem dint {i j : Int} : decide (V.int i = V.int j) = decide (i = j) := by
  by_cases h : i = j
  · subst h
    simp
  · rw [decide_eq_false h, decide_eq_false (fun z => h (V.int.inj z))]
theorem dstr {i j : Str} : decide (V.str i = V.str j) = decide (i = j) := by
  by_cases h : i = j
  · subst h
    simp
  · rw [decide_eq_false h, decide_eq_false (fun z => h (V.str.inj z))]
theorem dbl {i j : Bool} : decide (V.bl i = V.bl j) = decide (i = j) := by
  by_cases h : i = j
  · subst h
    simp
  · rw [decide_eq_false h, decide_eq_false (fun z => h (V.bl.inj z))]
theorem o_eqI {i j : Int} : OpE K rEq (.int i) (.int j) (.bool (decide (i = j))) := fun F H v w Q s rv rw' q => by
  rw [rv.of_int, rw'.of_int]
  refine ⟨rfl, ?_⟩
  rw [dint]
  exact q _ F H (Step.refl s) (.bl _)
theorem o_neI {i j : Int} : OpE K rNe (.int i) (.int j) (.bool (!decide (i = j))) := fun F H v w Q s rv rw' q => by
  rw [rv.of_int, rw'.of_int]
  refine ⟨rfl, ?_⟩
  rw [dint]
  exact q _ F H (Step.refl s) (.bl _)
theorem o_eqS {i j : Str} : OpE K rEq (.str i) (.str j) (.bool (decide (i = j))) := fun F H v w Q s rv rw' q => by
  rw [rv.of_str, rw'.of_str]
  refine ⟨rfl, ?_⟩
  rw [dstr]
  exact q _ F H (Step.refl s) (.bl _)
theorem o_neS {i j : Str} : OpE K rNe (.str i) (.str j) (.bool (!decide (i = j))) := fun F H v w Q s rv rw' q => by
  rw [rv.of_str, rw'.of_str]
  refine ⟨rfl, ?_⟩
  rw [dstr]
  exact q _ F H (Step.refl s) (.bl _)
theorem o_neB {i j : Bool} : OpE K rNe (.bool i) (.bool j) (.bool (!decide (i = j))) := fun F H v w Q s rv rw' q => by
  rw [rv.of_bl, rw'.of_bl]
  refine ⟨rfl, ?_⟩
  rw [dbl]
  exact q _ F H (Step.refl s) (.bl _)
theorem o_eqD (h1 : SeqAt.shaped x = true) (h2 : SeqAt.shaped y = true) : OpE K (rEqD K) x y (.bool (PyData.eqv x y)) := fun F H v w Q s rv rw' q =>
  ⟨x, y, (rv.up s).dp, (rw'.up s).dp, h1, h2, q _ F H (Step.refl s) (.bl _)⟩
theorem o_neD (h1 : SeqAt.shaped x = true) (h2 : SeqAt.shaped y = true) : OpE K (rNeD K) x y (.bool (!PyData.eqv x y)) := fun F H v w Q s rv rw' q =>
  ⟨x, y, (rv.up s).dp, (rw'.up s).dp, h1, h2, q _ F H (Step.refl s) (.bl _)⟩
theorem o_isB {i j : Bool} : OpE K rIsB (.bool i) (.bool j) (.bool (decide (i = j))) := fun F H v w Q s rv rw' q => ⟨i, j, rv.of_bl, rw'.of_bl, q _ F H (Step.refl s) (.bl _)⟩
theorem o_notB {i j : Bool} : OpE K rNotB (.bool i) (.bool j) (.bool (!decide (i = j))) := fun F H v w Q s rv rw' q => ⟨i, j, rv.of_bl, rw'.of_bl, q _ F H (Step.refl s) (.bl _)⟩
def isNonD : PyData → Bool
  | .none => true
  | _ => false
theorem Rp.isNon {F : Hp} {v : V} (h : Rp K F v d) : decide (v = .non) = isNonD d := by
  cases h <;> first | rfl | exact decide_eq_false (fun z => nomatch z)
theorem o_isN : OpE K (fun x y H Q => y = .non ∧ Q (.bl (decide (x = .non))) H) d .none (.bool (isNonD d)) := fun F H v w Q s rv rw' q => ⟨rw'.of_non, by
  rw [rv.isNon]
  exact q _ F H (Step.refl s) (.bl _)⟩
theorem o_notN : OpE K (fun x y H Q => y = .non ∧ Q (.bl (!decide (x = .non))) H) d .none (.bool (!isNonD d)) := fun F H v w Q s rv rw' q => ⟨rw'.of_non, by
  rw [rv.isNon]
  exact q _ F H (Step.refl s) (.bl _)⟩
theorem o_cat (h : ds.length + es.length ≤ 100000) : OpE K rCat (.list ds) (.list es) (.list (ds ++ es)) := fun F H v w Q s rv rw' q => by
  obtain ⟨a, xs, rfl, h1, h2⟩ := rv.of_lst
  obtain ⟨b, ys, rfl, h3, h4⟩ := rw'.of_lst
  refine ⟨a, b, xs, ys, rfl, rfl, s _ _ h1, s _ _ h3, le_line (by rw [h2.length, h4.length]; exact h), fun p hp => ?_⟩
  have t := Step.new (o := .lst (xs ++ ys)) s hp
  exact q _ _ _ t (.lst upd_same ((h2.append h4).up t.f))
theorem o_catT (h : ds.length + es.length ≤ 100000) : OpE K (rCatA K) (.tuple ds) (.tuple es) (.tuple (ds ++ es)) := fun F H v w Q s rv rw' q => by
  obtain ⟨a, xs, rfl, h1, h2⟩ := rv.of_tup
  obtain ⟨b, ys, rfl, h3, h4⟩ := rw'.of_tup
  refine ⟨a, b, xs, ys, rfl, rfl, s.sqt h1, s.sqt h3, le_line (by rw [h2.length, h4.length]; exact h), fun e => ?_, fun _ e => ?_, fun _ _ p hp => ?_⟩
  · subst e
    cases h2
    exact q _ F H (Step.refl s) (.tup h3 h4)
  · subst e
    cases h4
    rw [List.append_nil] at q
    exact q _ F H (Step.refl s) (.tup h1 h2)
  · have t := Step.new (o := .tup (xs ++ ys)) s hp
    exact q _ _ _ t (.tup (sqt_of upd_same) ((h2.append h4).up t.f))
theorem o_addS {a b : Str} (h : a.length + b.length ≤ 100000) : OpE K (fun x y H Q => ∃ i j, x = .str i ∧ y = .str j ∧ i.length + j.length ≤ sizeLine ∧ Q (.str (i ++ j)) H) (.str a) (.str b) (.str (a ++ b)) := fun F H v w Q s rv rw' q =>
  ⟨a, b, rv.of_str, rw'.of_str, le_line h, q _ F H (Step.refl s) (.str _)⟩
theorem o_inS {n : Nat} {b : Str} : OpE K (fun x y H Q => ∃ (c : Nat) (z : Str), x = .str ⟨#[c]⟩ ∧ y = .str z ∧ Q (.bl (decide (c ∈ z.cps.toList))) H) (.str ⟨#[n]⟩) (.str b) (.bool (decide (n ∈ b.cps.toList))) := fun F H v w Q s rv rw' q =>
  ⟨n, b, rv.of_str, rw'.of_str, q _ F H (Step.refl s) (.bl _)⟩
/-! ### items, slices -/
theorem RpL.at {F : Hp} {vs : List V} {i : Int} (h : RpL K F vs ds) (e : atI ds i = some d) : ∃ v, atI vs i = some v ∧ Rp K F v d := by
  unfold atI at e ⊢
  rw [h.length]
  cases q : ixN ds.length i with
  | none =>
    rw [q] at e
    cases e
  | some j =>
    rw [q] at e
    exact h.got e
theorem o_ixL {i : Int} (e : atI ds i = some d) : OpE K (rIxL K) (.list ds) (.int i) d := fun F H v w Q s rv rw' q => by
  obtain ⟨a, xs, rfl, h1, h2⟩ := rv.of_lst
  obtain ⟨u, h3, h4⟩ := h2.at e
  exact ⟨a, xs, i, u, rfl, rw'.of_int, sql_of (s _ _ h1), h3, q _ F H (Step.refl s) h4⟩
theorem o_ixT {i : Int} (e : atI ds i = some d) : OpE K (rIxT K) (.tuple ds) (.int i) d := fun F H v w Q s rv rw' q => by
  obtain ⟨a, xs, rfl, h1, h2⟩ := rv.of_tup
  obtain ⟨u, h3, h4⟩ := h2.at e
  exact ⟨a, xs, i, u, rfl, rw'.of_int, s.sqt h1, h3, q _ F H (Step.refl s) h4⟩
theorem o_ixS {i : Int} {t : Str} {n : Nat} (hl : t.length ≤ 100000) (e : atI t.cps.toList i = some n) : OpE K rIxS (.str t) (.int i) (.str ⟨#[n]⟩) := fun F H v w Q s rv rw' q =>
  ⟨t, i, n, rv.of_str, rw'.of_int, le_line hl, e, q _ F H (Step.refl s) (.str _)⟩
def cutD (xs : List PyData) (lo hi : Option Int) : List PyData := (xs.drop (HT.sIx xs.length 0 lo)).take (HT.sIx xs.length xs.length hi - HT.sIx xs.length 0 lo)
theorem RpL.cut {F : Hp} {vs : List V} {lo hi : Option Int} (h : RpL K F vs ds) : RpL K F (cutV vs lo hi) (cutD ds lo hi) := by
  unfold cutV cutD
  rw [h.length]
  exact (h.drop _).take _
theorem s_lst {lo hi : Option Int} : SlE K (rSlL K) (.list ds) lo hi (.list (cutD ds lo hi)) := fun F H v Q s rv q => by
  obtain ⟨a, xs, rfl, h1, h2⟩ := rv.of_lst
  refine ⟨a, xs, rfl, sql_of (s _ _ h1), fun p hp => ?_⟩
  have t := Step.new (o := .lst (cutV xs lo hi)) s hp
  exact q _ _ _ t (.lst upd_same (h2.cut.up t.f))
theorem cutV_all {α : Type} {xs : List α} {lo hi : Option Int} (h : HT.sIx xs.length 0 lo = 0 ∧ HT.sIx xs.length xs.length hi = xs.length) : (xs.drop (HT.sIx xs.length 0 lo)).take (HT.sIx xs.length xs.length hi - HT.sIx xs.length 0 lo) = xs := by
  rw [h.1, h.2]
  simp
theorem s_tup {lo hi : Option Int} : SlE K (rSlA K) (.tuple ds) lo hi (.tuple (cutD ds lo hi)) := fun F H v Q s rv q => by
  obtain ⟨a, xs, rfl, h1, h2⟩ := rv.of_tup
  refine ⟨a, xs, rfl, s.sqt h1, fun e => ?_, fun _ p hp => ?_⟩
  · have e2 : cutD ds lo hi = ds := by
      unfold cutD
      exact cutV_all (by rw [← h2.length]; exact e)
    rw [e2] at q
    exact q _ F H (Step.refl s) (.tup h1 h2)
  · have t := Step.new (o := .tup (cutV xs lo hi)) s hp
    exact q _ _ _ t (.tup (sqt_of upd_same) (h2.cut.up t.f))
theorem s_str {lo hi : Option Int} {t : Str} (hl : t.length ≤ 100000) : SlE K rSlS (.str t) lo hi (.str (cutS t lo hi)) := fun F H v Q s rv q =>
  ⟨t, rv.of_str, le_line hl, q _ F H (Step.refl s) (.str _)⟩
theorem e_rev (h : EvE K te env (.list ds)) : EvE K (tRevL K te) env (.list ds.reverse) := fun H0 F H σ Q i ok q =>
  h H0 F H σ _ i ok fun v F1 H1 s1 r1 => by
    obtain ⟨a, xs, rfl, h1, h2⟩ := r1.of_lst
    refine ⟨a, xs, rfl, sql_of (s1.i _ _ h1), fun p hp => ?_⟩
    have t := Step.new (o := .lst xs.reverse) s1.i hp
    exact q _ _ _ (s1.trans t) (.lst upd_same (h2.rev.up t.f))

/-! ### built-ins by data -/
theorem RpL.one {F : Hp} {vs : List V} (h : RpL K F vs [d]) : ∃ v, vs = [v] ∧ Rp K F v d := by
  cases h with
  | cons h1 h2 =>
    cases h2
    exact ⟨_, rfl, h1⟩
theorem RpL.two {F : Hp} {vs : List V} (h : RpL K F vs [x, y]) : ∃ v w, vs = [v, w] ∧ Rp K F v x ∧ Rp K F w y := by
  cases h with
  | cons h1 h2 =>
    obtain ⟨w, rfl, h3⟩ := h2.one
    exact ⟨_, w, rfl, h1, h3⟩
theorem c_lenL : CbE K (fun xs H Q => ∃ x n, xs = [x] ∧ LenV K x H n ∧ Q (.int n) H) [.list ds] (.int ds.length) := fun F H vs Q s r q => by
  obtain ⟨v, rfl, ro⟩ := r.one
  obtain ⟨a, xs, rfl, h1, h2⟩ := ro.of_lst
  exact ⟨_, ds.length, rfl, .inl ⟨xs, sql_of (s _ _ h1), h2.length.symm⟩, q _ F H (Step.refl s) (.int _)⟩
theorem c_lenT : CbE K (fun xs H Q => ∃ x n, xs = [x] ∧ LenV K x H n ∧ Q (.int n) H) [.tuple ds] (.int ds.length) := fun F H vs Q s r q => by
  obtain ⟨v, rfl, ro⟩ := r.one
  obtain ⟨a, xs, rfl, h1, h2⟩ := ro.of_tup
  exact ⟨_, ds.length, rfl, .inr ⟨xs, s.sqt h1, h2.length.symm⟩, q _ F H (Step.refl s) (.int _)⟩
theorem c_lenS {t : Str} (hl : t.length ≤ 100000) : CbE K (fun xs H Q => ∃ x n, xs = [x] ∧ LenV K x H n ∧ Q (.int n) H) [.str t] (.int t.length) := fun F H vs Q s r q => by
  obtain ⟨v, rfl, ro⟩ := r.one
  rw [ro.of_str]
  exact ⟨_, t.length, rfl, ⟨le_line hl, rfl⟩, q _ F H (Step.refl s) (.int _)⟩
theorem c_abs {i : Int} : CbE K (fun xs H Q => ∃ i, xs = [.int i] ∧ Q (.int (if i < 0 then -i else i)) H) [.int i] (.int (if i < 0 then -i else i)) := fun F H vs Q s r q => by
  obtain ⟨v, rfl, ro⟩ := r.one
  rw [ro.of_int]
  exact ⟨i, rfl, q _ F H (Step.refl s) (.int _)⟩
theorem c_max2 {i j : Int} : CbE K (fun xs H Q => ∃ i j, xs = [.int i, .int j] ∧ Q (.int (if j > i then j else i)) H) [.int i, .int j] (.int (if j > i then j else i)) := fun F H vs Q s r q => by
  obtain ⟨v, w, rfl, r1, r2⟩ := r.two
  rw [r1.of_int, r2.of_int]
  exact ⟨i, j, rfl, q _ F H (Step.refl s) (.int _)⟩
theorem c_int {i : Int} : CbE K (fun xs H Q => (∃ i, xs = [.int i] ∧ Q (.int i) H) ∨ ∃ k, xs = [.bl k] ∧ Q (.int (if k then 1 else 0)) H) [.int i] (.int i) := fun F H vs Q s r q => by
  obtain ⟨v, rfl, ro⟩ := r.one
  rw [ro.of_int]
  exact .inl ⟨i, rfl, q _ F H (Step.refl s) (.int _)⟩
theorem c_str {i : Int} (h : i.natAbs.log2 < 1920) : CbE K (fun xs H Q => ∃ i, xs = [.int i] ∧ i.natAbs.log2 < 1920 ∧ Q (.str (toString i)) H) [.int i] (.str (toString i)) := fun F H vs Q s r q => by
  obtain ⟨v, rfl, ro⟩ := r.one
  rw [ro.of_int]
  exact ⟨i, rfl, h, q _ F H (Step.refl s) (.str _)⟩
theorem c_tupL : CbE K (fun xs H Q => ∃ p ys, xs = [.ref p] ∧ ((SqL K H p ys ∧ ∀ l, H l = none → Q (.ref l) (upd H l (.tup ys))) ∨ (SqT K H p ys ∧ Q (.ref p) H))) [.list ds] (.tuple ds) := fun F H vs Q s r q => by
  obtain ⟨v, rfl, ro⟩ := r.one
  obtain ⟨a, xs, rfl, h1, h2⟩ := ro.of_lst
  refine ⟨a, xs, rfl, .inl ⟨sql_of (s _ _ h1), fun p hp => ?_⟩⟩
  have t := Step.new (o := .tup xs) s hp
  exact q _ _ _ t (.tup (sqt_of upd_same) (h2.up t.f))
theorem c_tupT : CbE K (fun xs H Q => ∃ p ys, xs = [.ref p] ∧ ((SqL K H p ys ∧ ∀ l, H l = none → Q (.ref l) (upd H l (.tup ys))) ∨ (SqT K H p ys ∧ Q (.ref p) H))) [.tuple ds] (.tuple ds) := fun F H vs Q s r q => by
  obtain ⟨v, rfl, ro⟩ := r.one
  obtain ⟨a, xs, rfl, h1, h2⟩ := ro.of_tup
  exact ⟨a, xs, rfl, .inr ⟨s.sqt h1, q _ F H (Step.refl s) (.tup h1 h2)⟩⟩
theorem c_lstT : CbE K (fun xs H Q => ∃ p ys, xs = [.ref p] ∧ (SqL K H p ys ∨ SqT K H p ys) ∧ ∀ l, H l = none → Q (.ref l) (upd H l (.lst ys))) [.tuple ds] (.list ds) := fun F H vs Q s r q => by
  obtain ⟨v, rfl, ro⟩ := r.one
  obtain ⟨a, xs, rfl, h1, h2⟩ := ro.of_tup
  refine ⟨a, xs, rfl, .inr (s.sqt h1), fun p hp => ?_⟩
  have t := Step.new (o := .lst xs) s hp
  exact q _ _ _ t (.lst upd_same (h2.up t.f))
theorem c_lstL : CbE K (fun xs H Q => ∃ p ys, xs = [.ref p] ∧ (SqL K H p ys ∨ SqT K H p ys) ∧ ∀ l, H l = none → Q (.ref l) (upd H l (.lst ys))) [.list ds] (.list ds) := fun F H vs Q s r q => by
  obtain ⟨v, rfl, ro⟩ := r.one
  obtain ⟨a, xs, rfl, h1, h2⟩ := ro.of_lst
  refine ⟨a, xs, rfl, .inl (sql_of (s _ _ h1)), fun p hp => ?_⟩
  have t := Step.new (o := .lst xs) s hp
  exact q _ _ _ t (.lst upd_same (h2.up t.f))
theorem c_sum {ns : List Int} : CbE K (rSum K) [.list (ns.map .int)] (.int ns.sum) := fun F H vs Q s r q => by
  obtain ⟨v, rfl, ro⟩ := r.one
  obtain ⟨a, xs, rfl, h1, h2⟩ := ro.of_lst
  rw [h2.ints] at h1
  exact ⟨a, ns, rfl, sql_of (s _ _ h1), q _ F H (Step.refl s) (.int _)⟩
theorem c_all {bs : List Bool} : CbE K (rAll K) [.list (bs.map .bool)] (.bool (bs.all id)) := fun F H vs Q s r q => by
  obtain ⟨v, rfl, ro⟩ := r.one
  obtain ⟨a, xs, rfl, h1, h2⟩ := ro.of_lst
  rw [h2.bls] at h1
  exact ⟨a, bs, rfl, sql_of (s _ _ h1), q _ F H (Step.refl s) (.bl _)⟩
theorem c_gcd {i j : Int} : CbE K rGcd [.int i, .int j] (.int ((Nat.gcd i.natAbs j.natAbs : Nat) : Int)) := fun F H vs Q s r q => by
  obtain ⟨v, w, rfl, r1, r2⟩ := r.two
  rw [r1.of_int, r2.of_int]
  exact ⟨i, j, rfl, q _ F H (Step.refl s) (.int _)⟩
theorem c_intS {t : Str} {n : Int} (h : PySem.intText? t = some n) (hl : t.length ≤ 640) : CbE K (fun xs H Q => ∃ a n, xs = [.str a] ∧ PySem.intText? a = some n ∧ a.length ≤ 640 ∧ Q (.int n) H) [.str t] (.int n) := fun F H vs Q s r q => by
  obtain ⟨v, rfl, ro⟩ := r.one
  rw [ro.of_str]
  exact ⟨t, n, rfl, h, hl, q _ F H (Step.refl s) (.int _)⟩
end
end TP

/-! Statements, targets, walks, comprehensions, a def's rule. -/
namespace TP
open PySem L2
section
variable {K : PySem.W.Frag} {env env' : En} {x y z d : PyData} {ds es : List PyData} {ta tb tc te : TE} {tt tu : TT} {b c : Bool} {r r' : R2} {N M : En → Prop} {R : PyData → Prop} {t u w : TS} {g : TG}

/-! ### targets -/
theorem wipe_none {σ : L2.St} : ∀ {vs : List Nat} {i : Nat}, i ∈ vs → i < σ.length → (wipe σ vs)[i]? = some none
  | [], _, h, _ => by simp at h
  | v :: vs, i, h, hl => by
    unfold wipe
    by_cases q : v = i
    · subst q
      rw [List.getElem?_set_self (by rw [wipe_length]; exact hl)]
    · rw [List.getElem?_set_ne q]
      rcases List.mem_cons.mp h with e | e
      · exact absurd e.symm q
      · exact wipe_none e hl
theorem wipe_idem {σ : L2.St} {vs : List Nat} : wipe (wipe σ vs) vs = wipe σ vs := by
  refine List.ext_getElem? fun i => ?_
  by_cases h : i ∈ vs
  · by_cases hl : i < σ.length
    · rw [wipe_none h hl, wipe_none h (by rw [wipe_length]; exact hl)]
    · rw [List.getElem?_eq_none (by rw [wipe_length, wipe_length]; omega), List.getElem?_eq_none (by rw [wipe_length]; omega)]
  · rw [wipe_out h]
theorem wipe_in {σ : L2.St} {j : Nat} {x : Option V} : ∀ {vs : List Nat}, j ∈ vs → wipe (σ.set j x) vs = wipe σ vs
  | [], h => by simp at h
  | v :: vs, h => by
    unfold wipe
    by_cases q : j ∈ vs
    · rw [wipe_in q]
    · have e : v = j := by
        rcases List.mem_cons.mp h with e | e
        · exact e.symm
        · exact absurd e q
      subst e
      have w : ∀ (ws : List Nat), v ∉ ws → wipe (σ.set v x) ws = (wipe σ ws).set v x := by
        intro ws
        induction ws with
        | nil => intro _; rfl
        | cons a ws ih =>
          intro hn
          simp only [List.mem_cons, not_or] at hn
          unfold wipe
          rw [ih hn.2, List.set_comm _ _ hn.1]
      rw [w vs q, List.set_set]
theorem g_name {j : Nat} {vs : List Nat} (hj : j ∈ vs := by decide) : TgE K (gName j) vs env d (env.set j (some (.val d))) := fun H0 F H σ v Q i ok r q => q _ (ok.set r) (wipe_in hj)
theorem gs_nil {vs : List Nat} : TgsE K gNil vs env [] env := fun H0 F H σ ws Q i ok r q => by
  cases r
  exact ⟨rfl, q _ ok rfl⟩
theorem gs_cons {gs : TGs} {vs : List Nat} {env1 env2 : En} (h1 : TgE K g vs env d env1) (h2 : TgsE K gs vs env1 ds env2) : TgsE K (gCons g gs) vs env (d :: ds) env2 := fun H0 F H σ ws Q i ok r q => by
  cases r with
  | cons r1 r2 => exact ⟨_, _, rfl, h1 H0 F H σ _ _ i ok r1 fun σ' ok' e' => h2 H0 F H σ' _ Q i ok' r2 fun σ2 ok2 e2 => q σ2 ok2 (e2.trans e')⟩
theorem g_tup {n : Nat} {gs : TGs} {vs : List Nat} (hn : ds.length = n) (h : TgsE K gs vs env ds env') : TgE K (gTup K n gs) vs env (.tuple ds) env' := fun H0 F H σ v Q i ok r q => by
  obtain ⟨a, xs, rfl, h1, h2⟩ := r.of_tup
  exact ⟨a, xs, rfl, i.sqt h1, by rw [h2.length]; exact hn, h H0 F H σ xs Q i ok h2 q⟩

/-! ### statements -/
theorem st_seq (h1 : StE K t env M R) (h2 : ∀ e, M e → StE K u e N R) : StE K (tSeq t u) env N R := fun F0 H0 F H σ D s ok nx rt =>
  h1 F0 H0 F H σ { D with nx := u D } s ok (fun e' σ' F' H' f' s' ok' m => h2 e' m F0 H0 F' H' σ' D s' ok' (fun e2 σ2 F2 H2 f2 => nx e2 σ2 F2 H2 (f'.trans f2)) rt) rt
theorem st_mono (h : StE K t env M R) (k : ∀ e, M e → N e) : StE K t env N R := fun F0 H0 F H σ D s ok nx rt => h F0 H0 F H σ D s ok (fun e' σ' F' H' f' s' ok' m => nx e' σ' F' H' f' s' ok' (k e' m)) rt
theorem st_next (h : N env) : StE K tNext env N R := fun F0 H0 F H σ D s ok nx rt => nx env σ F H (Ex.refl F) s ok h
theorem q_next (h : StE K u env N R) : StE K (tSeq tNext u) env N R := st_seq (M := fun e => e = env) (st_next rfl) fun e he => by rw [he]; exact h
theorem st_asg {i : Nat} (h : EvE K te env d) (k : N (env.set i (some (.val d)))) : StE K (tAsg te (gName i)) env N R := fun F0 H0 F H σ D s ok nx rt =>
  h H0 F H σ _ s.i ok fun v F1 H1 s1 r1 => nx _ _ F1 H1 s1.f (s.trans s1) ((ok.step s1).set r1) k
theorem q_asg {i : Nat} (h : EvE K te env d) (k : StE K u (env.set i (some (.val d))) N R) : StE K (tSeq (tAsg te (gName i)) u) env N R :=
  st_seq (M := fun e => e = env.set i (some (.val d))) (st_asg h rfl) fun e he => by rw [he]; exact k
/-- a target of any form -/
theorem st_asgG {vs : List Nat} (h : EvE K te env d) (hg : TgE K g vs env d env') (k : N env') : StE K (tAsg te g) env N R := fun F0 H0 F H σ D s ok nx rt =>
  h H0 F H σ _ s.i ok fun v F1 H1 s1 r1 => hg H0 F1 H1 σ v _ s1.i (ok.step s1) r1 fun σ' ok' _ => nx _ _ F1 H1 s1.f (s.trans s1) ok' k
theorem q_asgG {vs : List Nat} (h : EvE K te env d) (hg : TgE K g vs env d env') (k : StE K u env' N R) : StE K (tSeq (tAsg te g) u) env N R :=
  st_seq (M := fun e => e = env') (st_asgG h hg rfl) fun e he => by rw [he]; exact k
theorem st_ret (h : EvE K te env d) (k : R d) : StE K (tRet te) env N R := fun F0 H0 F H σ D s ok nx rt =>
  h H0 F H σ _ s.i ok fun v F1 H1 s1 r1 => rt v d F1 H1 (s.trans s1) r1 k
theorem st_if (h : TstE K tt env b) (h1 : b = true → StE K t env N R) (h2 : b = false → StE K u env N R) : StE K (tIfS tt t u) env N R := fun F0 H0 F H σ D s ok nx rt =>
  h H0 F H σ _ s.i ok fun F1 H1 s1 => by
    cases b with
    | true => exact iteT (h1 rfl F0 H0 F1 H1 σ D (s.trans s1) (ok.step s1) (fun e2 σ2 F2 H2 f2 => nx e2 σ2 F2 H2 (s1.f.trans f2)) rt)
    | false => exact iteF (h2 rfl F0 H0 F1 H1 σ D (s.trans s1) (ok.step s1) (fun e2 σ2 F2 H2 f2 => nx e2 σ2 F2 H2 (s1.f.trans f2)) rt)
theorem q_if (h : TstE K tt env b) (h1 : b = true → StE K (tSeq t w) env N R) (h2 : b = false → StE K (tSeq u w) env N R) : StE K (tSeq (tIfS tt t u) w) env N R := fun F0 H0 F H σ D s ok nx rt =>
  h H0 F H σ _ s.i ok fun F1 H1 s1 => by
    cases b with
    | true => exact iteT (h1 rfl F0 H0 F1 H1 σ D (s.trans s1) (ok.step s1) (fun e2 σ2 F2 H2 f2 => nx e2 σ2 F2 H2 (s1.f.trans f2)) rt)
    | false => exact iteF (h2 rfl F0 H0 F1 H1 σ D (s.trans s1) (ok.step s1) (fun e2 σ2 F2 H2 f2 => nx e2 σ2 F2 H2 (s1.f.trans f2)) rt)
/-- an if without else that returns: the way on alone is left behind it -/
theorem q_when (h : TstE K tt env b) (h1 : b = true → StE K t env (fun _ => False) R) (h2 : b = false → StE K w env N R) : StE K (tSeq (tIfS tt t tNext) w) env N R :=
  q_if h (fun e => st_seq (M := fun _ => False) (h1 e) fun _ z => z.elim) fun e => q_next (h2 e)
theorem st_drop (h : EvE K te env d) (k : N env) : StE K (tDrop te) env N R := fun F0 H0 F H σ D s ok nx rt =>
  h H0 F H σ _ s.i ok fun v F1 H1 s1 r1 => nx env σ F1 H1 s1.f (s.trans s1) (ok.step s1) k
theorem q_drop (h : EvE K te env d) (k : StE K u env N R) : StE K (tSeq (tDrop te) u) env N R := st_seq (M := fun e => e = env) (st_drop h rfl) fun e he => by rw [he]; exact k
theorem st_aug {i : Nat} {f : Int → Int → Int} {a b : Int} (hx : env[i]? = some (some (.val (.int a)))) (h : EvE K te env (.int b)) (k : N (env.set i (some (.val (.int (f a b)))))) : StE K (tAug i te (ipI f)) env N R := fun F0 H0 F H σ D s ok nx rt => by
  obtain ⟨v, e, r⟩ := ok.val hx
  rw [r.of_int] at e
  exact ⟨_, e, h H0 F H σ _ s.i ok fun v F1 H1 s1 r1 => ⟨a, b, rfl, r1.of_int, nx _ _ F1 H1 s1.f (s.trans s1) ((ok.step s1).set (.int _)) k⟩⟩
theorem q_aug {i : Nat} {f : Int → Int → Int} {a b : Int} (hx : env[i]? = some (some (.val (.int a)))) (h : EvE K te env (.int b)) (k : StE K u (env.set i (some (.val (.int (f a b))))) N R) : StE K (tSeq (tAug i te (ipI f)) u) env N R :=
  st_seq (M := fun e => e = env.set i (some (.val (.int (f a b))))) (st_aug hx h rfl) fun e he => by rw [he]; exact k
theorem st_par {i j : Nat} {ta : TA} (h : ArE K ta env [x, y]) (k : N ((env.set i (some (.val x))).set j (some (.val y)))) : StE K (tPar i j ta) env N R := fun F0 H0 F H σ D s ok nx rt =>
  h H0 F H σ _ s.i ok fun vs F1 H1 s1 r => by
    obtain ⟨v, w, rfl, r1, r2⟩ := r.two
    exact ⟨v, w, rfl, nx _ _ F1 H1 s1.f (s.trans s1) (((ok.step s1).set r1).set r2) k⟩
/-! own lists -/
theorem st_own {i : Nat} (h : EvO K te env ds) (k : N (env.set i (some (.own ds)))) : StE K (tAsg te (gName i)) env N R := fun F0 H0 F H σ D s ok nx rt =>
  h H0 F H σ _ s.i ok fun p vs F1 H1 s1 h0 hf hh hr => nx _ _ F1 H1 s1.f (s.trans s1) ((ok.step s1).setOwn (fun j es hj hs => by
    obtain ⟨q, ws, e1, _, _, e4, _⟩ := ok.own hj
    rw [hs] at e1
    cases e1
    rw [h0] at e4
    cases e4) (s.h.free h0) hf hh hr) k
theorem q_own {i : Nat} (h : EvO K te env ds) (k : StE K u (env.set i (some (.own ds))) N R) : StE K (tSeq (tAsg te (gName i)) u) env N R :=
  st_seq (M := fun e => e = env.set i (some (.own ds))) (st_own h rfl) fun e he => by rw [he]; exact k
theorem st_app {i : Nat} (hx : env[i]? = some (some (.own ds))) (h : EvE K te env d) (hl : ds.length < 100000) (k : N (env.set i (some (.own (ds ++ [d]))))) :
    StE K (tDrop (tBM K "list" rAppend (tVar i) (tCons te tNil))) env N R := fun F0 H0 F H σ D s ok nx rt => by
  obtain ⟨p, vs, e1, e2, e3, e4, e5⟩ := ok.own hx
  refine ⟨.ref p, e1, .inl ⟨rfl, vs, sql_of e4⟩, h H0 F H σ _ s.i ok fun v F1 H1 s1 r1 => ?_⟩
  have f1 : F1 p = none := s1.s p e3 (by rw [e4]; intro z; cases z)
  have h1 : H1 p = some (.lst vs) := s1.h _ _ e4
  refine ⟨p, vs, v, rfl, rfl, h1, lt_line (by rw [e5.length]; exact hl), ?_⟩
  exact nx _ _ F1 _ s1.f ((s.trans s1).mut e2 f1) ((ok.step s1).mut hx e1 f1 ((e5.up s1.f).append (.cons r1 .nil))) k
theorem q_app {i : Nat} (hx : env[i]? = some (some (.own ds))) (h : EvE K te env d) (hl : ds.length < 100000) (k : StE K u (env.set i (some (.own (ds ++ [d])))) N R) :
    StE K (tSeq (tDrop (tBM K "list" rAppend (tVar i) (tCons te tNil))) u) env N R := st_seq (M := fun e => e = env.set i (some (.own (ds ++ [d])))) (st_app hx h hl rfl) fun e he => by rw [he]; exact k
theorem ixN_nat {n j : Nat} (hj : j < n) : ixN n (j : Int) = some j := by
  unfold ixN
  rw [if_pos (by omega), if_pos (by omega)]
  simp
theorem st_put {i : Nat} {ti : TE} {j : Nat} (hx : env[i]? = some (some (.own ds))) (h : EvE K te env d) (hi : EvE K ti env (.int (j : Int))) (hj : j < ds.length) (k : N (env.set i (some (.own (ds.set j d))))) :
    StE K (tAsg te (gSub (tVar i) ti rSetL)) env N R := fun F0 H0 F H σ D s ok nx rt => by
  obtain ⟨p, vs, e1, e2, e3, e4, e5⟩ := ok.own hx
  refine h H0 F H σ _ s.i ok fun v F1 H1 s1 r1 => ⟨.ref p, e1, hi H0 F1 H1 σ _ s1.i (ok.step s1) fun w F2 H2 s2 r2 => ?_⟩
  have s12 := s1.trans s2
  have f1 : F2 p = none := s12.s p e3 (by rw [e4]; intro z; cases z)
  have h1 : H2 p = some (.lst vs) := s12.h _ _ e4
  refine ⟨p, vs, (j : Int), j, rfl, r2.of_int, h1, ixN_nat (by rw [e5.length]; exact hj), ?_⟩
  exact nx _ _ F2 _ s12.f ((s.trans s12).mut e2 f1) ((ok.step s12).mut hx e1 f1 ((e5.up s12.f).set j (r1.up s2.f))) k
theorem q_put {i : Nat} {ti : TE} {j : Nat} (hx : env[i]? = some (some (.own ds))) (h : EvE K te env d) (hi : EvE K ti env (.int (j : Int))) (hj : j < ds.length) (k : StE K u (env.set i (some (.own (ds.set j d)))) N R) :
    StE K (tSeq (tAsg te (gSub (tVar i) ti rSetL)) u) env N R := st_seq (M := fun e => e = env.set i (some (.own (ds.set j d)))) (st_put hx h hi hj rfl) fun e he => by rw [he]; exact k
/-- an own list is known from here on -/
theorem st_frz (i : Nat) (hx : env[i]? = some (some (.own ds))) (h : StE K t (env.set i (some (.val (.list ds)))) N R) : StE K t env N R := fun F0 H0 F H σ D s ok nx rt => by
  obtain ⟨p, vs, h0, hf, hh, ok'⟩ := ok.freeze hx
  exact h F0 H0 _ H σ D (s.freeze h0 hf hh) ok' (fun e' σ' F' H' f' => nx e' σ' F' H' ((Ex.new hf).trans f')) rt
/-- an own list is read -/
theorem e_ixO {i : Nat} {ti : TE} {j : Int} (hx : env[i]? = some (some (.own ds))) (hi : EvE K ti env (.int j)) (e : atI ds j = some d) : EvE K (tOp (rIxL K) (tVar i) ti) env d := fun H0 F H σ Q s ok q => by
  obtain ⟨p, vs, e1, e2, e3, e4, e5⟩ := ok.own hx
  refine ⟨.ref p, e1, hi H0 F H σ _ s ok fun w F2 H2 s2 r2 => ?_⟩
  obtain ⟨u, h3, h4⟩ := (e5.up s2.f).at e
  exact ⟨p, vs, j, u, rfl, r2.of_int, sql_of (s2.h _ _ e4), h3, q u F2 H2 s2 h4⟩
theorem e_lenO {i : Nat} (hx : env[i]? = some (some (.own ds))) : EvE K (tCB (fun xs H Q => ∃ x n, xs = [x] ∧ LenV K x H n ∧ Q (.int n) H) (tCons (tVar i) tNil)) env (.int ds.length) := fun H0 F H σ Q s ok q => by
  obtain ⟨p, vs, e1, e2, e3, e4, e5⟩ := ok.own hx
  exact ⟨.ref p, e1, _, ds.length, rfl, .inl ⟨vs, sql_of e4, e5.length.symm⟩, q _ F H (Step.refl s) (.int _)⟩

/-! ### walks -/
theorem i_list (h : EvE K te env (.list ds)) : ItE K (iList K te) env ds := fun H0 F H σ R i ok q =>
  h H0 F H σ _ i ok fun v F1 H1 s1 r1 => by
    obtain ⟨a, xs, rfl, h1, h2⟩ := r1.of_lst
    refine ⟨a, rfl, ⟨xs, sql_of (s1.i _ _ h1)⟩, q _ F1 H1 s1 ?_⟩
    have w := (walk_list (K := K) (a := a) (xs := xs)).mono (G' := fun H => Ex F1 H) (Y' := fun i H x H' => ∀ F2, Ex F1 F2 → Ex F2 H → ∃ F3 d, Step F2 H F3 H' ∧ ds[i]? = some d ∧ Rp K F3 x d) (fun H e => sql_of (e _ _ h1)) fun i H x H' hi e y F2 f2 f3 => by
      obtain ⟨rfl, y⟩ := y
      obtain ⟨d, g1, g2⟩ := h2.get y
      exact ⟨F2, d, Step.refl f3, g1, g2.up f2⟩
    rw [h2.length] at w
    exact w
theorem i_tup (h : EvE K te env (.tuple ds)) : ItE K (iTup K te) env ds := fun H0 F H σ R i ok q =>
  h H0 F H σ _ i ok fun v F1 H1 s1 r1 => by
    obtain ⟨a, xs, rfl, h1, h2⟩ := r1.of_tup
    refine ⟨a, rfl, ⟨xs, s1.i.sqt h1⟩, q _ F1 H1 s1 ?_⟩
    have w := (walk_tup (K := K) (a := a) (xs := xs)).mono (G' := fun H => Ex F1 H) (Y' := fun i H x H' => ∀ F2, Ex F1 F2 → Ex F2 H → ∃ F3 d, Step F2 H F3 H' ∧ ds[i]? = some d ∧ Rp K F3 x d) (fun H e => e.sqt h1) fun i H x H' hi e y F2 f2 f3 => by
      obtain ⟨rfl, y⟩ := y
      obtain ⟨d, g1, g2⟩ := h2.get y
      exact ⟨F2, d, Step.refl f3, g1, g2.up f2⟩
    rw [h2.length] at w
    exact w
def rng (lo : Int) (n : Nat) : List Int := (List.range n).map fun (i : Nat) => lo + (i : Int)
theorem serve_range (F : Hp) (lo : Int) (n : Nat) : Serves K (Itr lo n) F ((rng lo n).map .int) := by
  have w := (walk_range (lo := lo) (n := n)).mono (G' := fun H => Ex F H) (Y' := fun i H x H' => ∀ F2, Ex F F2 → Ex F2 H → ∃ F3 d, Step F2 H F3 H' ∧ ((rng lo n).map PyData.int)[i]? = some d ∧ Rp K F3 x d) (fun H e => trivial) fun i H x H' hi e y F2 f2 f3 => by
    obtain ⟨rfl, rfl⟩ := y
    exact ⟨F2, .int (lo + i), Step.refl f3, by simp [rng, hi], .int _⟩
  unfold Serves
  rw [List.length_map, rng, List.length_map, List.length_range]
  exact w
theorem i_rng1 {ta : TA} {n : Int} (h : ArE K ta env [.int n]) (h0 : -(2 ^ 62) ≤ n) (h1 : n < 2 ^ 62) : ItE K (iRng1 ta) env ((rng 0 n.toNat).map .int) := fun H0 F H σ R i ok q =>
  h H0 F H σ _ i ok fun vs F1 H1 s1 r1 => by
    obtain ⟨v, rfl, ro⟩ := r1.one
    rw [ro.of_int]
    exact ⟨n, rfl, h0, h1, q _ F1 H1 s1 (serve_range F1 0 n.toNat)⟩
theorem i_rng2 {ta : TA} {m n : Int} (h : ArE K ta env [.int m, .int n]) (hb : -(2 ^ 62) ≤ m ∧ m < 2 ^ 62 ∧ -(2 ^ 62) ≤ n ∧ n < 2 ^ 62) : ItE K (iRng2 ta) env ((rng m (n - m).toNat).map .int) := fun H0 F H σ R i ok q =>
  h H0 F H σ _ i ok fun vs F1 H1 s1 r1 => by
    obtain ⟨v, w, rfl, r2, r3⟩ := r1.two
    rw [r2.of_int, r3.of_int]
    exact ⟨m, n, rfl, hb, q _ F1 H1 s1 (serve_range F1 m (n - m).toNat)⟩
theorem i_str {t : Str} (h : EvE K te env (.str t)) : ItE K (iStr te) env (t.cps.toList.map fun n => .str ⟨#[n]⟩) := fun H0 F H σ R i ok q =>
  h H0 F H σ _ i ok fun v F1 H1 s1 r1 => by
    refine ⟨t, r1.of_str, q _ F1 H1 s1 ?_⟩
    have w := (walk_str (z := t)).mono (G' := fun H => Ex F1 H) (Y' := fun i H x H' => ∀ F2, Ex F1 F2 → Ex F2 H → ∃ F3 d, Step F2 H F3 H' ∧ (t.cps.toList.map fun n => PyData.str ⟨#[n]⟩)[i]? = some d ∧ Rp K F3 x d) (fun H e => trivial) fun i H x H' hi e y F2 f2 f3 => by
      obtain ⟨rfl, c, hc, rfl⟩ := y
      exact ⟨F2, .str ⟨#[c]⟩, Step.refl f3, by simp [hc], .str _⟩
    unfold Serves
    rw [List.length_map, Array.length_toList]
    exact w
/-- zip of two tuples of one length -/
theorem i_zip {ta : TA} (h : ArE K ta env [.tuple ds, .tuple es]) (hl : ds.length = es.length) : ItE K (RZ.iZipA K ta) env ((ds.zip es).map fun p => .tuple [p.1, p.2]) := fun H0 F H σ R i ok q =>
  h H0 F H σ _ i ok fun vs F1 H1 s1 r1 => by
    obtain ⟨v, w, rfl, r2, r3⟩ := r1.two
    obtain ⟨a, xs, rfl, h1, h2⟩ := r2.of_tup
    obtain ⟨b, ys, rfl, h3, h4⟩ := r3.of_tup
    refine ⟨a, b, xs, ys, rfl, .inr ⟨s1.i.sqt h1, s1.i.sqt h3, q _ F1 H1 s1 ?_⟩⟩
    have e1 := h2.length
    have e2 := h4.length
    have len : ((ds.zip es).map fun p => PyData.tuple [p.1, p.2]).length = xs.length := by
      rw [List.length_map, List.length_zip]
      omega
    unfold Serves
    rw [len]
    refine ⟨fun i H hi e => ?_, fun H e => ?_, fun i H x H' hi e y F2 f2 f3 => ?_⟩
    · have k1 : i < ys.length := by omega
      exact ⟨xs, ys, xs[i], ys[i], e.sqt h1, e.sqt h3, by simp [hi], by simp [k1]⟩
    · exact ⟨xs, ys, e.sqt h1, e.sqt h3, by omega⟩
    · obtain ⟨T, u, v, rfl, hT, rfl, hx, hy⟩ := y
      have gx := hx xs (e.sqt h1)
      have gy := hy ys (e.sqt h3)
      obtain ⟨d1, g1, g2⟩ := h2.get gx
      obtain ⟨d2, g3, g4⟩ := h4.get gy
      have st := Step.new (o := .tup [u, v]) f3 hT
      refine ⟨_, .tuple [d1, d2], st, ?_, .tup (sqt_of upd_same) (.cons (g2.up (f2.trans st.f)) (.cons (g4.up (f2.trans st.f)) .nil))⟩
      rw [List.getElem?_map, List.getElem?_zip_eq_some (z := (d1, d2)) |>.mpr ⟨g1, g3⟩]
      rfl

/-! ### loops -/
theorem st_for {wi : TI} {vs : List Nat} (hw : ItE K wi env ds) (I : Nat → En → Prop) (h0 : I 0 env)
    (hs : ∀ (i : Nat) (d : PyData) (e : En), ds[i]? = some d → I i e → ∃ e', TgE K g vs e d e' ∧ StE K t e' (I (i + 1)) R) (hd : ∀ e, I ds.length e → N e) : StE K (tFor wi g t) env N R := fun F0 H0 F H σ D s ok nx rt =>
  hw H0 F H σ _ s.i ok fun J F1 H1 s1 sv => by
    refine for_it (n := ds.length) sv (fun i σ' H' => ∃ F' e, Ex F1 F' ∧ Step F0 H0 F' H' ∧ EnvOk K H0 F' H' σ' e ∧ I i e) ⟨F1, env, Ex.refl F1, s.trans s1, ok.step s1, h0⟩ ?_ ?_ ?_
    · rintro i σ' H' _ ⟨F', e, f, s', _⟩
      exact f.trans s'.i
    · rintro i x σ' H' H2 hi ⟨F', e, f, s', ok', hI⟩ y
      obtain ⟨F3, d, s3, hd', r3⟩ := y F' f s'.i
      obtain ⟨e', hg, hb⟩ := hs i d e hd' hI
      refine hg H0 F3 H2 σ' x _ s3.i (ok'.step s3) r3 fun σ2 ok2 _ => hb F0 H0 F3 H2 σ2 _ (s'.trans s3) ok2 (fun e3 σ3 F4 H4 f4 s4 ok4 i4 => ?_) rt
      exact ⟨F4, e3, (f.trans s3.f).trans f4, s4, ok4, i4⟩
    · rintro σ' H' ⟨F', e, f, s', ok', hI⟩
      exact nx e σ' F' H' (s1.f.trans f) s' ok' (hd e hI)
theorem q_for {wi : TI} {vs : List Nat} (hw : ItE K wi env ds) (I : Nat → En → Prop) (h0 : I 0 env)
    (hs : ∀ (i : Nat) (d : PyData) (e : En), ds[i]? = some d → I i e → ∃ e', TgE K g vs e d e' ∧ StE K t e' (I (i + 1)) R) (hd : ∀ e, I ds.length e → StE K u e N R) : StE K (tSeq (tFor wi g t) u) env N R :=
  st_seq (M := I ds.length) (st_for hw I h0 hs fun _ h => h) hd
theorem st_while (I : Nat → En → Prop) (m0 : Nat) (h0 : I m0 env) (hs : ∀ m e, I m e → ∃ b, TstE K tt e b ∧ (b = true → StE K t e (fun e' => ∃ m', m' < m ∧ I m' e') R) ∧ (b = false → N e)) : StE K (tWhile tt t) env N R := fun F0 H0 F H σ D s ok nx rt => by
  refine ⟨fun m σ' H' => ∃ F' e, Ex F F' ∧ Step F0 H0 F' H' ∧ EnvOk K H0 F' H' σ' e ∧ I m e, ⟨m0, F, env, Ex.refl F, s, ok, h0⟩, ?_⟩
  rintro m σ' H' ⟨F', e, f, s', ok', hI⟩
  obtain ⟨b, hb, h1, h2⟩ := hs m e hI
  refine hb H0 F' H' σ' _ s'.i ok' fun F1 H1 s1 => ?_
  cases b with
  | true =>
    refine iteT ⟨fun σ2 H2 => ∃ m', m' < m ∧ ∃ F' e, Ex F F' ∧ Step F0 H0 F' H2 ∧ EnvOk K H0 F' H2 σ2 e ∧ I m' e, fun σ2 H2 ⟨m', hm, q⟩ => ⟨m', hm, q⟩, ?_⟩
    exact h1 rfl F0 H0 F1 H1 σ' _ (s'.trans s1) (ok'.step s1) (fun e2 σ2 F2 H2 f2 s2 ok2 ⟨m', hm, hi⟩ => ⟨m', hm, F2, e2, (f.trans s1.f).trans f2, s2, ok2, hi⟩) rt
  | false => exact iteF (nx e σ' F1 H1 (f.trans s1.f) (s'.trans s1) (ok'.step s1) (h2 rfl))
theorem q_while (I : Nat → En → Prop) (m0 : Nat) (h0 : I m0 env) (hs : ∀ m e, I m e → ∃ b, TstE K tt e b ∧ (b = true → StE K t e (fun e' => ∃ m', m' < m ∧ I m' e') R) ∧ (b = false → StE K u e N R)) : StE K (tSeq (tWhile tt t) u) env N R :=
  st_seq (M := fun e => StE K u e N R) (st_while I m0 h0 hs) fun _ h => h

/-! ### comprehensions -/
theorem EnvOk.other {H0 F H : Hp} {σ : L2.St} {p : Addr} {o : HO} (e : EnvOk K H0 F H σ env) (hn : ∀ (j : Nat) (es : List PyData), env[j]? = some (some (.own es)) → σ[j]? ≠ some (some (.ref p))) : EnvOk K H0 F (upd H p o) σ env := by
  refine ⟨e.len, fun i b h => ?_, e.dis⟩
  have z := e.get i b h
  cases b with
  | val d => exact z
  | own ds =>
    obtain ⟨q, vs, h1, h2, h3, h4, h5⟩ := z
    have ne : q ≠ p := fun k => hn i ds h (by rw [h1, k])
    exact ⟨q, vs, h1, h2, h3, by rw [upd_ne ne]; exact h4, h5⟩
theorem EnvOk.news {H0 F H : Hp} {σ : L2.St} {p : Addr} (e : EnvOk K H0 F H σ env) (hp : H p = none) (j : Nat) (es : List PyData) (hj : env[j]? = some (some (.own es))) : σ[j]? ≠ some (some (.ref p)) := fun hs => by
  obtain ⟨q, ws, e1, _, _, e4, _⟩ := e.own hj
  rw [hs] at e1
  cases e1
  rw [hp] at e4
  cases e4
/-- [v(a) for a in L if f(a)], L as data by enc -/
theorem c_lc {α : Type} {wi : TI} {vs : List Nat} (L : List α) (enc : α → PyData) (f : α → Bool) (v : α → PyData) (hw : ItE K wi env (L.map enc)) (hl : L.length ≤ 50000)
    (hs : ∀ (i : Nat) (a : α), L[i]? = some a → ∃ e', TgE K g vs (wipeE env vs) (enc a) e' ∧ TstE K tt e' (f a) ∧ (f a = true → EvE K te e' (v a))) : EvO K (tLc wi g tt te vs) env ((L.filter f).map v) := fun H0 F H σ Q i ok q =>
  hw H0 F H σ _ i ok fun J F1 H1 s1 sv D hD => by
    have okw := (ok.step s1).wipe (vs := vs)
    have hDn := okw.news hD
    refine lc_it (n := (L.map enc).length) sv (fun i H' => ∃ F' ws, Step F1 H1 F' H' ∧ F' D = none ∧ EnvOk K H0 F' H' (wipe σ vs) (wipeE env vs) ∧ H' D = some (.lst ws) ∧ RpL K F' ws (((L.take i).filter f).map v)) ?_ ?_ ?_ ?_
    · exact ⟨F1, [], Step.made s1.i hD, s1.i.free hD, okw.other hDn, upd_same, .nil⟩
    · rintro i H' _ ⟨F', ws, s', _⟩
      exact s'.f.trans s'.i
    · rintro i x H' H2 hi ⟨F', ws, s', fD, ok', hh, rr⟩ y
      obtain ⟨F3, d, s3, hd', r3⟩ := y F' s'.f s'.i
      rw [List.getElem?_map] at hd'
      cases ha : L[i]? with
      | none =>
        rw [ha] at hd'
        cases hd'
      | some a =>
        rw [ha] at hd'
        cases hd'
        obtain ⟨e', hg, ht, hv⟩ := hs i a ha
        have fD3 : F3 D = none := s3.s D fD (by rw [hh]; intro z; cases z)
        have hh3 : H2 D = some (.lst ws) := s3.h _ _ hh
        have hlen : i < L.length := (List.getElem?_eq_some_iff.mp ha).1
        have etk : L.take (i + 1) = L.take i ++ [a] := by rw [List.take_add_one, ha]; rfl
        refine hg H0 F3 H2 (wipe σ vs) x _ s3.i (ok'.step s3) r3 fun σ2 ok2 we => ⟨we.trans wipe_idem, ht H0 F3 H2 σ2 _ s3.i ok2 fun F4 H4 s4 => ?_⟩
        have fD4 : F4 D = none := s4.s D fD3 (by rw [hh3]; intro z; cases z)
        cases hf : f a with
        | true =>
          refine iteT (hv hf H0 F4 H4 σ2 _ s4.i (ok2.step s4) fun u F5 H5 s5 r5 => ?_)
          have hh5 : H5 D = some (.lst ws) := s5.h _ _ (s4.h _ _ hh3)
          have fD5 : F5 D = none := s5.s D fD4 (by rw [s4.h _ _ hh3]; intro z; cases z)
          have s35 := (s3.trans s4).trans s5
          have wl : ws.length ≤ i := by
            rw [rr.length, List.length_map]
            exact Nat.le_trans (List.length_filter_le _ _) (by rw [List.length_take]; omega)
          refine ⟨ws, hh5, lt_line (by omega), F5, ws ++ [u], (s'.trans s35).mut hD fD5, fD5, (ok'.step s35).other hDn, upd_same, ?_⟩
          rw [etk, List.filter_append, List.map_append, List.filter_cons, if_pos hf]
          exact (rr.up s35.f).append (.cons r5 .nil)
        | false =>
          refine iteF ⟨F4, ws, s'.trans (s3.trans s4), fD4, ok'.step (s3.trans s4), s4.h _ _ hh3, ?_⟩
          rw [etk, List.filter_append, List.map_append, List.filter_cons, if_neg (by rw [hf]; decide)]
          show RpL K F4 ws (_ ++ [])
          rw [List.append_nil]
          exact rr.up (s3.trans s4).f
    · rintro H' ⟨F', ws, s', fD, ok', hh, rr⟩
      refine q D ws F' H' (s1.trans s') (s1.h.free hD) fD hh ?_
      rw [List.length_map, List.take_length] at rr
      exact rr
theorem filter_yes {α : Type} (L : List α) : L.filter (fun _ => true) = L := by simp
theorem c_map {α : Type} {wi : TI} {vs : List Nat} (L : List α) (enc : α → PyData) (v : α → PyData) (hw : ItE K wi env (L.map enc)) (hl : L.length ≤ 50000)
    (hs : ∀ (i : Nat) (a : α), L[i]? = some a → ∃ e', TgE K g vs (wipeE env vs) (enc a) e' ∧ EvE K te e' (v a)) : EvO K (tLc wi g tYes te vs) env (L.map v) := by
  have h := c_lc (tt := tYes) (g := g) (te := te) (vs := vs) L enc (fun _ => true) v hw hl fun i a ha => by
    obtain ⟨e', h1, h2⟩ := hs i a ha
    exact ⟨e', h1, t_yes, fun _ => h2⟩
  rw [filter_yes] at h
  exact h
end

/-! ### a def -/
def envS (N : List Str) (ds : List PyData) : En := (ds.map fun d => some (Bd.val d)) ++ List.replicate (N.length - ds.length) none
section
variable {K : PySem.W.Frag}
theorem start_ok {H F : Hp} {vs : List V} {ds : List PyData} (N : List Str) (r : RpL K F vs ds) : EnvOk K H F H (L2.start N vs) (envS N ds) := by
  have len := r.length
  refine ⟨by unfold L2.start envS; simp [len], fun i b h => ?_, fun i j ds' es p h => ?_⟩
  · unfold envS at h
    by_cases hi : i < ds.length
    · rw [List.getElem?_append_left (by simpa using hi), List.getElem?_map] at h
      cases q : ds[i]? with
      | none =>
        rw [q] at h
        cases h
      | some d =>
        rw [q] at h
        cases h
        obtain ⟨v, h1, h2⟩ := r.got q
        refine ⟨v, ?_, h2⟩
        unfold L2.start
        rw [List.getElem?_append_left (by rw [List.length_map, len]; exact hi), List.getElem?_map, h1]
        rfl
    · rw [List.getElem?_append_right (by simpa using Nat.le_of_not_lt hi), List.getElem?_replicate] at h
      split at h <;> cases h
  · unfold envS at h
    by_cases hi : i < ds.length
    · rw [List.getElem?_append_left (by simpa using hi), List.getElem?_map] at h
      cases q : ds[i]? with
      | none =>
        rw [q] at h
        cases h
      | some d =>
        rw [q] at h
        cases h
    · rw [List.getElem?_append_right (by simpa using Nat.le_of_not_lt hi), List.getElem?_replicate] at h
      split at h <;> cases h
theorem run_def {t : TS} (N : List Str) {R : List PyData → PyData → Prop} {ds : List PyData} {d : PyData} (hS : StE K t (envS N ds) (fun _ => d = .none) (fun e => e = d)) {F H : Hp} {vs : List V} {Q : VK} (i : Ex F H) (r : RpL K F vs ds)
    (k : ∀ v F' H', Step F H F' H' → Rp K F' v d → Q v H') : t { nx := fun _ H' => Q .non H', rt := Q } (L2.start N vs) H := by
  refine hS F H F H (L2.start N vs) { nx := fun _ H' => Q .non H', rt := Q } (Step.refl i) (start_ok N r) (fun e' σ' F' H' f s ok n => ?_) fun v e F' H' s rv he => ?_
  · exact k .non F' H' s (by rw [n]; exact .non)
  · rw [← he] at k
    exact k v F' H' s rv
end
end TP

/-! Rules that the layer lacks: sorted, max of data, //=, enumerate with a start. -/
namespace PySem.W
open PySem PySem.SeqAt PyProof.Rows PySem.Calls
section
variable {prog : Program} {w : World} {A : Around} {E : Value → Shared → Prop} {s : Shared}
/-- max of a list of alike data: which item -/
theorem tp_max_list {l : Addr} {vs : Array Value} {x : PyData} {xs : List PyData} {as : List Addr} {Q : Value → Shared → Prop} (hh : A.handled = none) (hl : s.heap.IsList l vs) (hr : ReadsAll s.heap vs.toList (x :: xs) as) (ha : AlikeAll (x :: xs)) (hu : A.units + 1 + PyData.depthAll (x :: xs) < cLine)
    (h : ∀ (i : Nat) v h' tk, vs[i]? = some v → (x :: xs)[i]? = some (maxD x xs) → (∀ b o, s.heap.get? b = some o → h'.get? b = some o) → Q v { s with heap := h', toks := tk }) :
    wpAny (model prog w) A (call (.builtin "max") [.ref l]) Q E s := by
  have hn : vs.size = xs.length + 1 := readsAll_len hr
  refine call_max_walkH (iter_listW (A := A.in1) hh hl fun s₂ e W st hfp hw hk => ?_)
  refine ⟨_, _, _, _, _, _, _, s.heap, _, rfl, W, st, hfp, by omega, hw, hk, cmpIn_gt (A := A.in1) hr ha (by show A.units + 1 + _ < _; exact hu), fun v s' hP m => ?_⟩
  obtain ⟨h', tk, rfl, hk'⟩ := moved_old e rfl m
  have e1 : vs.size - 1 = xs.length := by omega
  obtain ⟨e3, e2⟩ := argBest_fold (fun a b => dataLt b a) PyData.none x xs xs.length (Nat.le_refl _)
  rw [List.take_length] at e2
  rw [e1] at hP
  refine h _ v h' tk hP ?_ hk'
  rw [List.getElem?_eq_getElem (by rw [List.length_cons]; omega)]
  unfold maxD
  rw [← e2, List.getD_eq_getElem?_getD, List.getElem?_eq_getElem (by rw [List.length_cons]; omega)]
  rfl
/-- max(a, b) of alike data -/
theorem tp_max_two {a b : Value} {x y : PyData} {as : List Addr} {Q : Value → Shared → Prop} (hh : A.handled = none) (hr : ReadsAll s.heap [a, b] [x, y] as) (ha : AlikeAll [x, y]) (hu : A.units + 1 + PyData.depthAll [x, y] < cLine)
    (h : ∀ v h' tk, v = (if dataLt x y then b else a) → (∀ b o, s.heap.get? b = some o → h'.get? b = some o) → Q v { s with heap := h', toks := tk }) :
    wpAny (model prog w) A (call (.builtin "max") [a, b]) Q E s := by
  have hname : (toString "max" ++ toString ".loop" : String) = "max.loop" := by decide
  refine call_function_tree F.kind_max F.plain_max F.entry_max (F.args_max2 _ _) ?_
  show wpAny _ A.in1 (Builtin.Builtins.bindParams "max" ["key", "default"] 0 ⟨[], []⟩ >>= _) _ _ s
  refine wpAny_bind (wpAny_of_eq (show Builtin.Builtins.bindParams "max" ["key", "default"] 0 ⟨[], []⟩ = pure [none, none] from rfl) ?_)
  show wpAny _ A.in1 (newTuple [a, b] >>= _) _ _ s
  refine wpAny_bind (wpAny_newObj_type ?_)
  let s1 : Shared := { s with heap := s.heap.push { cls := .type "tuple", data := .seq #[a, b] } }
  have kp : ∀ c o, s.heap.get? c = some o → s1.heap.get? c = some o := fun c o e => Heap.get?_push_of_some _ e
  have hT : s1.heap.IsTuple s.heap.objs.size #[a, b] := ⟨_, Heap.get?_push_size _ rfl, rfl, _, rfl⟩
  have hr1 : ReadsAll s1.heap (#[a, b] : Array Value).toList [x, y] as := ReadsAll.keeps kp hr
  have hit : wpAny (model prog w) A.in1 (pyIter (.ref s.heap.objs.size)) (fun it s₂ => ∃ I fp wr G n P St H bt, it = .ref I ∧ WalksS prog w A.in1 I fp wr G n P St ∧ St 0 s₂ ∧ (∀ b ∈ fp, b < s₂.heap.objs.size) ∧ 0 < n ∧
      (∀ b o, H.get? b = some o → b ∉ wr) ∧ (∀ b o, H.get? b = some o → s₂.heap.get? b = some o) ∧ CmpIn prog w A.in1 .Gt H P bt ∧ ∀ v s', P (argBest bt (n - 1)) v → Moved wr G s₂ s' → Q v s') E s1 := by
    refine iter_tupleW (s := s1) (A := A.in1) hh hT fun s₂ e W st hfp hw hk => ?_
    refine ⟨_, _, _, _, _, _, _, s1.heap, _, rfl, W, st, hfp, (by show 0 < 2; decide), hw, hk, cmpIn_gt (s := s1) (A := A.in1) hr1 ha (by show A.units + 1 + _ < _; exact hu), fun v s' hP m => ?_⟩
    obtain ⟨h', tk, rfl, hk'⟩ := moved_old e rfl m
    have e2 := (argBest_fold (fun a b => dataLt b a) PyData.none x [y] 1 (Nat.le_refl _)).2
    refine h v h' tk ?_ fun c o e => hk' c o (kp c o e)
    have hP' : (#[a, b] : Array Value)[argBest (fun i j => dataLt (([x, y] : List PyData).getD j .none) (([x, y] : List PyData).getD i .none)) 1]? = some v := hP
    have hb : argBest (fun i j => dataLt (([x, y] : List PyData).getD j .none) (([x, y] : List PyData).getD i .none)) 1 = if dataLt x y then 1 else 0 := rfl
    rw [hb] at hP'
    cases q : dataLt x y with
    | true =>
      rw [q] at hP'
      simpa using hP'.symm
    | false =>
      rw [q] at hP'
      simpa using hP'.symm
  refine wpAny_bind (wpAny_mono hit (fun it s₂ h₂ => ?_) fun _ _ e => e)
  obtain ⟨I, fp, wr, G, n, P, St, H, bt, rfl, W, hst, hfp, hn, hw, hkeep, hcmp, hQ⟩ := h₂
  refine wpAny_bind (wpAny_newObj_type ?_)
  have hSf : s₂.heap.objs.size ∉ fp := fun hm => Nat.lt_irrefl _ (hfp _ hm)
  rw [hname]
  refine wpAny_pure ⟨plainId_quiet F.plain_max_loop _, codeAny_max_loop_firstH W H hw bt hcmp s₂.heap.objs.size hSf (fresh_in hkeep) _ hn (fun b o e => Heap.get?_push_of_some _ (hkeep b o e)) (W.frame 0 s₂ _ s₂.toks hst (Nat.le_refl _) fun b _ o e => Heap.get?_push_of_some _ e) (Heap.get?_push_size _ rfl) fun v s' hP hm => ?_⟩
  exact hQ v s' hP (Moved.drop_new (tk := s₂.toks) hm (Nat.le_refl _))
/-- the iterator of enumerate, from any count, at the list's end -/
theorem tp_enum_end {e it l : Addr} {i : Nat} {c : Int} {items : Array Value} {old : Value} {Q : Option Value → Shared → Prop} (hh : A.handled = none) (he : IsEnum s.heap e it c old) (hit : s.heap.IsListIter it l i) (hl : s.heap.IsList l items) (hx : items[i]? = none)
    (hQ : ∀ h', Heap.ExtBut it s.heap h' → Q none { s with heap := h' }) : wpAny (model prog w) A (pyNext (.ref e)) Q E s := by
  have tyE : s.TypeIs (.ref e) "enumerate" := ⟨_, he, rfl⟩
  unfold pyNext
  refine wpAny_bind (wpAny_attempt (wpAny_callSpecial?_slot (name := Str.ofString "__next__") tyE F.slot_enumerate_next (wpAny_call_entry F.slot_enumerate_next tyE F.entry_enumerate_next ?_ (F.args_enumerate_next_1 _))))
  show wpAny _ _ (field (.ref e) 2 >>= _) _ _ _
  refine wpAny_bind (wpAny_field he rfl (x := .ref it) rfl (wpAny_bind (wpAny_nextOf_list_end hh hit hl hx fun h' x hk hst => ?_)))
  exact wpAny_bind (wpAny_isInstance (T := "StopIteration") (b := true) ⟨hst.choose, hst.choose_spec.1, hst.choose_spec.2⟩ isSubtype_stop (wpAny_pure (hQ _ hk)))
end
end PySem.W
namespace TP
open PySem L2 PyProof.Rows PySem.W
section
variable {X : Cx} {β : Type}
theorem vals_ref1 {a : Addr} {us : List Value} (r : Vals [V.ref a] us) : us = [.ref a] := by
  cases r with
  | cons h t =>
    cases t
    cases h
    rfl
/-- sorted(xs), xs a list of tuples that are alike: the items go along with their data -/
def rSortD (K : PySem.W.Frag) (enc : β → PyData) : List V → Hp → VK → Prop := fun vs H Q => ∃ (a : Addr) (xs : List V) (bs : List β) (P : V → β → Prop), vs = [.ref a] ∧ SqL K H a xs ∧ DpAll K H xs (bs.map enc) ∧ Paired P xs bs ∧
  ∀ (ys : List V) (p : Addr), H p = none → Paired P ys (bs.mergeSort (dataLe false enc)) → Q (.ref p) (upd H p (.lst ys))
theorem each_of {P : V → β → Prop} : ∀ {xs : List V} {us : List Value} {bs : List β}, Vals xs us → Paired P xs bs → EachIs (fun v b => ∃ y, RelV y v ∧ P y b) us bs
  | _, _, _, .nil, .nil => .nil
  | _, _, _, .cons r rs, .cons p ps => .cons ⟨_, r, p⟩ (each_of rs ps)
theorem of_each {P : V → β → Prop} : ∀ {us : List Value} {bs : List β}, EachIs (fun v b => ∃ y, RelV y v ∧ P y b) us bs → ∃ ys, Vals ys us ∧ Paired P ys bs
  | _, _, .nil => ⟨[], .nil, .nil⟩
  | _, _, .cons ⟨y, r, p⟩ t => by
    obtain ⟨ys, h1, h2⟩ := of_each t
    exact ⟨y :: ys, .cons r h1, .cons p h2⟩
theorem cr_sortD {enc : β → PyData} (hal : ∀ b b', alike (enc b) (enc b') = true) (hk : ∀ b, ∃ x r, enc b = .tuple (x :: r)) (hd : ∀ b, (enc b).depth ≤ 8) (hu : X.A.units + 64 < cLine) : CallR X (.builtin "sorted") (rSortD X.K enc) := by
  intro pins s σ H vs us Q I r h
  obtain ⟨a, xs, bs, P, rfl, hs, hD, hP, q⟩ := h
  obtain ⟨its, rv, hl, hz⟩ := I.list hs
  rw [vals_ref1 r]
  obtain ⟨as, hr⟩ := Dp.readsAll I _ _ _ hD rv
  have lb : bs.length ≤ sizeLine := by
    rw [← Paired.length hP]
    exact hz
  refine sorted_data hl.isList (each_of rv hP) (readsAll_each enc hr) (AllAlike.of hal) (Sortable.tuples hk) lb (fun b _ => ?_) fun out hlen hout => ?_
  · have := hd b
    omega
  · obtain ⟨ep, he'⟩ := PyProof.Rows.sortedAll_at s.heap its out.toArray
    obtain ⟨ys, h1, h2⟩ := of_each hout
    have hlen' : ys.length ≤ sizeLine := by
      rw [h1.length, hlen]
      exact lb
    exact ⟨.ref _, upd H (s.heap.objs.size + 1) (.lst ys), I.laid (t' := s.toks) (fun _ _ => PyProof.Rows.sortedAll_old) (Nat.le_succ _) ⟨hlen', out, ep, h1, he'⟩, rfl, q ys _ (I.hok.fresh (Nat.le_succ _)) h2⟩
/-- max(xs) of a list of alike data -/
def rMaxD (K : PySem.W.Frag) : List V → Hp → VK → Prop := fun vs H Q => ∃ (a : Addr) (xs : List V) (x : PyData) (ds : List PyData) (P : V → PyData → Prop), vs = [.ref a] ∧ SqL K H a xs ∧ DpAll K H xs (x :: ds) ∧ Paired P xs (x :: ds) ∧ AlikeAll (x :: ds) ∧ PyData.depthAll (x :: ds) ≤ 8 ∧
  ∀ v, P v (maxD x ds) → Q v H
theorem paired_at {α β : Type} {P : α → β → Prop} : ∀ {xs : List α} {ys : List β} {i : Nat} {y : β}, Paired P xs ys → ys[i]? = some y → ∃ x, xs[i]? = some x ∧ P x y
  | _, _, _, _, .nil, e => by simp at e
  | _, _, 0, _, .cons p _, e => by
    simp at e
    subst e
    exact ⟨_, rfl, p⟩
  | _, _, i + 1, _, .cons _ t, e => paired_at (i := i) t e
theorem cr_maxD (hc : X.calm = true) (hu : X.A.units + 64 < cLine) : CallR X (.builtin "max") (rMaxD X.K) := by
  intro pins s σ H vs us Q I r h
  obtain ⟨a, xs, x, ds, P, rfl, hs, hD, hP, hal, hdp, q⟩ := h
  obtain ⟨its, rv, hl, hz⟩ := I.list hs
  rw [vals_ref1 r]
  obtain ⟨as, hr⟩ := Dp.readsAll I _ _ _ hD rv
  refine tp_max_list (I.ok.hd hc) hl.isList hr hal (by omega) fun i v h' tk hv hm hk => ?_
  obtain ⟨y, hy, hp⟩ := paired_at hP hm
  obtain ⟨u, hu, ru⟩ := rv.get hy
  have ev : u = v := by
    have e : its[i]? = some v := by simpa using hv
    rw [hu] at e
    exact Option.some.inj e
  subst ev
  exact ⟨y, H, I.kept hk, ru, q y hp⟩
def rMax2D (K : PySem.W.Frag) : List V → Hp → VK → Prop := fun vs H Q => ∃ (v w : V) (x y : PyData), vs = [v, w] ∧ Dp K H v x ∧ Dp K H w y ∧ AlikeAll [x, y] ∧ PyData.depthAll [x, y] ≤ 8 ∧ Q (if dataLt x y then w else v) H
theorem cr_max2D (hc : X.calm = true) (hu : X.A.units + 64 < cLine) : CallR X (.builtin "max") (rMax2D X.K) := by
  intro pins s σ H vs us Q I r h
  obtain ⟨v, w, x, y, rfl, hx, hy, hal, hdp, q⟩ := h
  obtain ⟨u1, u2, rfl, r1, r2⟩ : ∃ u1 u2, us = [u1, u2] ∧ RelV v u1 ∧ RelV w u2 := by
    cases r with
    | cons a t =>
      cases t with
      | cons b t =>
        cases t
        exact ⟨_, _, rfl, a, b⟩
  obtain ⟨as, hr⟩ := Dp.readsAll I [x, y] [v, w] [u1, u2] (.cons hx (.cons hy .nil)) (.cons r1 (.cons r2 .nil))
  refine tp_max_two (I.ok.hd hc) hr hal (by omega) fun z h' tk hz hk => ?_
  refine ⟨_, H, I.kept hk, ?_, q⟩
  rw [hz]
  cases dataLt x y with
  | true => exact r2
  | false => exact r1
/-- name //= e -/
def ipD : TIp := fun x y H Q => ∃ i j, x = .int i ∧ y = .int j ∧ CDiv i j ∧ Q (.int (i / j)) H
theorem ip_fdiv : PIp X .FloorDiv ipD := by
  intro pins s σ H x y v u Q I r1 r2 h
  obtain ⟨i, j, e1, e2, hc, q⟩ := h
  subst e1; subst e2
  obtain ⟨t, rfl⟩ := r1
  obtain ⟨t', rfl⟩ := r2
  have h1 : (0 : Int) < j := hc.1
  have h2 : j < 1073741824 := hc.2
  exact ifloordiv_int (by omega) (by rw [Int.fdiv_eq_ediv_of_nonneg i (by omega)]; exact ⟨.int _, H, I.tok _, ⟨_, rfl⟩, q⟩) (.inl (PyProof.noPylong_small (by omega)))

/-! ### enumerate(list, k) -/
def IteK (K : PySem.W.Frag) (a : Addr) (k : Int) : It :=
  ⟨fun i H => ∃ (xs : List V) (x : V), SqL K H a xs ∧ xs[i]? = some x, fun i H v H' => ∃ T x, v = .ref T ∧ H T = none ∧ H' = upd H T (.tup [.int (k + (i : Nat)), x]) ∧ ∀ xs, SqL K H a xs → xs[i]? = some x, fun i H => ∃ xs : List V, SqL K H a xs ∧ xs.length ≤ i⟩
theorem turn_enumK {P : Program} {w : World} {K : PySem.W.Frag} {elts : List Expr} {kk : Nat} {tpos : Pos} (a e it : Addr) (k : Int) :
    Turn P w K (.Tuple elts kk tpos) (IteK K a k) [e, it] e (fun i h => (∃ old, IsEnum h e it (k + ((i : Nat) : Int)) old) ∧ h.IsListIter it a i ∧ e ≠ it ∧ a ≠ it) where
  mem := by simp
  obj := fun i h st b hb => by
    obtain ⟨⟨old, he⟩, ⟨o, ho, hc, hd⟩, _⟩ := st
    have e' : b = e ∨ b = it := by simpa using hb
    rcases e' with z | z
    · rw [z]; exact ⟨_, he, fun v q => nomatch q⟩
    · rw [z]; exact ⟨o, ho, fun v q => by rw [hd] at q; cases q⟩
  keep := fun i h h' st k => let ⟨⟨old, he⟩, hi, hne⟩ := st; ⟨⟨old, k e (by simp) _ he⟩, hi.at fun o q => k it (by simp) o q, hne⟩
  item := by
    intro X hP hw hK hc i pins s σ H E I hf st hg
    subst hP hw hK
    obtain ⟨⟨old, he⟩, hit, hne, hai⟩ := st
    obtain ⟨xs, x, hq, hx⟩ := hg
    obtain ⟨its, rv, p, hz⟩ := I.list hq
    obtain ⟨u, hu, ru⟩ := rv.get hx
    have hel : e < s.heap.objs.size := Heap.lt_size he
    have hil : it < s.heap.objs.size := by obtain ⟨_, q, _⟩ := hit; exact Heap.lt_size q
    have hil2 : i < its.toArray.size := by
      have := (List.getElem?_eq_some_iff.mp hu).1
      simpa using this
    have hal : a ≠ e := fun z => by
      obtain ⟨o, ho, hc', _⟩ := p.isList
      rw [z, he] at ho
      cases ho
      exact absurd hc' (by intro z; injection z with z; exact absurd z (by decide))
    refine wpAny_pyNext_enum_itemC (Draws.list (prog := X.prog) (w := X.w) (A := X.A.in1) (I.ok.hd hc) it a hai its.toArray) he ⟨hit, p.isList⟩ hil2 hne (by simp only [List.mem_cons, List.mem_nil_iff, or_false, not_or]; exact ⟨hne, fun z => hal z.symm⟩) fun y h' tk hy ho hst hT hsz hk => ?_
    have ey : y = u := by
      have hy' : its.toArray[i]? = some y := hy
      have e : its[i]? = some y := by simpa using hy'
      rw [hu] at e
      exact (Option.some.inj e).symm
    subst ey
    refine ⟨_, rfl, wpAny_letOwnedTupleGo_enum (s := { s with heap := h', toks := tk + 1 }) ho fun h'' he' sb => ?_⟩
    have hT2 : h''.get? s.heap.objs.size = some { cls := .type "tuple", data := .seq #[.int (k + (i : Nat)) tk, y] } := (sb.2 _ (Nat.ne_of_gt hel)).trans hT
    have new : ObjOk X.prog X.w (upd H s.heap.objs.size (.tup [.int (k + (i : Nat)), x])) h'' s.heap.objs.size (.tup [.int (k + (i : Nat)), x]) :=
      ⟨by show 2 ≤ sizeLine; decide, [.int (k + (i : Nat)) tk, y], .cons ⟨_, rfl⟩ (.cons ru .nil), ⟨_, hT2, rfl, _, rfl⟩⟩
    have I1 : Inv X pins σ (upd H s.heap.objs.size (.tup [.int (k + (i : Nat)), x])) { s with heap := h'', toks := tk + 1 } :=
      I.turnedNew (ch := [e, it]) (fun b ob hb q => (sb.2 b (fun z => hb (by simp [z]))).trans (hk b ob (fun z => hb (by simp [z])) (fun z => hb (by simp [z])) q)) hf (Nat.le_refl _) new
    refine ⟨.ref s.heap.objs.size, _, I1, rfl, ⟨_, x, rfl, I.hok.fresh (Nat.le_refl _), rfl, fun ys hy => by rw [I.list_inj hy hq]; exact hx⟩, ⟨⟨y, ?_⟩, hst.1.at fun o q => (sb.2 it (Ne.symm hne)).trans q, hne, hai⟩, fun b hb => ?_⟩
    · have e1 : k + ((i + 1 : Nat) : Int) = k + (i : Int) + 1 := by omega
      rw [e1]; exact he'
    · have hb' : b < s.heap.objs.size := by
        have e' : b = e ∨ b = it := by simpa using hb
        rcases e' with z | z
        · rw [z]; exact hel
        · rw [z]; exact hil
      rw [upd_ne (Nat.ne_of_lt hb')]
      exact (hf b hb).1
  done := by
    intro X hP hw hK hc i pins s σ H E I hf st hg
    subst hP hw hK
    obtain ⟨⟨old, he⟩, hit, hne, hai⟩ := st
    obtain ⟨xs, hq, hx⟩ := hg
    obtain ⟨its, rv, p, hz⟩ := I.list hq
    obtain ⟨f0, f1, f2, f3, f4, f5⟩ := hf it (by simp)
    have hl := rv.length
    exact tp_enum_end (I.ok.hd hc) he hit p.isList (by simp; omega) fun h' eb => ⟨rfl, I.turned (t' := s.toks) (fun b o hb q => eb b o hb q) f0 f1 f3 f4 f5⟩
  self := fun A i s Q E st h => let ⟨⟨_, he⟩, _⟩ := st; wpAny_pyIter_enum he h
def iEnumK (K : PySem.W.Frag) (ta : TA) : TI := fun σ H R => ta σ H fun vs H1 => ∃ a xs k, vs = [.ref a, .int k] ∧ -(2 ^ 63) ≤ k ∧ k < 2 ^ 63 ∧ SqL K H1 a xs ∧ R (IteK K a k) H1
theorem pi_enumK {e e2 : Expr} {ta : TA} {p pos tpos : Pos} {elts : List Expr} {kk : Nat} (hg : Gl X "enumerate") (hm : X.mg "enumerate" = none) (ha : PA X [e, e2] ta) (hs : starEach [e, e2] X.env = [(false, eval e X.env), (false, eval e2 X.env)] := by rfl) (hs2 : starEach [e2] X.env = [(false, eval e2 X.env)] := by rfl) :
    PI X (.Tuple elts kk tpos) (.Call (.Name "enumerate" p) [e, e2] [] pos) (iEnumK X.K ta) := by
  refine ⟨fun pins s σ H R I h => ?_⟩
  refine Call_ (ld_blt I hg hm boot_enumerate (PyProof.Rows.callWith_type1 (thn (ha.run pos pins s σ H _ I h) fun us s1 ⟨vs, H1, I1, r1, q1⟩ => ?_) (by rw [hs, hs2]) (by rw [hs2]; rfl)))
  obtain ⟨a, xs, k, ex, k0, k1, hq, q⟩ := q1
  subst ex
  cases r1 with
  | cons r rr =>
    cases rr with
    | cons r2 rr2 =>
      cases rr2
      cases r
      obtain ⟨tk, rfl⟩ := r2
      obtain ⟨its, rv, p', hz⟩ := I1.list hq
      have hlt : a < s1.heap.objs.size := by
        obtain ⟨o, ho, _⟩ := p'.isList
        exact Heap.lt_size ho
      refine enum_begins (begins_list a its.toArray) p'.isList k0 k1 fun h' he hit hsz hk => wpAny_pyIter_enum he ?_
      have I2 : Inv X pins σ H1 { s1 with heap := h' } := I1.kept (t' := s1.toks) hk
      refine ⟨s1.heap.objs.size + 1, [s1.heap.objs.size + 1, s1.heap.objs.size], _, _, H1, rfl, I2, turn_enumK a (s1.heap.objs.size + 1) s1.heap.objs.size k, ⟨⟨.none, by simpa using he⟩, ⟨_, hit, rfl, rfl⟩, Nat.succ_ne_self _, Nat.ne_of_lt hlt⟩, fun b hb => ?_, q⟩
      have e' : b = s1.heap.objs.size + 1 ∨ b = s1.heap.objs.size := by simpa using hb
      have hle : s1.heap.objs.size ≤ b := by
        rcases e' with z | z
        · rw [z]; exact Nat.le_add_right _ _
        · rw [z]; exact Nat.le_refl _
      exact I1.fpOk hle (I1.hok.fresh hle)
end

/-! ### by data -/
section
variable {K : PySem.W.Frag} {env : En} {ds : List PyData} {N : En → Prop} {R : PyData → Prop} {te : TE} {u : TS}
theorem RpL.dp {F H : Hp} {vs : List V} (h : RpL K F vs ds) (e : Ex F H) : DpAll K H vs ds := RpL.dpA ds vs (h.up e)
theorem RpL.paired {F : Hp} : ∀ {vs : List V} {ds : List PyData}, RpL K F vs ds → Paired (fun v d => Rp K F v d) vs ds
  | _, _, .nil => .nil
  | _, _, .cons a t => .cons a (RpL.paired t)
theorem RpL.pairedB {β : Type} {enc : β → PyData} {F : Hp} : ∀ {vs : List V} {bs : List β}, RpL K F vs (bs.map enc) → Paired (fun v b => Rp K F v (enc b)) vs bs
  | _, [], h => by
    cases h
    exact .nil
  | _, b :: bs, h => by
    cases h with
    | cons h1 h2 => exact .cons h1 (RpL.pairedB h2)
theorem RpL.of_pairedB {β : Type} {enc : β → PyData} {F : Hp} : ∀ {vs : List V} {bs : List β}, Paired (fun v b => Rp K F v (enc b)) vs bs → RpL K F vs (bs.map enc)
  | _, _, .nil => .nil
  | _, _, .cons a t => .cons a (RpL.of_pairedB t)
theorem c_sort {β : Type} {enc : β → PyData} {bs : List β} : CbE K (rSortD K enc) [.list (bs.map enc)] (.list ((bs.mergeSort (dataLe false enc)).map enc)) := fun F H vs Q s r q => by
  obtain ⟨v, rfl, ro⟩ := r.one
  obtain ⟨a, xs, rfl, h1, h2⟩ := ro.of_lst
  refine ⟨a, xs, bs, fun v b => Rp K F v (enc b), rfl, sql_of (s _ _ h1), h2.dp s, h2.pairedB, fun ys p hp hy => ?_⟩
  have t := Step.new (o := .lst ys) s hp
  exact q _ _ _ t (.lst upd_same ((RpL.of_pairedB hy).up t.f))
theorem c_max {x : PyData} (hal : AlikeAll (x :: ds)) (hd : PyData.depthAll (x :: ds) ≤ 8) : CbE K (rMaxD K) [.list (x :: ds)] (maxD x ds) := fun F H vs Q s r q => by
  obtain ⟨v, rfl, ro⟩ := r.one
  obtain ⟨a, xs, rfl, h1, h2⟩ := ro.of_lst
  exact ⟨a, xs, x, ds, fun v d => Rp K F v d, rfl, sql_of (s _ _ h1), h2.dp s, h2.paired, hal, hd, fun v hv => q v F H (Step.refl s) hv⟩
theorem c_maxT {x y : PyData} (hal : AlikeAll [x, y]) (hd : PyData.depthAll [x, y] ≤ 8) : CbE K (rMax2D K) [x, y] (if dataLt x y then y else x) := fun F H vs Q s r q => by
  obtain ⟨v, w, rfl, r1, r2⟩ := r.two
  refine ⟨v, w, x, y, rfl, (r1.up s).dp, (r2.up s).dp, hal, hd, ?_⟩
  cases e : dataLt x y with
  | true =>
    rw [e] at q
    exact q w F H (Step.refl s) r2
  | false =>
    rw [e] at q
    exact q v F H (Step.refl s) r1
theorem st_div {i : Nat} {a b : Int} (hx : env[i]? = some (some (.val (.int a)))) (h : EvE K te env (.int b)) (hc : CDiv a b) (k : N (env.set i (some (.val (.int (a / b)))))) : StE K (tAug i te ipD) env N R := fun F0 H0 F H σ D s ok nx rt => by
  obtain ⟨v, e, r⟩ := ok.val hx
  rw [r.of_int] at e
  exact ⟨_, e, h H0 F H σ _ s.i ok fun v F1 H1 s1 r1 => ⟨a, b, rfl, r1.of_int, hc, nx _ _ F1 H1 s1.f (s.trans s1) ((ok.step s1).set (.int _)) k⟩⟩
theorem q_div {i : Nat} {a b : Int} (hx : env[i]? = some (some (.val (.int a)))) (h : EvE K te env (.int b)) (hc : CDiv a b) (k : StE K u (env.set i (some (.val (.int (a / b))))) N R) : StE K (tSeq (tAug i te ipD) u) env N R :=
  st_seq (M := fun e => e = env.set i (some (.val (.int (a / b))))) (st_div hx h hc rfl) fun e he => by rw [he]; exact k
def enumK : Int → List PyData → List PyData
  | _, [] => []
  | k, d :: ds => .tuple [.int k, d] :: enumK (k + 1) ds
theorem enumK_at : ∀ (k : Int) (ds : List PyData) (i : Nat), (enumK k ds)[i]? = ds[i]?.map fun d => .tuple [.int (k + (i : Nat)), d]
  | _, [], _ => rfl
  | k, d :: ds, 0 => by
    show some _ = some _
    rw [show k + ((0 : Nat) : Int) = k by omega]
  | k, d :: ds, i + 1 => by
    show (enumK (k + 1) ds)[i]? = _
    rw [enumK_at (k + 1) ds i]
    show _ = ds[i]?.map _
    congr 1
    funext d
    rw [show k + 1 + (i : Int) = k + ((i + 1 : Nat) : Int) by omega]
theorem enumK_len : ∀ (k : Int) (ds : List PyData), (enumK k ds).length = ds.length
  | _, [] => rfl
  | k, d :: ds => by
    show (enumK (k + 1) ds).length + 1 = _
    rw [enumK_len (k + 1) ds]
    rfl
theorem i_enum {ta : TA} {k : Int} (h : ArE K ta env [.list ds, .int k]) (h0 : -(2 ^ 63) ≤ k) (h1 : k < 2 ^ 63) : ItE K (iEnumK K ta) env (enumK k ds) := fun H0 F H σ R i ok q =>
  h H0 F H σ _ i ok fun vs F1 H1 s1 r1 => by
    obtain ⟨v, w, rfl, r2, r3⟩ := r1.two
    obtain ⟨a, xs, rfl, g1, g2⟩ := r2.of_lst
    rw [r3.of_int]
    refine ⟨a, xs, k, rfl, h0, h1, sql_of (s1.i _ _ g1), q _ F1 H1 s1 ?_⟩
    have e1 := g2.length
    unfold Serves
    rw [enumK_len, ← e1]
    refine ⟨fun i H hi e => ⟨xs, xs[i], sql_of (e _ _ g1), by simp [hi]⟩, fun H e => ⟨xs, sql_of (e _ _ g1), Nat.le_refl _⟩, fun i H x H' hi e y F2 f2 f3 => ?_⟩
    obtain ⟨T, u, rfl, hT, rfl, hx⟩ := y
    obtain ⟨d, k1, k2⟩ := g2.get (hx xs (sql_of (e _ _ g1)))
    have st := Step.new (o := .tup [.int (k + (i : Nat)), u]) f3 hT
    refine ⟨_, .tuple [.int (k + (i : Nat)), d], st, ?_, .tup (sqt_of upd_same) (.cons (.int _) (.cons (k2.up (f2.trans st.f)) .nil))⟩
    rw [enumK_at, k1]
    rfl
end
end TP

/-! List comprehensions of several clauses: one rule for a level of the loop, put together for two and for four clauses. -/
namespace TP
open PySem L2 PySem.Spec PyProof.Rows
/-- a level's body: from the slots and the heap it is to reach what is wanted -/
abbrev TB := L2.St → Hp → (Hp → Prop) → Prop
/-- the innermost body: the element goes to the list at D -/
def bEmit (te : TE) (D : Addr) : TB := fun σ H Nx => te σ H fun y H1 => ∃ acc, H1 D = some (.lst acc) ∧ acc.length < sizeLine ∧ Nx (upd H1 D (.lst (acc ++ [y])))
/-- a level: a loop whose turns run a body; vs: the slots of this level's target and of those within -/
def bIn (wi : TI) (g : TG) (tt : TT) (vs : List Nat) (body : TB) : TB := fun σ H Nx => wi σ H fun J H1 => ∃ W : Nat → Nat → Hp → Prop, (∃ m, W 0 m H1) ∧ ∀ i m H, W i m H →
  (J.stop i H ∧ Nx H) ∨ (J.go i H ∧ ∃ N : Hp → Prop, (∀ H', N H' → ∃ m', m' < m ∧ W (i + 1) m' H') ∧ ∀ x H', J.yld i H x H' → g x (wipe σ vs) H' fun σ2 H2 => wipe σ2 vs = wipe σ vs ∧ tt σ2 H2 fun b H3 => if b = true then body σ2 H3 N else N H3)
def tLcN (wi : TI) (g : TG) (tt : TT) (vs : List Nat) (body : Addr → TB) : TE := fun σ H Q => wi σ H fun J H1 => ∀ D, H1 D = none → ∃ W : Nat → Nat → Hp → Prop, (∃ m, W 0 m (upd H1 D (.lst []))) ∧ ∀ i m H, W i m H →
  (J.stop i H ∧ Q (.ref D) H) ∨ (J.go i H ∧ ∃ N : Hp → Prop, (∀ H', N H' → ∃ m', m' < m ∧ W (i + 1) m' H') ∧ ∀ x H', J.yld i H x H' → g x (wipe σ vs) H' fun σ2 H2 => wipe σ2 vs = wipe σ vs ∧ tt σ2 H2 fun b H3 => if b = true then body D σ2 H3 N else N H3)

/-! ### the machine's loop at one level -/
/-- what a turn at a level with a level within it does -/
def OutEq (C : Expr) (k : Nat) (t0 i0 : Expr) (ifs0 : List Expr) (i1 : Expr) : Prop := ∀ (it acc : Value) (env : Env), compTurn C k it acc env = (do
  standAt i0.pos
  match ← pyNext it with
  | none => pure (.done .next)
  | some v =>
    letOwnedTupleGo t0 it v
    assign t0 env v
    let mut ok := true
    for c in ifs0 do
      if ok then ok ← isTrue c env (eval c env)
    if ok then
      let x ← eval i1 env
      standAt i1.pos
      let x ← foldedSetIterable i1 env x
      let _ ← runOwn (.compStart C (k + 1) (← holding [x] (pyIter x)) acc env) env
    again (.compLoop C k it acc env))
def InEq (C : Expr) (k : Nat) (t1 i1 : Expr) (ifs1 : List Expr) (elt : Expr) : Prop := ∀ (it acc : Value) (env : Env), compTurn C k it acc env = (do
  standAt i1.pos
  match ← pyNext it with
  | none => pure (.done .next)
  | some v =>
    letOwnedTupleGo t1 it v
    assign t1 env v
    let mut ok := true
    for c in ifs1 do
      if ok then ok ← isTrue c env (eval c env)
    if ok then
      (do let _ ← call (.builtin "list.append") [acc, ← eval elt env])
    again (.compLoop C k it acc env))
/-- a level begins by its loop -/
def StartEq (C : Expr) (k : Nat) : Prop := ∀ (prog : Program) (w : World) (A : Around) (R : Result → Shared → Prop) (s : Shared) (it acc : Value) (env : Env), codeAny (model prog w) A (.compLoop C k it acc env) R s →
  wpAny (model prog w) A (pyIter it) (fun it' s' => codeAny (model prog w) A (.compLoop C k it' acc env) R s') (notedBy (model prog w) A env fun x s' => R (.error x) s') s → codeAny (model prog w) A (.compStart C k it acc env) R s
def tests (ifs : List Expr) (env : Env) : Sem Bool := forIn ifs true fun c r => if r = true then do let ok ← isTrue c env (eval c env); pure (ForInStep.yield ok) else pure (ForInStep.yield r)
section
variable {prog : Program} {w : World} {A : Around} {R : Result → Shared → Prop} {s : Shared} {elt t0 i0 t1 i1 : Expr} {gens : List Comprehension} {scope : Scope} {pos : Pos} {k : Nat} {ifs0 ifs1 : List Expr} {it acc : Value} {env : Env}
abbrev No : Value → Shared → Prop := fun _ _ => False
theorem noF {α : Type} {t : Sem α} {Q Q' : α → Shared → Prop} {E : Value → Shared → Prop} {s : Shared} (h : wpAny (model prog w) A t Q No s) (hQ : ∀ a s, Q a s → Q' a s) : wpAny (model prog w) A t Q' E s := wpAny_mono h hQ fun _ _ z => False.elim z
/-- the machine's loop at a level with a level within it -/
theorem loop_out (he : OutEq (.ListComp elt gens scope pos) k t0 i0 ifs0 i1) (hs : ∀ x, foldedSetIterable i1 env x = pure x) (I : Nat → Shared → Prop)
    (turn : ∀ n s, I n s → wpAny (model prog w) A (pyNext it) (fun r s₁ => match r with
      | none => R (.ok .next) s₁
      | some v => wpAny (model prog w) A (letOwnedTupleGo t0 it v) (fun _ s₂ => wpAny (model prog w) A (assign t0 env v) (fun _ s₃ => wpAny (model prog w) A (tests ifs0 env) (fun ok s₄ =>
            if ok = true then wpAny (model prog w) A (eval i1 env) (fun x s₅ => wpAny (model prog w) A (pyIter x) (fun it1 s₆ => codeAny (model prog w) A (.compStart (.ListComp elt gens scope pos) (k + 1) it1 acc env) (fun r s' => match r with
                | .ok _ => ∃ m, m < n ∧ I m s'
                | .error _ => False) s₆) No s₅) No s₄
            else ∃ m, m < n ∧ I m s₄) No s₃) No s₂) No s₁) No s)
    (n : Nat) (h : I n s) : codeAny (model prog w) A (.compLoop (.ListComp elt gens scope pos) k it acc env) R s := by
  refine codeAny_loop rfl I (fun n s hI => ?_) n h
  show wpAny _ A ((compTurn (.ListComp elt gens scope pos) k it acc env).onRaise (fun x => do noteFrame x env; theTreesLotGoes x)) _ _ s
  refine wpAny_noted ?_
  rw [he]
  refine wpAny_bind (wpAny_standAt (wpAny_bind (noF (turn n s hI) fun r s₁ h₁ => ?_)))
  cases r with
  | none => exact wpAny_pure h₁
  | some v =>
    refine wpAny_bind (noF h₁ fun _ s₂ h₂ => wpAny_bind (noF h₂ fun _ s₃ h₃ => wpAny_bind (noF h₃ fun ok s₄ h₄ => ?_)))
    cases ok with
    | false => exact wpAny_pure ⟨rfl, h₄⟩
    | true =>
      refine wpAny_bind (noF h₄ fun x s₅ h₅ => wpAny_bind (wpAny_standAt (wpAny_bind (wpAny_of_eq (hs x) (wpAny_bind (wpAny_holding (noF h₅ fun it1 s₆ h₆ => wpAny_bind (wpAny_runOwn ?_))))))))
      rw [Around.mark_none]
      refine codeAny_mono h₆ fun r s' hr => ?_
      cases r with
      | ok f =>
        first
          | exact wpAny_pure ⟨rfl, hr⟩
          | exact wpAny_bind (wpAny_pure (wpAny_pure ⟨rfl, hr⟩))
      | error e => exact hr.elim
/-- at the last level -/
theorem loop_in (he : InEq (.ListComp elt gens scope pos) k t1 i1 ifs1 elt) (I : Nat → Shared → Prop)
    (turn : ∀ n s, I n s → wpAny (model prog w) A (pyNext it) (fun r s₁ => match r with
      | none => R (.ok .next) s₁
      | some v => wpAny (model prog w) A (letOwnedTupleGo t1 it v) (fun _ s₂ => wpAny (model prog w) A (assign t1 env v) (fun _ s₃ => wpAny (model prog w) A (tests ifs1 env) (fun ok s₄ =>
            if ok = true then wpAny (model prog w) A (eval elt env) (fun x s₅ => wpAny (model prog w) A (call (.builtin "list.append") [acc, x]) (fun _ s₆ => ∃ m, m < n ∧ I m s₆) No s₅) No s₄
            else ∃ m, m < n ∧ I m s₄) No s₃) No s₂) No s₁) No s)
    (n : Nat) (h : I n s) : codeAny (model prog w) A (.compLoop (.ListComp elt gens scope pos) k it acc env) R s := by
  refine codeAny_loop rfl I (fun n s hI => ?_) n h
  show wpAny _ A ((compTurn (.ListComp elt gens scope pos) k it acc env).onRaise (fun x => do noteFrame x env; theTreesLotGoes x)) _ _ s
  refine wpAny_noted ?_
  rw [he]
  refine wpAny_bind (wpAny_standAt (wpAny_bind (noF (turn n s hI) fun r s₁ h₁ => ?_)))
  cases r with
  | none => exact wpAny_pure h₁
  | some v =>
    refine wpAny_bind (noF h₁ fun _ s₂ h₂ => wpAny_bind (noF h₂ fun _ s₃ h₃ => wpAny_bind (noF h₃ fun ok s₄ h₄ => ?_)))
    cases ok with
    | false => exact wpAny_pure ⟨rfl, h₄⟩
    | true => exact wpAny_bind (wpAny_bind (noF h₄ fun x s₅ h₅ => wpAny_bind (noF h₅ fun _ s₆ h₆ => wpAny_pure (wpAny_pure ⟨rfl, h₆⟩))))
end

/-! ### a level's body is run -/
section
variable {X : Cx} {elt i tg i1 tg1 : Expr} {gens : List Comprehension} {scope : Scope} {pos : Pos} {k : Nat} {ifs ifs1 : List Expr} {D : Addr} {vs vs1 : List Nat} {body : TB} {te : TE} {wi wi1 : TI} {g g1 : TG} {tt tt1 : TT}
/-- what is known of the slots behind a body whose targets are vs -/
def Kn (vs : List Nat) (σ σ' : L2.St) : Prop := σ'.length = σ.length ∧ ∀ (j : Nat) v, (wipe σ vs)[j]? = some (some v) → σ'[j]? = some (some v)
/-- the machine runs the clause k, whose source is i, as the body says -/
def Runs (X : Cx) (C : Expr) (k : Nat) (i : Expr) (D : Addr) (vs : List Nat) (body : TB) : Prop := ∀ (pins : List (Addr × Obj)) (σ : L2.St) (H : Hp) (s : Shared) (Nx : Hp → Prop), Inv X pins σ H s → body σ H Nx →
  wpAny (model X.prog X.w) X.A (eval i X.env) (fun x s1 => wpAny (model X.prog X.w) X.A (pyIter x) (fun it s2 => codeAny (model X.prog X.w) X.A (.compStart C k it (.ref D) X.env) (fun r s' => match r with
    | .ok _ => ∃ σ' H', Inv X pins σ' H' s' ∧ Kn vs σ σ' ∧ Nx H'
    | .error _ => False) s2) No s1) No s
theorem keepK {pins : List (Addr × Obj)} {σ σ2 σ' : L2.St} {H : Hp} {s : Shared} (I : Inv X pins σ' H s) (hw : wipe σ2 vs = wipe σ vs) (hv : ∀ j ∈ vs1, j ∈ vs) (kn : Kn vs1 σ2 σ') : Inv X pins (wipe σ vs) H s := by
  have l2 : σ2.length = σ.length := by
    have := congrArg List.length hw
    rw [wipe_length, wipe_length] at this
    exact this
  refine I.weak (by rw [wipe_length, kn.1, l2]) fun j v e => kn.2 j v ?_
  rw [← hw] at e
  obtain ⟨e1, e2⟩ := wipe_some e
  rw [wipe_out fun z => e2 (hv j z)]
  exact e1
theorem Kn.refl (σ : L2.St) : Kn vs σ σ := ⟨rfl, fun j v e => (wipe_some e).1⟩
/-- the last clause -/
theorem runs_last (hc : X.calm = true) (hxe : X.xe = No) (hst : StartEq (.ListComp elt gens scope pos) k) (heq : InEq (.ListComp elt gens scope pos) k tg i ifs elt) (pi : PI X tg i wi) (pg : PG X tg g) (pt : PTs X ifs tt) (pe : PE X elt te) :
    Runs X (.ListComp elt gens scope pos) k i D vs (bIn wi g tt vs (bEmit te D)) := by
  intro pins σ H s Nx I q
  have pir := pi.run pins s σ H _ I q
  rw [hxe] at pir
  refine noF pir fun xv s1 h1 => noF h1 fun itv s2 h2 => ?_
  obtain ⟨it, fp, tn, J, H2, rfl, I2, T, st2, f2, W, ⟨m0, w0⟩, turn⟩ := h2
  have fpok : ∀ {H' : Hp}, (∀ b ∈ fp, H' b = none) → ∀ b ∈ fp, FpOk X pins H' b := fun hn b hb => ⟨hn b hb, (f2 b hb).2⟩
  have lp : codeAny (model X.prog X.w) X.A (.compLoop (.ListComp elt gens scope pos) k (.ref it) (.ref D) X.env) (fun r s' => match r with
      | .ok _ => ∃ σ' H', Inv X pins σ' H' s' ∧ Kn vs σ σ' ∧ Nx H'
      | .error _ => False) s2 := by
    refine loop_in heq (fun n s' => ∃ j H', Inv X pins (wipe σ vs) H' s' ∧ tn j s'.heap ∧ (∀ b ∈ fp, H' b = none) ∧ W j n H') ?_ m0 ⟨0, H2, I2.weak (wipe_length _ _) (fun j v e => (wipe_some e).1), st2, fun b hb => (f2 b hb).1, w0⟩
    rintro n s3 ⟨j, H3, I3, st3, n3, w3⟩
    rcases turn j n H3 w3 with ⟨stop, nx⟩ | ⟨go, N, hN, step⟩
    · refine noF (T.done X rfl rfl rfl hc j _ s3 _ H3 No I3 (fpok n3) st3 stop) fun r s4 ⟨hr, I4⟩ => ?_
      subst hr
      exact ⟨_, H3, I4, ⟨wipe_length _ _, fun j v e => e⟩, nx⟩
    · refine noF (T.item X rfl rfl rfl hc j _ s3 _ H3 No I3 (fpok n3) st3 go) fun r s4 ⟨u, hr, h4⟩ => ?_
      subst hr
      refine noF h4 fun _ s5 ⟨x, H5, I5, r5, y5, st5, n5⟩ => ?_
      have pgr := pg.run _ s5 _ H5 x u _ (I5.pinned (fpok n5) (T.obj _ _ st5)) r5 (step x H5 y5)
      rw [hxe] at pgr
      refine noF pgr fun _ s6 ⟨σ6, H6, I6, hw6, q6⟩ => ?_
      have ptr := pt.run _ s6 σ6 H6 _ I6 q6
      rw [hxe] at ptr
      refine noF ptr fun b s7 ⟨H7, I7, q7⟩ => ?_
      have fin : ∀ {σ' : L2.St} {s' : Shared} {H' : Hp}, Inv X (pins ++ pinsAt fp s5.heap) σ' H' s' → Kn vs σ6 σ' → N H' → ∃ m, m < n ∧ ∃ j H', Inv X pins (wipe σ vs) H' s' ∧ tn j s'.heap ∧ (∀ b ∈ fp, H' b = none) ∧ W j m H' := fun {σ' s' H'} I' kn nx => by
        obtain ⟨m', hm, w'⟩ := hN H' nx
        have pin' : ∀ b ∈ fp, ∀ o, s5.heap.get? b = some o → s'.heap.get? b = some o ∧ H' b = none := fun b hb o e =>
          let z := I'.pin (b, o) (List.mem_append_right _ (List.mem_append_right _ (mem_pinsAt hb e)))
          ⟨z.1, z.2.1⟩
        refine ⟨m', hm, j + 1, H', keepK I'.unpinned hw6 (fun _ h => h) kn, T.keep _ _ _ st5 fun b hb o e => (pin' b hb o e).1, fun b hb => ?_, w'⟩
        obtain ⟨o, e, _⟩ := T.obj _ _ st5 b hb
        exact (pin' b hb o e).2
      cases b with
      | false =>
        simp only [Bool.false_eq_true, if_false] at q7 ⊢
        exact fin I7 (Kn.refl _) q7
      | true =>
        simp only [if_true] at q7 ⊢
        have per := pe.run _ s7 σ6 H7 _ I7 q7
        rw [hxe] at per
        refine noF per fun z s8 ⟨yv, H8, I8, r8, acc, hD8, hz8, nx⟩ => ?_
        exact app_ok I8 hD8 hz8 r8 fun s9 I9 => fin I9 (Kn.refl _) nx
  exact hst X.prog X.w X.A _ _ _ _ _ lp (T.self X.A 0 _ _ _ st2 lp)
/-- a clause with one within it -/
theorem runs_more (hc : X.calm = true) (hxe : X.xe = No) (hst : StartEq (.ListComp elt gens scope pos) k) (heq : OutEq (.ListComp elt gens scope pos) k tg i ifs i1) (hs1 : ∀ x, foldedSetIterable i1 X.env x = pure x) (hv : ∀ j ∈ vs1, j ∈ vs)
    (pi : PI X tg i wi) (pg : PG X tg g) (pt : PTs X ifs tt) (hr1 : Runs X (.ListComp elt gens scope pos) (k + 1) i1 D vs1 body) :
    Runs X (.ListComp elt gens scope pos) k i D vs (bIn wi g tt vs body) := by
  intro pins σ H s Nx I q
  have pir := pi.run pins s σ H _ I q
  rw [hxe] at pir
  refine noF pir fun xv s1 h1 => noF h1 fun itv s2 h2 => ?_
  obtain ⟨it, fp, tn, J, H2, rfl, I2, T, st2, f2, W, ⟨m0, w0⟩, turn⟩ := h2
  have fpok : ∀ {H' : Hp}, (∀ b ∈ fp, H' b = none) → ∀ b ∈ fp, FpOk X pins H' b := fun hn b hb => ⟨hn b hb, (f2 b hb).2⟩
  have lp : codeAny (model X.prog X.w) X.A (.compLoop (.ListComp elt gens scope pos) k (.ref it) (.ref D) X.env) (fun r s' => match r with
      | .ok _ => ∃ σ' H', Inv X pins σ' H' s' ∧ Kn vs σ σ' ∧ Nx H'
      | .error _ => False) s2 := by
    refine loop_out heq hs1 (fun n s' => ∃ j H', Inv X pins (wipe σ vs) H' s' ∧ tn j s'.heap ∧ (∀ b ∈ fp, H' b = none) ∧ W j n H') ?_ m0 ⟨0, H2, I2.weak (wipe_length _ _) (fun j v e => (wipe_some e).1), st2, fun b hb => (f2 b hb).1, w0⟩
    rintro n s3 ⟨j, H3, I3, st3, n3, w3⟩
    rcases turn j n H3 w3 with ⟨stop, nx⟩ | ⟨go, N, hN, step⟩
    · refine noF (T.done X rfl rfl rfl hc j _ s3 _ H3 No I3 (fpok n3) st3 stop) fun r s4 ⟨hr, I4⟩ => ?_
      subst hr
      exact ⟨_, H3, I4, ⟨wipe_length _ _, fun j v e => e⟩, nx⟩
    · refine noF (T.item X rfl rfl rfl hc j _ s3 _ H3 No I3 (fpok n3) st3 go) fun r s4 ⟨u, hr, h4⟩ => ?_
      subst hr
      refine noF h4 fun _ s5 ⟨x, H5, I5, r5, y5, st5, n5⟩ => ?_
      have pgr := pg.run _ s5 _ H5 x u _ (I5.pinned (fpok n5) (T.obj _ _ st5)) r5 (step x H5 y5)
      rw [hxe] at pgr
      refine noF pgr fun _ s6 ⟨σ6, H6, I6, hw6, q6⟩ => ?_
      have ptr := pt.run _ s6 σ6 H6 _ I6 q6
      rw [hxe] at ptr
      refine noF ptr fun b s7 ⟨H7, I7, q7⟩ => ?_
      have fin : ∀ {σ' : L2.St} {s' : Shared} {H' : Hp} {ws : List Nat}, (∀ j ∈ ws, j ∈ vs) → Inv X (pins ++ pinsAt fp s5.heap) σ' H' s' → Kn ws σ6 σ' → N H' → ∃ m, m < n ∧ ∃ j H', Inv X pins (wipe σ vs) H' s' ∧ tn j s'.heap ∧ (∀ b ∈ fp, H' b = none) ∧ W j m H' := fun {σ' s' H' ws} hws I' kn nx => by
        obtain ⟨m', hm, w'⟩ := hN H' nx
        have pin' : ∀ b ∈ fp, ∀ o, s5.heap.get? b = some o → s'.heap.get? b = some o ∧ H' b = none := fun b hb o e =>
          let z := I'.pin (b, o) (List.mem_append_right _ (List.mem_append_right _ (mem_pinsAt hb e)))
          ⟨z.1, z.2.1⟩
        refine ⟨m', hm, j + 1, H', keepK I'.unpinned hw6 hws kn, T.keep _ _ _ st5 fun b hb o e => (pin' b hb o e).1, fun b hb => ?_, w'⟩
        obtain ⟨o, e, _⟩ := T.obj _ _ st5 b hb
        exact (pin' b hb o e).2
      cases b with
      | false =>
        simp only [Bool.false_eq_true, if_false] at q7 ⊢
        exact fin (fun _ h => h) I7 (Kn.refl _) q7
      | true =>
        simp only [if_true] at q7 ⊢
        refine noF (hr1 _ σ6 H7 s7 N I7 q7) fun x s8 h8 => noF h8 fun it1 s9 h9 => codeAny_mono h9 fun r s' hr => ?_
        cases r with
        | ok f =>
          obtain ⟨σ', H', I', kn, nx⟩ := hr
          exact fin hv I' kn nx
        | error e => exact hr.elim
  exact hst X.prog X.w X.A _ _ _ _ _ lp (T.self X.A 0 _ _ _ st2 lp)
/-- the block of a comprehension, behind its first clause -/
def AllBlk (X : Cx) (scope : Scope) (P : Cx → Prop) : Prop := ∀ (s : Shared) (H : Hp) (C : Addr) (cl : List (Str × Addr)) (fp : List Addr), P (X.blk s H scope (compEnvC scope cl C X.env) fp)
theorem lcN_core {pins : List (Addr × Obj)} {s : Shared} {σ : L2.St} {H : Hp} {Q : VK} {rest : List Comprehension} {own : List (Str × Nat)} {pos' : Pos} {body : Addr → TB} {use : Option (Value → Sem Unit)} {Qf : Value → Shared → Prop}
    (hc : X.calm = true) (hN : X.N.Nodup) (I : Inv X pins σ H s) (hi : PI X tg i wi) (ok : BlkOk X.N X.env.scope scope own) (hv : ∀ j ∈ vs1, j ∈ own.map (·.2)) (heq : OutEq (.ListComp elt (⟨tg, i, ifs, 0⟩ :: rest) scope pos) 0 tg i ifs i1)
    (hg : AllBlk X scope fun Y => PG Y tg g) (ht : AllBlk X scope fun Y => PTs Y ifs tt) (hs : ∀ x, foldedSetIterable i X.env x = pure x) (hs1 : ∀ env x, foldedSetIterable i1 env x = pure x)
    (hr : ∀ D, AllBlk X scope fun Y => Runs Y (.ListComp elt (⟨tg, i, ifs, 0⟩ :: rest) scope pos) 1 i1 D vs1 (body D)) (h : tLcN wi g tt (own.map (·.2)) body σ H Q)
    (fin : ∀ D C s' m H', Inv X pins σ H' s' → Q (.ref D) H' → s'.heap.Ns C m → FpOk X pins H' C → compPost (model X.prog X.w) X.A X.xe use Qf (.ref D) C (.ok .next) s') :
    wpAny (model X.prog X.w) X.A (comprehension (.ListComp elt (⟨tg, i, ifs, 0⟩ :: rest) scope pos) scope X.env pos' (newList []) false (eval i X.env) use) Qf X.xe s := by
  have hfree : ∀ y ∈ scope.names, y.2 = .free → ∃ c, X.env.cells.lookup y.1 = some c := fun y hy e => (ok.free y hy e).elim (fun k => I.ok.has _ (.inl k)) fun k => I.ok.has _ (.inr k)
  refine wpAny_comprehension_free (use := use) rfl hs (closure_ok hfree) ok.kind (fun y hy e => by rw [ok.uniq y hy, e]) (thn (hi.run pins s σ H _ I h) fun xv s1 hx => thn hx fun itv s2 h2 => ?_)
  obtain ⟨it, fp, tn, J, H2, rfl, I2, T, st2, f2, q⟩ := h2
  refine wpAny_newObj_type (newEnv_comp ?_) (Nat.zero_le _)
  obtain ⟨D, hD⟩ : ∃ D, s2.heap.objs.size = D := ⟨_, rfl⟩
  have hDn : H2 D = none := I2.hok.fresh (Nat.le_of_eq hD)
  obtain ⟨W, ⟨m0, w0⟩, turn⟩ := q D hDn
  rw [hD]
  obtain ⟨s3, hs3⟩ : ∃ s3 : Shared, ({ s2 with heap := s2.heap.push { cls := .type "list", data := .seq ([] : List Value).toArray } } : Shared) = s3 := ⟨_, rfl⟩
  have h3 : s3.heap = s2.heap.push { cls := .type "list", data := .seq ([] : List Value).toArray } := by rw [← hs3]
  have kp3 : ∀ b o, s2.heap.get? b = some o → s3.heap.get? b = some o := fun b o e => by rw [h3]; exact Heap.get?_push_of_some _ e
  have I3 : Inv X pins σ (upd H2 D (.lst [])) s3 := by
    rw [← hs3]
    refine I2.laid (t' := s2.toks) (fun b o e => Heap.get?_push_of_some _ e) (Nat.le_of_eq hD) ⟨Nat.zero_le _, [], 0, .nil, ?_⟩
    rw [← hD]
    exact Heap.get?_push_size _ rfl
  have lt2 : ∀ b ∈ fp, b < s2.heap.objs.size := fun b hb => Heap.lt_size (T.obj _ _ st2 b hb).choose_spec.1
  have f3 : ∀ b ∈ fp, FpOk X pins (upd H2 D (.lst [])) b ∧ b < s3.heap.objs.size := fun b hb =>
    ⟨⟨by rw [upd_ne (by rw [← hD]; exact Nat.ne_of_lt (lt2 b hb))]; exact (f2 b hb).1, (f2 b hb).2⟩, by rw [h3, Heap.size_push]; exact Nat.lt_succ_of_lt (lt2 b hb)⟩
  have I4 := block_start I3 ok hN f3
  have pg := hg s3 (upd H2 D (.lst [])) s3.heap.objs.size (cellsFrom (s3.heap.objs.size + 1) scope.names (cloFrom X.env.cells scope.names [])) fp
  have pt := ht s3 (upd H2 D (.lst [])) s3.heap.objs.size (cellsFrom (s3.heap.objs.size + 1) scope.names (cloFrom X.env.cells scope.names [])) fp
  have pr := hr D s3 (upd H2 D (.lst [])) s3.heap.objs.size (cellsFrom (s3.heap.objs.size + 1) scope.names (cloFrom X.env.cells scope.names [])) fp
  rw [hs3]
  show codeAny _ _ (.compStart (.ListComp elt (⟨tg, i, ifs, 0⟩ :: rest) scope pos) 0 (.ref it) (.ref D) (compEnvC scope (cellsFrom (s3.heap.objs.size + 1) scope.names (cloFrom X.env.cells scope.names [])) s3.heap.objs.size X.env)) (compPost (model X.prog X.w) X.A X.xe use Qf (.ref D) s3.heap.objs.size) { s3 with heap := pushCells (s3.heap.push { cls := .type "dict", data := .dict #[] }) scope.names }
  have nfp : ∀ b ∈ fp, (upd H2 D (.lst [])) b = none := fun b hb => (f3 b hb).1.1
  have hkeep4 : ∀ b o, s3.heap.get? b = some o → (pushCells (s3.heap.push { cls := .type "dict", data := .dict #[] }) scope.names).get? b = some o := fun b o e => pushCells_keeps _ _ _ _ (Heap.get?_push_of_some _ e)
  generalize hce : compEnvC scope (cellsFrom (s3.heap.objs.size + 1) scope.names (cloFrom X.env.cells scope.names [])) s3.heap.objs.size X.env = ce at I4 pg pt pr ⊢
  have cL : ce.locals = s3.heap.objs.size := by
    subst hce
    rfl
  generalize hH3 : upd H2 D (.lst []) = H3 at I3 I4 pg pt pr w0 nfp f3
  generalize hs4 : ({ s3 with heap := pushCells (s3.heap.push { cls := .type "dict", data := .dict #[] }) scope.names } : Shared) = s4 at I4 ⊢
  have st4 : tn 0 s4.heap := T.keep _ _ _ st2 fun b _ o e => by rw [← hs4]; exact hkeep4 b o (kp3 b o e)
  let Y : Cx := X.blk s3 H3 scope ce fp
  have fpok : ∀ {σ' : L2.St} {H' : Hp} {s' : Shared}, Inv Y [] σ' H' s' → (∀ b ∈ fp, H' b = none) → ∀ b ∈ fp, FpOk Y [] H' b := fun {σ' H' s'} I' hn b hb =>
    ⟨hn b hb, (I'.ok.exf b hb).1, I'.ok.exfs b hb, .inl hb, fun x c e => (I'.ok.exf b hb).2 x c e, fun p hp => absurd (show p ∈ ([] : List (Addr × Obj)) ++ [] from hp) (by simp)⟩
  have lp : codeAny (model X.prog X.w) X.A (.compLoop (.ListComp elt (⟨tg, i, ifs, 0⟩ :: rest) scope pos) 0 (.ref it) (.ref D) ce) (compPost (model X.prog X.w) X.A X.xe use Qf (.ref D) s3.heap.objs.size) s4 := by
    refine loop_out heq (hs1 ce) (fun n s' => ∃ j H', Inv Y [] (wipe σ (own.map (·.2))) H' s' ∧ tn j s'.heap ∧ (∀ b ∈ fp, H' b = none) ∧ W j n H') ?_ m0 ⟨0, H3, I4, st4, nfp, w0⟩
    rintro n s5 ⟨j, H5, I5, st5, n5, w5⟩
    rcases turn j n H5 w5 with ⟨stop, qq⟩ | ⟨go, N, hNN, step⟩
    · refine noF (T.done Y rfl rfl rfl hc j [] s5 _ H5 No I5 (fpok I5 n5) st5 stop) fun r s6 ⟨hr', I6⟩ => ?_
      subst hr'
      have I7 : Inv X pins σ H5 s6 := I3.call' (ch := fp) I6.os I6.base I6.hok I6.bare fun b hb => ⟨(f3 b hb).1.2.2.2.1, (f3 b hb).1.2.1, (f3 b hb).1.2.2.2.2.1, (f3 b hb).1.2.2.2.2.2⟩
      have nC : H5 s3.heap.objs.size = none := by
        rw [← cL]
        exact I6.free
      obtain ⟨m, hn, _⟩ := I6.loc
      have hn' : s6.heap.Ns s3.heap.objs.size m := by
        rw [← cL]
        exact hn
      exact fin D _ s6 m H5 I7 qq hn' (I3.fpOk (Nat.le_refl _) nC)
    · refine noF (T.item Y rfl rfl rfl hc j [] s5 _ H5 No I5 (fpok I5 n5) st5 go) fun r s6 ⟨u, hr', h6⟩ => ?_
      subst hr'
      refine noF h6 fun _ s7 ⟨x, H7, I7, r7, y7, st7, n7⟩ => ?_
      refine noF (pg.run _ s7 _ H7 x u _ (I7.pinned (fpok I7 n7) (T.obj _ _ st7)) r7 (step x H7 y7)) fun _ s8 ⟨σ8, H8, I8, hw8, q8⟩ => ?_
      refine noF (pt.run _ s8 σ8 H8 _ I8 q8) fun b s9 ⟨H9, I9, q9⟩ => ?_
      have fin1 : ∀ {σ' : L2.St} {s' : Shared} {H' : Hp} {ws : List Nat}, (∀ j ∈ ws, j ∈ own.map (·.2)) → Inv Y ([] ++ pinsAt fp s7.heap) σ' H' s' → Kn ws σ8 σ' → N H' → ∃ m, m < n ∧ ∃ j H', Inv Y [] (wipe σ (own.map (·.2))) H' s' ∧ tn j s'.heap ∧ (∀ b ∈ fp, H' b = none) ∧ W j m H' := fun {σ' s' H' ws} hws I' kn nx => by
        obtain ⟨m', hm, w'⟩ := hNN H' nx
        have pin' : ∀ b ∈ fp, ∀ o, s7.heap.get? b = some o → s'.heap.get? b = some o ∧ H' b = none := fun b hb o e =>
          let z := I'.pin (b, o) (List.mem_append_right _ (List.mem_append_right _ (mem_pinsAt hb e)))
          ⟨z.1, z.2.1⟩
        refine ⟨m', hm, j + 1, H', keepK (I'.unpinned (pins := [])) hw8 hws kn, T.keep _ _ _ st7 fun b hb o e => (pin' b hb o e).1, fun b hb => ?_, w'⟩
        obtain ⟨o, e, _⟩ := T.obj _ _ st7 b hb
        exact (pin' b hb o e).2
      cases b with
      | false =>
        simp only [Bool.false_eq_true, if_false] at q9 ⊢
        exact fin1 (fun _ h => h) I9 (Kn.refl _) q9
      | true =>
        simp only [if_true] at q9 ⊢
        refine noF (pr _ σ8 H9 s9 N I9 q9) fun x s10 h10 => noF h10 fun it1 s11 h11 => codeAny_mono h11 fun r s' hr' => ?_
        cases r with
        | ok f =>
          obtain ⟨σ', H', I', kn, nx⟩ := hr'
          exact fin1 hv I' kn nx
        | error e => exact hr'.elim
  exact codeAny_compStart_list lp (T.self X.A 0 _ _ _ st4 lp)
theorem pe_lcN {rest : List Comprehension} {own : List (Str × Nat)} {body : Addr → TB} (hc : X.calm = true) (hN : X.N.Nodup) (hi : PI X tg i wi) (ok : BlkOk X.N X.env.scope scope own) (hv : ∀ j ∈ vs1, j ∈ own.map (·.2)) (heq : OutEq (.ListComp elt (⟨tg, i, ifs, 0⟩ :: rest) scope pos) 0 tg i ifs i1)
    (hg : AllBlk X scope fun Y => PG Y tg g) (ht : AllBlk X scope fun Y => PTs Y ifs tt) (hr : ∀ D, AllBlk X scope fun Y => Runs Y (.ListComp elt (⟨tg, i, ifs, 0⟩ :: rest) scope pos) 1 i1 D vs1 (body D))
    (hs : ∀ x, foldedSetIterable i X.env x = pure x := by intro _; rfl) (hs1 : ∀ env x, foldedSetIterable i1 env x = pure x := by intro _ _; rfl) : PE X (.ListComp elt (⟨tg, i, ifs, 0⟩ :: rest) scope pos) (tLcN wi g tt (own.map (·.2)) body) := by
  refine ⟨fun pins s σ H Q I h => ?_⟩
  rw [eval_ListComp]
  refine lcN_core hc hN I hi ok hv heq hg ht hs hs1 hr h fun D C s' m H' I' q hn f => ⟨m, hn, fun h'' sb => ?_⟩
  obtain ⟨f0, f1, f2, f3, f4, f5⟩ := f
  exact ⟨.ref D, H', I'.turned (t' := s'.toks) (fun b o hb e => (sb.2 b hb).trans e) f0 f1 f3 f4 f5, rfl, q⟩
theorem ps_setLcN {j : Nat} {y : Str} {py spos : Pos} {rest : List Comprehension} {own : List (Str × Nat)} {body : Addr → TB} (hc : X.calm = true) (hN : X.N.Nodup) (hy : X.N[j]? = some y) (hyl : X.env.scope.names.lookup y = some .local)
    (hsw : swapsWith (.ListComp elt (⟨tg, i, ifs, 0⟩ :: rest) scope pos) (some (.Name y py)) spos.line X.env = pure true) (hi : PI X tg i wi) (ok : BlkOk X.N X.env.scope scope own) (hv : ∀ j ∈ vs1, j ∈ own.map (·.2)) (heq : OutEq (.ListComp elt (⟨tg, i, ifs, 0⟩ :: rest) scope pos) 0 tg i ifs i1)
    (hg : AllBlk X scope fun Y => PG Y tg g) (ht : AllBlk X scope fun Y => PTs Y ifs tt) (hr : ∀ D, AllBlk X scope fun Y => Runs Y (.ListComp elt (⟨tg, i, ifs, 0⟩ :: rest) scope pos) 1 i1 D vs1 (body D))
    (hs : ∀ x, foldedSetIterable i X.env x = pure x := by intro _; rfl) (hs1 : ∀ env x, foldedSetIterable i1 env x = pure x := by intro _ _; rfl) : PS X (.Assign [.Name y py] (.ListComp elt (⟨tg, i, ifs, 0⟩ :: rest) scope pos) spos) (tAsg (tLcN wi g tt (own.map (·.2)) body) (gName j)) := by
  refine ⟨fun pins s σ H E I h => ?_⟩
  rw [exec_Assign_Name_used _ _ _ _ hsw]
  refine wpAny_bind (wpAny_standAt (wpAny_bind ?_))
  show wpAny _ X.A (do let _ ← comprehension (.ListComp elt (⟨tg, i, ifs, 0⟩ :: rest) scope pos) scope X.env (firstIterPos (⟨tg, i, ifs, 0⟩ :: rest) pos) (newList []) false (eval i X.env) (some (assign (.Name y py) X.env))) _ _ s
  have h : tLcN wi g tt (own.map (·.2)) body σ H (fun x H1 => gName j x σ H1 E.nx) := h
  refine wpAny_bind (thn (lcN_core (Qf := fun _ s' => SP X pins E .next s') hc hN I hi ok hv heq hg ht hs hs1 hr h fun L C s' m H' I' q hn f => ?_) fun _ s' hq => wpAny_pure (wpAny_pure hq))
  show wpAny _ _ (assign (.Name y py) X.env (.ref L)) _ _ _
  refine wpAny_assign_Name (store_ok2 (v := V.ref L) I' hN hy (.inl hyl) rfl (fun s2 I2 ⟨a, sb, ha⟩ => ?_) (.inr hyl))
  obtain ⟨f0, f1, f2, f3, f4, f5⟩ := f
  have haC : C ≠ a := ha.elim (fun z => by rw [z]; exact f1) fun z e => f4 y a z e.symm
  exact ⟨m, hn.sameBut sb haC, fun h3 sb3 => ⟨_, H', I2.turned (t' := s2.toks) (fun b o hb e => (sb3.2 b hb).trans e) f0 f1 f3 f4 f5, q⟩⟩
end
end TP

/-! Comprehensions of several clauses by data; a level begins by its loop. -/
namespace TP
open PySem L2 PySem.Spec PyProof.Rows
theorem start_eq {elt : Expr} {gens : List Comprehension} {scope : Scope} {pos : Pos} {k : Nat} {g : Comprehension} (h : (clausesOf (.ListComp elt gens scope pos))[k]? = some g) (ha : (g.is_async != 0) = false) : StartEq (.ListComp elt gens scope pos) k := by
  intro prog w A R s it acc env h0 h1
  refine codeAny_of_tree ?_
  show wpAny _ _ ((compStart (.ListComp elt gens scope pos) k it acc env).onRaise (fun x => do noteFrame x env; standAt theWindowsPlace)) _ _ s
  refine wpAny_notedAt ?_
  unfold compStart
  rw [h]
  simp only [Option.elim, ha]
  show wpAny _ _ (ask >>= _) _ _ s
  refine wpAny_bind (wpAny_askSetting (wpAny_ite ?_))
  split
  · first
      | exact wpAny_bind (wpAny_pure (wpAny_pure (And.intro rfl h0)))
      | exact wpAny_pure (And.intro rfl h0)
  · first
      | exact wpAny_bind (wpAny_rule (wpAny_bind (wpAny_standAt (wpAny_bind (wpAny_mono h1 (fun it' s' h' => wpAny_pure (And.intro rfl h')) fun _ _ x => x)))))
      | (refine wpAny_bind (wpAny_rule ?_); show wpAny _ _ (standAt g.iter.pos >>= _) _ _ s; exact wpAny_bind (wpAny_standAt (wpAny_bind (wpAny_mono h1 (fun it' s' h' => wpAny_pure (And.intro rfl h')) fun _ _ x => x))))
def noOwn (env : En) : Bool := env.all fun b => match b with
  | some (.own _) => false
  | _ => true
/-- all but D is kept -/
structure StepD (D : Addr) (F H F' H' : Hp) : Prop where
  f : Ex F F'
  h : ∀ a o, a ≠ D → H a = some o → H' a = some o
  i : Ex F' H'
  s : ∀ a, F a = none → H a ≠ none → F' a = none
section
variable {K : PySem.W.Frag} {env env' : En} {D : Addr} {F H F' H' F2 H2 H0 : Hp} {σ : L2.St}
theorem StepD.refl (i : Ex F H) : StepD D F H F H := ⟨Ex.refl F, fun _ _ _ h => h, i, fun _ h _ => h⟩
theorem StepD.trans (a : StepD D F H F' H') (hF : F D = none) (hF' : F' D = none) (b : StepD D F' H' F2 H2) (hF2 : F2 D = none) : StepD D F H F2 H2 :=
  ⟨a.f.trans b.f, fun x o n e => b.h x o n (a.h x o n e), b.i, fun x h1 h2 => by
    by_cases q : x = D
    · rw [q]
      exact hF2
    · refine b.s x (a.s x h1 h2) fun z => ?_
      cases e : H x with
      | none => exact h2 e
      | some o =>
        rw [a.h x o q e] at z
        cases z⟩
theorem Step.toD (a : Step F H F' H') : StepD D F H F' H' := ⟨a.f, fun x o _ e => a.h x o e, a.i, a.s⟩
theorem EnvOk.stepD (e : EnvOk K H0 F H σ env) (hn : noOwn env = true) (s : StepD D F H F' H') : EnvOk K H0 F' H' σ env := by
  have no : ∀ (i : Nat) (ds : List PyData), env[i]? ≠ some (some (.own ds)) := fun i ds h => by
    have := List.all_eq_true.mp hn _ (List.mem_of_getElem? h)
    simp at this
  refine ⟨e.len, fun i b h => ?_, fun i j ds es p h => absurd h (no i ds)⟩
  cases b with
  | val d =>
    obtain ⟨v, h1, h2⟩ := e.val h
    exact ⟨v, h1, h2.up s.f⟩
  | own ds => exact absurd h (no i ds)
/-- a level's body adds these to the list at D -/
def BoE (K : PySem.W.Frag) (body : TB) (D : Addr) (env : En) (ds : List PyData) : Prop := ∀ (H0 F H : Hp) (σ : L2.St) (ws : List V) (Nx : Hp → Prop), Ex F H → F D = none → H D = some (.lst ws) → EnvOk K H0 F H σ env → ws.length + ds.length ≤ 50000 →
  (∀ F' H' ws', StepD D F H F' H' → F' D = none → H' D = some (.lst (ws ++ ws')) → RpL K F' ws' ds → Nx H') → body σ H Nx
theorem b_emit {te : TE} {d : PyData} (h : EvE K te env d) : BoE K (bEmit te D) D env [d] := fun H0 F H σ ws Nx i fD hD ok hl q =>
  h H0 F H σ _ i ok fun v F1 H1 s1 r1 => by
    have fD1 : F1 D = none := s1.s D fD (by rw [hD]; intro z; cases z)
    have hD1 : H1 D = some (.lst ws) := s1.h _ _ hD
    refine ⟨ws, hD1, lt_line (by simp at hl; omega), q F1 _ [v] ⟨s1.f, fun a o n e => ?_, fun a o e => ?_, s1.s⟩ fD1 upd_same (.cons r1 .nil)⟩
    · rw [upd_ne n]
      exact s1.h a o e
    · rw [upd_ne (ne_of_none e fD1)]
      exact s1.i a o e
theorem noOwn_wipe {vs : List Nat} (hn : noOwn env = true) : noOwn (wipeE env vs) = true := by
  refine List.all_eq_true.mpr fun b hb => ?_
  obtain ⟨j, hj⟩ := List.getElem?_of_mem hb
  cases b with
  | none => rfl
  | some b =>
    obtain ⟨h1, _⟩ := wipeE_some hj
    exact List.all_eq_true.mp hn _ (List.mem_of_getElem? h1)
theorem level {α : Type} {g : TG} {vs : List Nat} {body : TB} {J : It} {ws : List V} (L : List α) (enc : α → PyData) (f : α → List PyData) (sv : Serves K J F (L.map enc)) (i1 : Ex F H) (fD : F D = none) (hD : H D = some (.lst ws))
    (okw : EnvOk K H0 F H (wipe σ vs) (wipeE env vs)) (hnw : noOwn (wipeE env vs) = true) (hl : ws.length + (L.flatMap f).length ≤ 50000)
    (hs : ∀ (i : Nat) (a : α), L[i]? = some a → ∃ e', TgE K g vs (wipeE env vs) (enc a) e' ∧ BoE K body D e' (f a)) (Nx : Hp → Prop)
    (q : ∀ F' H' ws', StepD D F H F' H' → F' D = none → H' D = some (.lst (ws ++ ws')) → RpL K F' ws' (L.flatMap f) → Nx H') :
    ∃ W : Nat → Nat → Hp → Prop, (∃ m, W 0 m H) ∧ ∀ i m H, W i m H →
      (J.stop i H ∧ Nx H) ∨ (J.go i H ∧ ∃ N : Hp → Prop, (∀ H', N H' → ∃ m', m' < m ∧ W (i + 1) m' H') ∧ ∀ x H', J.yld i H x H' → g x (wipe σ vs) H' fun σ2 H2 => wipe σ2 vs = wipe σ vs ∧ tYes σ2 H2 fun b H3 => if b = true then body σ2 H3 N else N H3) := by
  have len : (L.map enc).length = L.length := List.length_map ..
  refine ⟨fun j m H' => m = L.length - j ∧ j ≤ L.length ∧ ∃ F' ws', StepD D F H F' H' ∧ F' D = none ∧ H' D = some (.lst (ws ++ ws')) ∧ RpL K F' ws' ((L.take j).flatMap f), ⟨L.length, by simp, Nat.zero_le _, F, [], StepD.refl i1, fD, by rw [List.append_nil]; exact hD, .nil⟩, ?_⟩
  rintro j m H' ⟨rfl, hj, F', ws', s', fD', hh, rr⟩
  have eF : Ex F H' := s'.f.trans s'.i
  by_cases hlt : j < L.length
  · refine .inr ⟨sv.goes j H' (by rw [len]; exact hlt) eF, fun H' => ∃ F' ws', StepD D F H F' H' ∧ F' D = none ∧ H' D = some (.lst (ws ++ ws')) ∧ RpL K F' ws' ((L.take (j + 1)).flatMap f), fun H' p => ⟨L.length - (j + 1), by omega, rfl, hlt, p⟩, fun x H2 y => ?_⟩
    obtain ⟨F3, d, s3, hd', r3⟩ := sv.yields j H' x H2 (by rw [len]; exact hlt) eF y F' s'.f s'.i
    have ha : L[j]? = some L[j] := List.getElem?_eq_getElem hlt
    rw [List.getElem?_map, ha] at hd'
    cases hd'
    obtain ⟨e', hg, hb⟩ := hs j _ ha
    have fD3 : F3 D = none := s3.s D fD' (by rw [hh]; intro z; cases z)
    have hh3 : H2 D = some (.lst (ws ++ ws')) := s3.h _ _ hh
    have s13 : StepD D F H F3 H2 := s'.trans fD fD' s3.toD fD3
    have etk : L.take (j + 1) = L.take j ++ [L[j]] := by rw [List.take_add_one, ha]; rfl
    have hl2 : (ws ++ ws').length + (f L[j]).length ≤ 50000 := by
      rw [List.length_append, rr.length]
      have e1 : ((L.take (j + 1)).flatMap f).length ≤ (L.flatMap f).length := by
        have := List.flatMap_append (xs := L.take (j + 1)) (ys := L.drop (j + 1)) (f := f)
        rw [List.take_append_drop] at this
        rw [this, List.length_append]
        omega
      rw [etk, List.flatMap_append, List.length_append] at e1
      simp only [List.flatMap_cons, List.flatMap_nil, List.append_nil] at e1
      omega
    refine hg H0 F3 H2 (wipe σ vs) x _ s3.i (okw.stepD hnw s13) r3 fun σ2 ok2 we => ⟨we.trans wipe_idem, ?_⟩
    show body σ2 H2 _
    refine hb H0 F3 H2 σ2 _ _ s3.i fD3 hh3 ok2 hl2 fun F4 H4 ws4 s4 fD4 hh4 r4 => ?_
    refine ⟨F4, ws' ++ ws4, s13.trans fD fD3 s4 fD4, fD4, by rw [← List.append_assoc]; exact hh4, ?_⟩
    rw [etk, List.flatMap_append]
    simp only [List.flatMap_cons, List.flatMap_nil, List.append_nil]
    exact (rr.up (s3.f.trans s4.f)).append r4
  · have e : j = L.length := by omega
    subst e
    rw [List.take_length] at rr
    have st := sv.stops H' eF
    rw [len] at st
    exact .inl ⟨st, q F' H' ws' s' fD' hh rr⟩
theorem b_in {α : Type} {wi : TI} {g : TG} {vs : List Nat} {body : TB} (L : List α) (enc : α → PyData) (f : α → List PyData) (hn : noOwn env = true) (hw : ItE K wi env (L.map enc))
    (hs : ∀ (i : Nat) (a : α), L[i]? = some a → ∃ e', TgE K g vs (wipeE env vs) (enc a) e' ∧ BoE K body D e' (f a)) : BoE K (bIn wi g tYes vs body) D env (L.flatMap f) := fun H0 F H σ ws Nx i fD hD ok hl q =>
  hw H0 F H σ _ i ok fun J F1 H1 s1 sv => by
    have fD1 : F1 D = none := s1.s D fD (by rw [hD]; intro z; cases z)
    exact level L enc f sv s1.i fD1 (s1.h _ _ hD) (ok.step s1).wipe (noOwn_wipe hn) hl hs Nx fun F' H' ws' s' fD' hh rr => q F' H' ws' ((s1.toD (D := D)).trans fD fD1 s' fD') fD' hh rr
/-- the whole comprehension -/
theorem c_lcN {α : Type} {wi : TI} {g : TG} {vs : List Nat} {body : Addr → TB} (L : List α) (enc : α → PyData) (f : α → List PyData) (hn : noOwn env = true) (hw : ItE K wi env (L.map enc)) (hl : (L.flatMap f).length ≤ 50000)
    (hs : ∀ (D : Addr) (i : Nat) (a : α), L[i]? = some a → ∃ e', TgE K g vs (wipeE env vs) (enc a) e' ∧ BoE K (body D) D e' (f a)) : EvO K (tLcN wi g tYes vs body) env (L.flatMap f) := fun H0 F H σ Q i ok q =>
  hw H0 F H σ _ i ok fun J F1 H1 s1 sv D hD => by
    have s2 := Step.made (o := .lst []) s1.i hD
    refine level L enc f sv s2.i (s1.i.free hD) upd_same ((ok.step s1).step s2).wipe (noOwn_wipe hn) (by simpa using hl) (hs D) (Q (.ref D)) fun F' H' ws' s' fD' hh rr => ?_
    refine q D ws' F' H' ⟨s1.f.trans s'.f, fun a o e => ?_, s'.i, fun a h1 h2 => ?_⟩ (s1.h.free hD) fD' hh rr
    · have n : a ≠ D := ne_of_none e (s1.h.free hD)
      exact s'.h a o n (by rw [upd_ne n]; exact s1.h a o e)
    · cases e : H a with
      | none => exact absurd e h2
      | some o =>
        have n : a ≠ D := ne_of_none e (s1.h.free hD)
        refine s'.s a (s1.s a h1 h2) ?_
        rw [upd_ne n, s1.h a o e]
        intro z
        cases z
end
end TP

/-! What the top says (Mg), a def by its name (Cal), the rules for both; len of a dict comprehension. -/
namespace TP
open PySem L2 PySem.Spec PyProof.Rows
structure Q4 where
  a : Int
  b : Int
  c : Int
  d : Int
  deriving DecidableEq
def qd (q : Q4) : PyData := .tuple [.int q.a, .int q.b, .int q.c, .int q.d]
def qld (q : Q4) : PyData := .list [.int q.a, .int q.b, .int q.c, .int q.d]
/-- a tuple of the module -/
def Tu (K : PySem.W.Frag) (mg : Str → Option Value) (x : Str) (d : PyData) : Prop := mg x = some (.ref (He.ga K x)) ∧ ∀ F, Rp K F (.ref (He.ga K x)) d
structure Mg (K : PySem.W.Frag) (mg : Str → Option Value) : Prop where
  len : mg "len" = none
  tuple : mg "tuple" = none
  sum : mg "sum" = none
  all : mg "all" = none
  sorted : mg "sorted" = none
  range : mg "range" = none
  zip : mg "zip" = none
  max : mg "max" = none
  int : mg "int" = none
  str : mg "str" = none
  abs : mg "abs" = none
  list : mg "list" = none
  isinstance : mg "isinstance" = none
  enumerate : mg "enumerate" = none
  bool : mg "bool" = none
  gcd : mg "gcd" = some (.builtin "math.gcd")
  PARTS : ∃ t, mg "PARTS" = some (.int 4 t)
  MOST_VALUE : ∃ t, mg "MOST_VALUE" = some (.int (10 ^ 12) t)
  MOST_NORM : ∃ t, mg "MOST_NORM" = some (.int (10 ^ 12) t)
  BASE : ∃ t, mg "BASE" = some (.int (10 ^ 60) t)
  MOST_DIGITS : ∃ t, mg "MOST_DIGITS" = some (.int 200 t)
  DIGITS : ∃ t, mg "DIGITS" = some (.str "0123456789" t)
  ZERO_numbers : Tu K mg "ZERO_numbers" (qd ⟨0, 0, 0, 0⟩)
  ONE : Tu K mg "ONE" (qd ⟨2, 0, 0, 0⟩)
  ZERO_dividing : Tu K mg "ZERO_dividing" (qd ⟨0, 0, 0, 0⟩)
/-- the def that stands under a name keeps its promise -/
def Cal (P : Program) (w : World) (K : PySem.W.Frag) (mg : Str → Option Value) (base : Heap) (x : Str) (k : Nat) (ps : List Str) (sp : Sp) : Prop :=
  ∃ (f : Addr) (fd : FuncData), mg x = some (.ref f) ∧ PySem.W.keepIn K (.ref f) = true ∧ Binds K fd ps [] ∧ FnOk P w K mg base CX0 k f fd ps sp
/-- a def of the text as it stands behind the top -/
def Dn (K : PySem.W.Frag) (mg : Str → Option Value) (x : Str) (st : Stmt) (ps : List Str) : Prop := ∃ (f : Addr) (fd : FuncData), FnP K x st f fd ∧ mg x = some (.ref f) ∧ Binds K fd ps []
section
variable {X : Cx}
theorem pe_c {x : Str} {k : Nat} {ps : List Str} {sp : Sp} {e : Expr} {es : List Expr} {p pos : Pos} {t : TA} (C : Cal X.prog X.w X.K X.mg X.base x k ps sp) (hr : Room k X.A) (ha : PA X (e :: es) t) (hg : Gl X x := by rfl)
    (hdb : (x == ("__debug__" : Str)) = false := by decide) (he : starEach (e :: es) X.env = (false, eval e X.env) :: starEach es X.env := by rfl) (hpl : (backTo pos (starEach es X.env)).any (·.1) = false := by rfl) :
    PE X (.Call (.Name x p) (e :: es) [] pos) (tCall sp [] E0 t) := by
  obtain ⟨f, fd, h1, h2, h3, h4⟩ := C
  exact pe_call h4 hr hg h1 h2 h3 .nil pass0 ha hdb he hpl
theorem pe_c0 {x : Str} {k : Nat} {ps : List Str} {sp : Sp} {p pos : Pos} (C : Cal X.prog X.w X.K X.mg X.base x k ps sp) (hr : Room k X.A) (hg : Gl X x := by rfl) (hdb : (x == ("__debug__" : Str)) = false := by decide) :
    PE X (.Call (.Name x p) [] [] pos) (tCall sp [] E0 tNil) := by
  obtain ⟨f, fd, h1, h2, h3, h4⟩ := C
  exact pe_call0 h4 hr hg h1 h2 h3 .nil pass0 hdb
theorem pe_gi {x : Str} {i : Int} {pos : Pos} (h : ∃ t, X.mg x = some (.int i t)) (hg : Gl X x := by rfl) (hd : (x == ("__debug__" : Str)) = false := by decide) : PE X (.Name x pos) (tC (.int i)) := by
  obtain ⟨t, h⟩ := h
  exact pe_glob hg h ⟨t, rfl⟩ hd
theorem pe_gs {x z : Str} {pos : Pos} (h : ∃ t, X.mg x = some (.str z t)) (hg : Gl X x := by rfl) (hd : (x == ("__debug__" : Str)) = false := by decide) : PE X (.Name x pos) (tC (.str z)) := by
  obtain ⟨t, h⟩ := h
  exact pe_glob hg h ⟨t, rfl⟩ hd
theorem pe_gt {x : Str} {d : PyData} {pos : Pos} (h : Tu X.K X.mg x d) (hg : Gl X x := by rfl) (hd : (x == ("__debug__" : Str)) = false := by decide) : PE X (.Name x pos) (tC (.ref (He.ga X.K x))) := pe_glob hg h.1 rfl hd
end
section
variable {P : Program} {w : World} {K : PySem.W.Frag} {mg : Str → Option Value} {base : Heap}
/-- THE RULE for a def: each way of its promise has its derivation and its judgement -/
theorem mk_cal {x : Str} {st : Stmt} {N ps : List Str} {k : Nat} {R : List PyData → PyData → Prop} (D : Dn K mg x st ps) (S : FnScope N ps (defScope st)) (len : ∀ ds d, R ds d → ds.length = ps.length)
    (body : ∀ (cdv : Value) (A : Around) (outer : List Env) (s : Shared) (H : Hp) (f : Addr) (E : XK) (ds : List PyData) (d : PyData), Room k (A.deeper (envOfC x (defScope st) s.heap.objs.size f cdv)) → R ds d →
      ∃ t, PSs (cxOf CX0 P w K mg base N x (defScope st) f cdv A outer s H E).nox (defBody st) t ∧ StE K t (envS N ds) (fun _ => d = .none) (fun e => e = d)) : Cal P w K mg base x (k + 1) ps (spR K R) := by
  obtain ⟨f, fd, F, hm, hb⟩ := D
  refine ⟨f, fd, hm, F.kp, hb, F.ok S (fun vs H Q E h => ?_) fun cdv A outer s H vs Q E hr h => ?_⟩
  · obtain ⟨F', ds, d, i, r, hR, _⟩ := h
    exact r.length.trans (len ds d hR)
  · obtain ⟨F', ds, d, i, r, hR, q⟩ := h
    obtain ⟨t, h1, h2⟩ := body cdv A outer s H f E ds d hr hR
    exact ⟨t, h1.nox, run_def (R := R) N h2 i r q⟩
end

/-! ### len of a dict comprehension -/
section
variable {K : PySem.W.Frag} {env : En}
def kvsOf (ks : List Int) : List (Key × V) := ks.foldl (fun acc k => putK acc (Sum.inl k) (V.bl true)) []
theorem kvsOf_snoc (ks : List Int) (k : Int) : kvsOf (ks ++ [k]) = putK (kvsOf ks) (Sum.inl k) (V.bl true) := by
  unfold kvsOf
  rw [List.foldl_append]
  rfl
theorem kvsOf_len : ∀ (n : Nat) (ks : List Int), ks.length = n → (kvsOf ks).length ≤ n
  | 0, ks, h => by
    rw [List.length_eq_zero_iff.mp h]
    exact Nat.le_refl _
  | n + 1, ks, h => by
    have hne : ks ≠ [] := fun z => by
      rw [z] at h
      cases h
    have e := List.dropLast_concat_getLast hne
    rw [← e, kvsOf_snoc]
    have ih := kvsOf_len n ks.dropLast (by rw [List.length_dropLast, h]; rfl)
    have := length_putK (kvsOf ks.dropLast) (Sum.inl (ks.getLast hne)) (V.bl true)
    omega
/-- len({key(a): True for a in L}) -/
theorem e_lenDc {α : Type} {wi : TI} {g : TG} {tk : TE} {vs : List Nat} (L : List α) (enc : α → PyData) (key : α → Int) (hw : ItE K wi env (L.map enc)) (hl : L.length ≤ 50000)
    (hs : ∀ (i : Nat) (a : α), L[i]? = some a → ∃ e', TgE K g vs (wipeE env vs) (enc a) e' ∧ EvE K tk e' (.int (key a))) :
    EvE K (tCB (fun xs H Q => ∃ a kvs, xs = [V.ref a] ∧ H a = some (.dK kvs) ∧ Q (.int kvs.length) H) (tCons (tDc wi g tYes tk (tC (.bl true)) vs) tNil)) env (.int (kvsOf (L.map key)).length) := fun H0 F H σ Q i ok q =>
  hw H0 F H σ _ i ok fun J F1 H1 s1 sv D hD => by
    have okw := (ok.step s1).wipe (vs := vs)
    have hDn := okw.news hD
    have len : (L.map enc).length = L.length := List.length_map ..
    refine ⟨fun j m H' => m = L.length - j ∧ j ≤ L.length ∧ ∃ F', Step F1 H1 F' H' ∧ F' D = none ∧ EnvOk K H0 F' H' (wipe σ vs) (wipeE env vs) ∧ H' D = some (.dK (kvsOf ((L.take j).map key))), ⟨L.length, by simp, Nat.zero_le _, F1, Step.made s1.i hD, s1.i.free hD, okw.other hDn, upd_same⟩, ?_⟩
    rintro j m H' ⟨rfl, hj, F', s', fD, ok', hh⟩
    have eF : Ex F1 H' := s'.f.trans s'.i
    by_cases hlt : j < L.length
    · refine .inr ⟨sv.goes j H' (by rw [len]; exact hlt) eF, fun H' => ∃ F', Step F1 H1 F' H' ∧ F' D = none ∧ EnvOk K H0 F' H' (wipe σ vs) (wipeE env vs) ∧ H' D = some (.dK (kvsOf ((L.take (j + 1)).map key))), fun H' p => ⟨L.length - (j + 1), by omega, rfl, hlt, p⟩, fun x H2 y => ?_⟩
      obtain ⟨F3, d, s3, hd', r3⟩ := sv.yields j H' x H2 (by rw [len]; exact hlt) eF y F' s'.f s'.i
      have ha : L[j]? = some L[j] := List.getElem?_eq_getElem hlt
      rw [List.getElem?_map, ha] at hd'
      cases hd'
      obtain ⟨e', hg, ht⟩ := hs j _ ha
      have fD3 : F3 D = none := s3.s D fD (by rw [hh]; intro z; cases z)
      have hh3 := s3.h _ _ hh
      have etk : L.take (j + 1) = L.take j ++ [L[j]] := by rw [List.take_add_one, ha]; rfl
      refine hg H0 F3 H2 (wipe σ vs) x _ s3.i (ok'.step s3) r3 fun σ2 ok2 we => ⟨we.trans wipe_idem, ?_⟩
      show tk σ2 H2 _
      refine ht H0 F3 H2 σ2 _ s3.i ok2 fun v F4 H4 s4 r4 => ?_
      have fD4 : F4 D = none := s4.s D fD3 (by rw [hh3]; intro z; cases z)
      have hh4 := s4.h _ _ hh3
      have s34 := s3.trans s4
      refine ⟨_, Sum.inl (key L[j]), r4.of_int, hh4, lt_line ?_, F4, (s'.trans s34).mut hD fD4, fD4, (ok'.step s34).other hDn, ?_⟩
      · have := kvsOf_len _ ((L.take j).map key) rfl
        rw [List.length_map, List.length_take] at this
        omega
      · rw [upd_same, etk, List.map_append]
        show some (HO.dK _) = some (HO.dK (kvsOf (_ ++ [key L[j]])))
        rw [kvsOf_snoc]
    · have e : j = L.length := by omega
      subst e
      rw [List.take_length] at hh
      have st := sv.stops H' eF
      rw [len] at st
      exact .inl ⟨st, D, _, rfl, hh, q _ F' H' (s1.trans s') (.int _)⟩
end
end TP
/-! ### the rules over a given written part -/
namespace TP
open PySem L2 PySem.Spec PyProof.Rows
section
variable {X : Cx} {K : PySem.W.Frag}
theorem w_gtup {es : List Expr} {k n : Nat} {t : TGs} {pos : Pos} (hc : X.calm = true) (h : PGs X es t) (hK : X.K = K := by rfl) (hn : (assignEach es X.env).length = n := by rfl) (hst : (assignEach es X.env).findIdx? (·.1) = none := by rfl) : PG X (.Tuple es k pos) (gTup K n t) := by
  subst hK
  exact pg_tup hc h hn hst
theorem w_catA (hK : X.K = K := by rfl) : OpR X (binaryOp .Add) (rCatA K) := by
  subst hK
  exact op_catA
theorem w_eqD (hu : X.A.units + 64 < cLine) (hK : X.K = K := by rfl) : OpR X (compareOp .Eq) (rEqD K) := by
  subst hK
  exact op_eqD hu
theorem w_neD (hu : X.A.units + 64 < cLine) (hK : X.K = K := by rfl) : OpR X (compareOp .NotEq) (rNeD K) := by
  subst hK
  exact op_neD hu
theorem w_len (hK : X.K = K := by rfl) : CallR X (.builtin "len") (fun xs H Q => ∃ x n, xs = [x] ∧ LenV K x H n ∧ Q (.int n) H) := by
  subst hK
  exact call_len
theorem w_sum (hc : X.calm = true) (hK : X.K = K := by rfl) : CallR X (.builtin "sum") (rSum K) := by
  subst hK
  exact cr_sum hc
theorem w_all (hc : X.calm = true) (hK : X.K = K := by rfl) : CallR X (.builtin "all") (rAll K) := by
  subst hK
  exact cr_all hc
theorem w_maxD (hc : X.calm = true) (hu : X.A.units + 64 < cLine) (hK : X.K = K := by rfl) : CallR X (.builtin "max") (rMaxD K) := by
  subst hK
  exact cr_maxD hc hu
theorem w_max2D (hc : X.calm = true) (hu : X.A.units + 64 < cLine) (hK : X.K = K := by rfl) : CallR X (.builtin "max") (rMax2D K) := by
  subst hK
  exact cr_max2D hc hu
theorem w_sorted (hK : X.K = K := by rfl) : CallR X (.builtin "sorted") (rSorted K) := by
  subst hK
  exact cr_sorted
theorem w_sortD {β : Type} {enc : β → PyData} (hal : ∀ b b', PySem.W.alike (enc b) (enc b') = true) (hk : ∀ b, ∃ x r, enc b = .tuple (x :: r)) (hd : ∀ b, (enc b).depth ≤ 8) (hu : X.A.units + 64 < cLine) (hK : X.K = K := by rfl) : CallR X (.builtin "sorted") (rSortD K enc) := by
  subst hK
  exact cr_sortD hal hk hd hu
theorem w_tuple (hK : X.K = K := by rfl) : CallR X (.type "tuple") (fun xs H Q => ∃ p ys, xs = [.ref p] ∧ ((SqL K H p ys ∧ ∀ l, H l = none → Q (.ref l) (upd H l (.tup ys))) ∨ (SqT K H p ys ∧ Q (.ref p) H))) := by
  subst hK
  exact call_tuple_of
theorem w_list (hK : X.K = K := by rfl) : CallR X (.type "list") (fun xs H Q => ∃ p ys, xs = [.ref p] ∧ (SqL K H p ys ∨ SqT K H p ys) ∧ ∀ l, H l = none → Q (.ref l) (upd H l (.lst ys))) := by
  subst hK
  exact call_list_of
theorem w_isi (hK : X.K = K := by rfl) : CallR X (.builtin "isinstance") (rIsi K) := by
  subst hK
  exact call_isi
theorem w_rev {e : Expr} {te : TE} {k : Nat} {p1 p2 p3 pos : Pos} (he : PE X e te) (hK : X.K = K := by rfl) : PE X (.Subscript e (.Slice none none (some (.UnaryOp .USub (.Constant (.int 1) k p1) p2)) p3) pos) (tRevL K te) := by
  subst hK
  exact pe_revL he
theorem w_slL (hK : X.K = K := by rfl) : SlR X (rSlL K) := by
  subst hK
  exact sl_list
theorem w_slT (hK : X.K = K := by rfl) : SlR X (rSlA K) := by
  subst hK
  exact sl_tupA
theorem w_ixL (hK : X.K = K := by rfl) : IxR X (rIxL K) := by
  subst hK
  exact ix_list
theorem w_ixT (hK : X.K = K := by rfl) : IxR X (rIxT K) := by
  subst hK
  exact ix_tup
theorem w_zip {e e2 : Expr} {ta : TA} {p pos tpos : Pos} {elts : List Expr} {kk : Nat} (hg : Gl X "zip") (hm : X.mg "zip" = none) (ha : PA X [e, e2] ta) (hK : X.K = K := by rfl) (hs : starEach [e, e2] X.env = (false, eval e X.env) :: starEach [e2] X.env := by rfl) (hpl : (backTo pos (starEach [e2] X.env)).any (·.1) = false := by rfl) :
    PI X (.Tuple elts kk tpos) (.Call (.Name "zip" p) [e, e2] [] pos) (RZ.iZipA K ta) := by
  subst hK
  exact RZ.pi_zipA hg hm ha hs hpl
theorem w_enum {e e2 : Expr} {ta : TA} {p pos tpos : Pos} {elts : List Expr} {kk : Nat} (hg : Gl X "enumerate") (hm : X.mg "enumerate" = none) (ha : PA X [e, e2] ta) (hK : X.K = K := by rfl) (hs : starEach [e, e2] X.env = [(false, eval e X.env), (false, eval e2 X.env)] := by rfl) (hs2 : starEach [e2] X.env = [(false, eval e2 X.env)] := by rfl) :
    PI X (.Tuple elts kk tpos) (.Call (.Name "enumerate" p) [e, e2] [] pos) (iEnumK K ta) := by
  subst hK
  exact pi_enumK hg hm ha hs hs2
theorem w_pil {tg l : Expr} {tl : TE} (hl : PE X l tl) (hK : X.K = K := by rfl) : PI X tg l (iList K tl) := by
  subst hK
  exact pi_list hl
theorem w_pit {tg l : Expr} {tl : TE} (hl : PE X l tl) (hK : X.K = K := by rfl) : PI X tg l (iTup K tl) := by
  subst hK
  exact pi_tup hl
end
end TP
/-! ### displays of written ints -/
namespace TP
open PySem L2 PySem.Spec PyProof.Rows
def litE : Expr → Option Int
  | .Constant (.int i) _ _ => some i
  | .UnaryOp .USub (.Constant (.int i) _ _) _ => some (-i)
  | _ => none
def litL : List Expr → Option (List Int)
  | [] => some []
  | e :: es => match litE e, litL es with
    | some i, some l => some (i :: l)
    | _, _ => none
def tInts (ns : List Int) : TA := fun _ H Q => Q (ns.map V.int) H
section
variable {X : Cx}
theorem paConv {es : List Expr} {t t' : TA} (h : PA X es t) (k : ∀ σ H Q, t' σ H Q → t σ H Q) : PA X es t' := ⟨fun pos pins s σ H Q I q => h.run pos pins s σ H Q I (k σ H Q q)⟩
theorem litE_run {e : Expr} {i : Int} (h : litE e = some i) : (∃ t : TE, PE X e t ∧ ∀ σ H Q, Q (.int i) H → t σ H Q) ∧ ∀ es, starEach (e :: es) X.env = (false, eval e X.env) :: starEach es X.env := by
  unfold litE at h
  split at h
  · cases h
    exact ⟨⟨_, pe_int, fun σ H Q q => q⟩, fun es => rfl⟩
  · cases h
    exact ⟨⟨_, pe_un un_neg pe_int, fun σ H Q q => ⟨_, rfl, q⟩⟩, fun es => rfl⟩
  · cases h
theorem pa_ints : ∀ (es : List Expr) (ns : List Int), litL es = some ns → PA X es (tInts ns)
  | [], ns, h => by
    cases h
    exact pa_nil
  | e :: es, ns, h => by
    unfold litL at h
    split at h
    · rename_i i l h1 h2
      cases h
      obtain ⟨⟨t, ht, k⟩, hs⟩ := litE_run (X := X) h1
      exact paConv (pa_cons ht (pa_ints es l h2) (hs es)) fun σ H Q q => k σ H _ q
    · cases h
end
theorem a_ints {K : PySem.W.Frag} {env : En} {ns : List Int} : ArE K (tInts ns) env (ns.map .int) := fun _ F H _ _ i _ q => q _ F H (Step.refl i) (RpL.of_ints ns)
end TP

/-! The first defs: what is a number, conjugate, norm, difference, product. -/
namespace TP
open PySem L2 PySem.Spec PyProof.Rows
local macro_rules | `(tactic| walk_at "ev1") => `(tactic| first
  | with_reducible exact e_int
  | with_reducible exact e_str
  | with_reducible exact e_bl
  | with_reducible exact e_non
  | ((with_reducible apply e_var); exact rfl)
  | with_reducible apply e_op
  | with_reducible apply e_un
  | with_reducible apply e_call
  | with_reducible apply e_cb
  | with_reducible apply e_tup
  | with_reducible apply e_sl
  | with_reducible apply e_chain
  | with_reducible apply e_and
  | with_reducible apply e_or
  | with_reducible apply e_rev
  | with_reducible apply e_lst
  | exact Nat.le_of_ble_eq_true rfl
  | with_reducible exact p_none
  | with_reducible apply p_some
  | with_reducible exact a_nil
  | with_reducible apply a_cons
  | with_reducible apply t_b
  | with_reducible apply t_test
  | with_reducible exact t_yes
  | with_reducible apply t_not
  | with_reducible apply t_and
  | with_reducible apply t_or
  | with_reducible exact o_add
  | with_reducible exact o_sub
  | with_reducible apply o_mul
  | with_reducible apply o_div
  | with_reducible apply o_mod
  | with_reducible apply o_pow
  | with_reducible exact o_lt
  | with_reducible exact o_le
  | with_reducible exact o_gt
  | with_reducible exact o_ge
  | with_reducible exact u_neg
  | with_reducible exact o_eqI
  | with_reducible exact o_neI
  | with_reducible exact o_eqS
  | with_reducible exact o_neS
  | with_reducible exact o_neB
  | with_reducible exact o_isN
  | with_reducible exact o_notN
  | with_reducible exact o_isB
  | with_reducible exact o_notB
  | with_reducible exact c_int
  | with_reducible exact c_abs
  | with_reducible exact c_gcd
  | with_reducible exact c_lenL
  | with_reducible exact c_lenT
  | with_reducible exact c_tupL
  | with_reducible exact c_tupT
  | with_reducible exact s_lst
  | with_reducible exact s_tup
  | (refine fun (_ : _ = true) => ?_)
  | (refine fun (_ : _ = false) => ?_))
def Q4.par (q : Q4) : Prop := q.a % 2 = q.b % 2 ∧ q.a % 2 = q.c % 2 ∧ q.a % 2 = q.d % 2
instance (q : Q4) : Decidable q.par := by
  unfold Q4.par
  infer_instance
def Q4.sm (M : Int) (q : Q4) : Prop := (-M < q.a ∧ q.a < M) ∧ (-M < q.b ∧ q.b < M) ∧ (-M < q.c ∧ q.c < M) ∧ (-M < q.d ∧ q.d < M)
instance (M : Int) (q : Q4) : Decidable (q.sm M) := by
  unfold Q4.sm
  infer_instance
def Q4.l (q : Q4) : List Int := [q.a, q.b, q.c, q.d]
theorem qd_l (q : Q4) : qd q = .tuple (q.l.map .int) := rfl
theorem qld_l (q : Q4) : qld q = .list (q.l.map .int) := rfl
def nrm (q : Q4) : Int := (q.a * q.a + (q.b * q.b + (q.c * q.c + (q.d * q.d + 0)))) / 4
def mul (p q : Q4) : Q4 := ⟨(p.a * q.a - p.b * q.b - p.c * q.c - p.d * q.d) / 2, (p.a * q.b + p.b * q.a + p.c * q.d - p.d * q.c) / 2, (p.a * q.c - p.b * q.d + p.c * q.a + p.d * q.b) / 2, (p.a * q.d + p.b * q.c - p.c * q.b + p.d * q.a) / 2⟩
def conj (q : Q4) : Q4 := ⟨q.a, -q.b, -q.c, -q.d⟩
def sub4 (p q : Q4) : Q4 := ⟨p.a - q.a, p.b - q.b, p.c - q.c, p.d - q.d⟩
/-- how many residues: one if all are alike -/
theorem kvs4 (q : Q4) : decide (((kvsOf (q.l.map fun x => x % 2)).length : Int) = 1) = decide q.par := by
  have h : ∀ a b c d : Fin 2, decide (((kvsOf [((a.val : Nat) : Int), ((b.val : Nat) : Int), ((c.val : Nat) : Int), ((d.val : Nat) : Int)]).length : Int) = 1) = decide (((a.val : Nat) : Int) = ((b.val : Nat) : Int) ∧ ((a.val : Nat) : Int) = ((c.val : Nat) : Int) ∧ ((a.val : Nat) : Int) = ((d.val : Nat) : Int)) := by decide +kernel
  have f : ∀ x : Int, ∃ i : Fin 2, x % 2 = ((i.val : Nat) : Int) := fun x => by
    rcases Int.emod_two_eq x with e | e
    · exact ⟨0, e⟩
    · exact ⟨1, e⟩
  obtain ⟨a, ha⟩ := f q.a
  obtain ⟨b, hb⟩ := f q.b
  obtain ⟨c, hc⟩ := f q.c
  obtain ⟨d, hd⟩ := f q.d
  have e : q.l.map (fun x => x % 2) = [q.a % 2, q.b % 2, q.c % 2, q.d % 2] := rfl
  rw [e]
  unfold Q4.par
  simp only [ha, hb, hc, hd]
  exact h a b c d

def R_is_number : List PyData → PyData → Prop := fun ds d => ∃ q : Q4, (ds = [qd q] ∨ ds = [qld q]) ∧ d = .bool (decide q.par)
def R_check_number : List PyData → PyData → Prop := fun ds d => ∃ q : Q4, (ds = [qd q] ∨ ds = [qld q]) ∧ q.par ∧ d = .none
def R_check_not_zero : List PyData → PyData → Prop := fun ds d => ∃ q : Q4, (ds = [qd q] ∨ ds = [qld q]) ∧ q.par ∧ q ≠ ⟨0, 0, 0, 0⟩ ∧ d = .none
def R_conjugate : List PyData → PyData → Prop := fun ds d => ∃ q : Q4, ds = [qd q] ∧ q.par ∧ d = qd (conj q)
def R_norm : List PyData → PyData → Prop := fun ds d => ∃ q : Q4, ds = [qd q] ∧ q.par ∧ q.sm (2 ^ 60) ∧ d = .int (nrm q)
def R_less : List PyData → PyData → Prop := fun ds d => ∃ p q : Q4, ds = [qd p, qd q] ∧ p.par ∧ q.par ∧ d = qd (sub4 p q)
def R_product : List PyData → PyData → Prop := fun ds d => ∃ p q : Q4, ds = [qd p, qd q] ∧ p.par ∧ q.par ∧ (p.sm (2 ^ 60) ∨ q.sm (2 ^ 60)) ∧ d = qd (mul p q)

section
variable {P : Program} {w : World} {K : PySem.W.Frag} {mg : Str → Option Value} {base : Heap}
abbrev N_is_number : List Str := ["number", "part"]
theorem sc_is_number : FnScope N_is_number ["number"] (defScope s_is_number) := ⟨rfl, rfl, rfl, by decide +kernel, rfl, by decide +kernel, by decide +kernel⟩
theorem v_is_number_number {X : Cx} {pos : Pos} (hN : X.N = N_is_number) (hs : X.env.scope = defScope s_is_number) : PE X (.Name "number" pos) (tVar 0) := pe_var (by rw [hN]; rfl) (by rw [hs]; exact Or.inl (by decide +kernel)) (by decide +kernel) (by decide +kernel)
theorem ok_is_number (B : Mg K mg) (D : Dn K mg "is_number" s_is_number ["number"]) : Cal P w K mg base "is_number" 1 ["number"] (spR K R_is_number) := by
  have nd := sc_is_number.nd
  refine mk_cal D sc_is_number (fun ds d h => ?_) (fun cdv A outer s H f E ds d hr h => ?_)
  · obtain ⟨q, rfl | rfl, _⟩ := h <;> rfl
  · obtain ⟨q, rfl | rfl, rfl⟩ := h
    · refine ⟨_, (pss_one (ps_ret (pe_and (pe_cmpR op_eq (pe_callB (w_len (K := K)) (by rfl) B.len PySem.boot_len (pa_cons (v_is_number_number rfl rfl) pa_nil)) (pe_gi B.PARTS) (nomark _)) (pe_one (pe_cmpR op_eq (pe_callB call_lenD (by rfl) B.len PySem.boot_len (pa_cons (pe_dc (own := [("part", 1)]) (g := (gName 1)) rfl nd (w_pit (K := K) (v_is_number_number rfl rfl)) (blkOk_by (own := [("part", 1)]) (N := N_is_number) (sc := defScope s_is_number) (by decide +kernel)) (fun _ _ _ _ _ => (pg_name (i := 1) nd rfl (by first | exact Or.inl rfl | exact Or.inr rfl))) (fun _ _ _ _ _ => pts_nil) (fun _ _ _ _ _ => (pe_op op_mod (pv 1) pe_int)) (fun _ _ _ _ _ => pe_bl)) pa_nil)) pe_int (nomark _)))))), ?_⟩
      refine st_ret (e_and (b := true) (c := decide q.par) ?_ fun _ => ?_) (by rw [Bool.true_and])
      · exact e_is (e_op (e_cb (a_cons (e_var rfl) a_nil) c_lenT) e_int o_eqI) rfl
      · rw [← kvs4]
        refine e_op (e_lenDc q.l .int (fun x => x % 2) (i_tup (e_var (by rw [qd_l]; rfl))) (by show 4 ≤ 50000; decide) fun i a ha => ⟨_, g_name, ?_⟩) e_int o_eqI
        exact e_op (e_var rfl) e_int (o_mod (by decide))
    · refine ⟨_, (pss_one (ps_ret (pe_and (pe_cmpR op_eq (pe_callB (w_len (K := K)) (by rfl) B.len PySem.boot_len (pa_cons (v_is_number_number rfl rfl) pa_nil)) (pe_gi B.PARTS) (nomark _)) (pe_one (pe_cmpR op_eq (pe_callB call_lenD (by rfl) B.len PySem.boot_len (pa_cons (pe_dc (own := [("part", 1)]) (g := (gName 1)) rfl nd (w_pil (K := K) (v_is_number_number rfl rfl)) (blkOk_by (own := [("part", 1)]) (N := N_is_number) (sc := defScope s_is_number) (by decide +kernel)) (fun _ _ _ _ _ => (pg_name (i := 1) nd rfl (by first | exact Or.inl rfl | exact Or.inr rfl))) (fun _ _ _ _ _ => pts_nil) (fun _ _ _ _ _ => (pe_op op_mod (pv 1) pe_int)) (fun _ _ _ _ _ => pe_bl)) pa_nil)) pe_int (nomark _)))))), ?_⟩
      refine st_ret (e_and (b := true) (c := decide q.par) ?_ fun _ => ?_) (by rw [Bool.true_and])
      · exact e_is (e_op (e_cb (a_cons (e_var rfl) a_nil) c_lenL) e_int o_eqI) rfl
      · rw [← kvs4]
        refine e_op (e_lenDc q.l .int (fun x => x % 2) (i_list (e_var (by rw [qld_l]; rfl))) (by show 4 ≤ 50000; decide) fun i a ha => ⟨_, g_name, ?_⟩) e_int o_eqI
        exact e_op (e_var rfl) e_int (o_mod (by decide))
theorem cml {i j : Int} (h : -(2 ^ 60) < i ∧ i < 2 ^ 60) : CMul i j := .inl ⟨by omega, by omega⟩
theorem cmr {i j : Int} (h : -(2 ^ 60) < j ∧ j < 2 ^ 60) : CMul i j := .inr ⟨by omega, by omega⟩
theorem cdiv {i j : Int} (h : 0 < j) (h2 : j < 1073741824) : CDiv i j := ⟨h, h2⟩
abbrev N_check_number : List Str := ["number"]
theorem sc_check_number : FnScope N_check_number ["number"] (defScope s_check_number) := ⟨rfl, rfl, rfl, by decide +kernel, rfl, by decide +kernel, by decide +kernel⟩
theorem v_check_number_number {X : Cx} {pos : Pos} (hN : X.N = N_check_number) (hs : X.env.scope = defScope s_check_number) : PE X (.Name "number" pos) (tVar 0) := pe_var (by rw [hN]; rfl) (by rw [hs]; exact Or.inl (by decide +kernel)) (by decide +kernel) (by decide +kernel)
theorem ok_check_number (B : Mg K mg) (C_is_number : Cal P w K mg base "is_number" 1 ["number"] (spR K R_is_number)) (D : Dn K mg "check_number" s_check_number ["number"]) : Cal P w K mg base "check_number" 2 ["number"] (spR K R_check_number) := by
  have nd := sc_check_number.nd
  refine mk_cal D sc_check_number (fun ds d h => ?_) (fun cdv A outer s H f E ds d hr h => ?_)
  · obtain ⟨q, rfl | rfl, _⟩ := h <;> rfl
  · obtain ⟨q, hq, hp, rfl⟩ := h
    refine ⟨_, (pss_one (ps_if (pt_not (pt_val (pe_c C_is_number (hr.mono (by decide)) (pa_cons (v_check_number_number rfl rfl) pa_nil)))) (pss_one ps_never) pss_nil)), ?_⟩
    have tr : (!decide q.par) = false := by rw [decide_eq_true hp]; rfl
    rcases hq with rfl | rfl
    · exact st_if (t_is (t_not (t_b (e_call (a_cons (e_var rfl) a_nil) ⟨q, .inl rfl, rfl⟩))) tr) (fun z => nomatch z) fun _ => st_next rfl
    · exact st_if (t_is (t_not (t_b (e_call (a_cons (e_var rfl) a_nil) ⟨q, .inr rfl, rfl⟩))) tr) (fun z => nomatch z) fun _ => st_next rfl
/-- == of tuples of four ints -/
theorem sh_qd (q : Q4) : SeqAt.shaped (qd q) = true := by
  unfold SeqAt.shaped qd
  simp [PyData.canLay0, PyData.canLayAll0, PyData.depth, PyData.depthAll]
theorem eqv_qd (p q : Q4) : PyData.eqv (qd p) (qd q) = decide (p = q) := by
  obtain ⟨a, b, c, d⟩ := p
  obtain ⟨a', b', c', d'⟩ := q
  unfold qd
  simp only [PyData.eqv, PyData.eqvAll, Bool.and_true, Q4.mk.injEq]
  by_cases h1 : a = a' <;> by_cases h2 : b = b' <;> by_cases h3 : c = c' <;> by_cases h4 : d = d' <;> simp [h1, h2, h3, h4]
abbrev N_check_not_zero : List Str := ["number"]
theorem sc_check_not_zero : FnScope N_check_not_zero ["number"] (defScope s_check_not_zero) := ⟨rfl, rfl, rfl, by decide +kernel, rfl, by decide +kernel, by decide +kernel⟩
theorem v_check_not_zero_number {X : Cx} {pos : Pos} (hN : X.N = N_check_not_zero) (hs : X.env.scope = defScope s_check_not_zero) : PE X (.Name "number" pos) (tVar 0) := pe_var (by rw [hN]; rfl) (by rw [hs]; exact Or.inl (by decide +kernel)) (by decide +kernel) (by decide +kernel)
theorem ok_check_not_zero (B : Mg K mg) (C_check_number : Cal P w K mg base "check_number" 2 ["number"] (spR K R_check_number)) (D : Dn K mg "check_not_zero" s_check_not_zero ["number"]) : Cal P w K mg base "check_not_zero" 3 ["number"] (spR K R_check_not_zero) := by
  have nd := sc_check_not_zero.nd
  refine mk_cal D sc_check_not_zero (fun ds d h => ?_) (fun cdv A outer s H f E ds d hr h => ?_)
  · obtain ⟨q, rfl | rfl, _⟩ := h <;> rfl
  · obtain ⟨q, hq, hp, hz, rfl⟩ := h
    refine ⟨_, (pss_cons (ps_expr (pe_c C_check_number (hr.mono (by decide)) (pa_cons (v_check_not_zero_number rfl rfl) pa_nil))) (pss_one (ps_if (pt_cmpR (w_eqD (K := K) hr.units) (pe_callTy (w_tuple (K := K)) (by rfl) B.tuple (by decide +kernel) (pa_cons (v_check_not_zero_number rfl rfl) pa_nil)) (pe_gt B.ZERO_numbers) (nomark _)) (pss_one ps_never) pss_nil))), ?_⟩
    have tr : PyData.eqv (qd q) (qd ⟨0, 0, 0, 0⟩) = false := by rw [eqv_qd]; exact decide_eq_false hz
    rcases hq with rfl | rfl
    · refine q_drop (e_call (a_cons (e_var rfl) a_nil) ⟨q, .inl rfl, hp, rfl⟩) ?_
      exact st_if (t_is (t_test (e_op (e_cb (a_cons (e_var rfl) a_nil) c_tupT) (e_con B.ZERO_numbers.2) (o_eqD (sh_qd q) (sh_qd _)))) tr) (fun z => nomatch z) fun _ => st_next rfl
    · refine q_drop (e_call (a_cons (e_var rfl) a_nil) ⟨q, .inr rfl, hp, rfl⟩) ?_
      exact st_if (t_is (t_test (e_op (e_cb (a_cons (e_var rfl) a_nil) c_tupL) (e_con B.ZERO_numbers.2) (o_eqD (sh_qd q) (sh_qd _)))) tr) (fun z => nomatch z) fun _ => st_next rfl
abbrev N_conjugate : List Str := ["number", "a", "b", "c", "d"]
theorem sc_conjugate : FnScope N_conjugate ["number"] (defScope s_conjugate) := ⟨rfl, rfl, rfl, by decide +kernel, rfl, by decide +kernel, by decide +kernel⟩
theorem v_conjugate_number {X : Cx} {pos : Pos} (hN : X.N = N_conjugate) (hs : X.env.scope = defScope s_conjugate) : PE X (.Name "number" pos) (tVar 0) := pe_var (by rw [hN]; rfl) (by rw [hs]; exact Or.inl (by decide +kernel)) (by decide +kernel) (by decide +kernel)
theorem v_conjugate_a {X : Cx} {pos : Pos} (hN : X.N = N_conjugate) (hs : X.env.scope = defScope s_conjugate) : PE X (.Name "a" pos) (tVar 1) := pe_var (by rw [hN]; rfl) (by rw [hs]; exact Or.inl (by decide +kernel)) (by decide +kernel) (by decide +kernel)
theorem v_conjugate_b {X : Cx} {pos : Pos} (hN : X.N = N_conjugate) (hs : X.env.scope = defScope s_conjugate) : PE X (.Name "b" pos) (tVar 2) := pe_var (by rw [hN]; rfl) (by rw [hs]; exact Or.inl (by decide +kernel)) (by decide +kernel) (by decide +kernel)
theorem v_conjugate_c {X : Cx} {pos : Pos} (hN : X.N = N_conjugate) (hs : X.env.scope = defScope s_conjugate) : PE X (.Name "c" pos) (tVar 3) := pe_var (by rw [hN]; rfl) (by rw [hs]; exact Or.inl (by decide +kernel)) (by decide +kernel) (by decide +kernel)
theorem v_conjugate_d {X : Cx} {pos : Pos} (hN : X.N = N_conjugate) (hs : X.env.scope = defScope s_conjugate) : PE X (.Name "d" pos) (tVar 4) := pe_var (by rw [hN]; rfl) (by rw [hs]; exact Or.inl (by decide +kernel)) (by decide +kernel) (by decide +kernel)
theorem ok_conjugate (B : Mg K mg) (C_check_number : Cal P w K mg base "check_number" 2 ["number"] (spR K R_check_number)) (D : Dn K mg "conjugate" s_conjugate ["number"]) : Cal P w K mg base "conjugate" 3 ["number"] (spR K R_conjugate) := by
  have nd := sc_conjugate.nd
  refine mk_cal D sc_conjugate (fun ds d h => ?_) (fun cdv A outer s H f E ds d hr h => ?_)
  · obtain ⟨q, rfl, _⟩ := h
    rfl
  · obtain ⟨q, rfl, hp, rfl⟩ := h
    refine ⟨_, (pss_cons (ps_expr (pe_c C_check_number (hr.mono (by decide)) (pa_cons (v_conjugate_number rfl rfl) pa_nil))) (pss_cons (ps_asg (v_conjugate_number rfl rfl) (w_gtup (K := K) rfl (pgs_cons (pg_name (i := 1) nd rfl (by first | exact Or.inl rfl | exact Or.inr rfl)) (pgs_cons (pg_name (i := 2) nd rfl (by first | exact Or.inl rfl | exact Or.inr rfl)) (pgs_cons (pg_name (i := 3) nd rfl (by first | exact Or.inl rfl | exact Or.inr rfl)) (pgs_cons (pg_name (i := 4) nd rfl (by first | exact Or.inl rfl | exact Or.inr rfl)) pgs_nil)))))) (pss_one (ps_ret (pe_tup (pa_cons (v_conjugate_a rfl rfl) (pa_cons (pe_un un_neg (v_conjugate_b rfl rfl)) (pa_cons (pe_un un_neg (v_conjugate_c rfl rfl)) (pa_cons (pe_un un_neg (v_conjugate_d rfl rfl)) pa_nil))))))))), ?_⟩
    refine q_drop (e_call (a_cons (e_var rfl) a_nil) ⟨q, .inl rfl, hp, rfl⟩) ?_
    refine q_asgG (vs := [1, 2, 3, 4]) (e_var rfl) (g_tup rfl (gs_cons g_name (gs_cons g_name (gs_cons g_name (gs_cons g_name gs_nil))))) ?_
    show StE K _ [some (.val (qd q)), some (.val (.int q.a)), some (.val (.int q.b)), some (.val (.int q.c)), some (.val (.int q.d))] _ _
    refine st_ret (d := .tuple [.int q.a, .int (-q.b), .int (-q.c), .int (-q.d)]) ?_ rfl
    exact e_tup (a_cons (e_var rfl) (a_cons (e_un (e_var rfl) u_neg) (a_cons (e_un (e_var rfl) u_neg) (a_cons (e_un (e_var rfl) u_neg) a_nil)))) (Nat.le_of_ble_eq_true rfl)
theorem sum4 (q : Q4) : (q.l.map fun x => x * x).sum / 4 = nrm q := rfl
abbrev N_norm : List Str := ["number", "part"]
theorem sc_norm : FnScope N_norm ["number"] (defScope s_norm) := ⟨rfl, rfl, rfl, by decide +kernel, rfl, by decide +kernel, by decide +kernel⟩
theorem v_norm_number {X : Cx} {pos : Pos} (hN : X.N = N_norm) (hs : X.env.scope = defScope s_norm) : PE X (.Name "number" pos) (tVar 0) := pe_var (by rw [hN]; rfl) (by rw [hs]; exact Or.inl (by decide +kernel)) (by decide +kernel) (by decide +kernel)
theorem ok_norm (B : Mg K mg) (C_check_number : Cal P w K mg base "check_number" 2 ["number"] (spR K R_check_number)) (D : Dn K mg "norm" s_norm ["number"]) : Cal P w K mg base "norm" 3 ["number"] (spR K R_norm) := by
  have nd := sc_norm.nd
  refine mk_cal D sc_norm (fun ds d h => ?_) (fun cdv A outer s H f E ds d hr h => ?_)
  · obtain ⟨q, rfl, _⟩ := h
    rfl
  · obtain ⟨q, rfl, hp, hs, rfl⟩ := h
    refine ⟨_, (pss_cons (ps_expr (pe_c C_check_number (hr.mono (by decide)) (pa_cons (v_norm_number rfl rfl) pa_nil))) (pss_one (ps_ret (pe_op op_fdiv (pe_callB (w_sum (K := K) rfl) (by rfl) B.sum (by decide +kernel) (pa_cons (pe_lc (own := [("part", 1)]) (g := (gName 1)) rfl nd (w_pit (K := K) (v_norm_number rfl rfl)) (blkOk_by (own := [("part", 1)]) (N := N_norm) (sc := defScope s_norm) (by decide +kernel)) (fun _ _ _ _ _ => (pg_name (i := 1) nd rfl (by first | exact Or.inl rfl | exact Or.inr rfl))) (fun _ _ _ _ _ => pts_nil) (fun _ _ _ _ _ => (pe_op op_mul (pv 1) (pv 1)))) pa_nil)) pe_int)))), ?_⟩
    refine q_drop (e_call (a_cons (e_var rfl) a_nil) ⟨q, .inl rfl, hp, rfl⟩) ?_
    refine st_ret (e_op (e_cb (a_cons (e_own (c_map q.l .int (fun x => .int (x * x)) (i_tup (e_var (by rw [qd_l]; rfl))) (by show 4 ≤ 50000; decide) fun i a ha => ⟨_, g_name, ?_⟩)) a_nil) (by rw [show (q.l.map fun x => PyData.int (x * x)) = (q.l.map fun x => x * x).map .int from rfl]; exact c_sum)) e_int (o_div (cdiv (by decide) (by decide)))) (by rw [sum4])
    refine e_op (e_var rfl) (e_var rfl) (o_mul (cml ?_))
    obtain ⟨h1, h2, h3, h4⟩ := hs
    have hm := List.mem_of_getElem? ha
    simp only [Q4.l, List.mem_cons, List.mem_nil_iff, or_false] at hm
    rcases hm with rfl | rfl | rfl | rfl <;> assumption
abbrev N_less : List Str := ["one", "other", "part", "far"]
theorem sc_less : FnScope N_less ["one", "other"] (defScope s_less) := ⟨rfl, rfl, rfl, by decide +kernel, rfl, by decide +kernel, by decide +kernel⟩
theorem v_less_one {X : Cx} {pos : Pos} (hN : X.N = N_less) (hs : X.env.scope = defScope s_less) : PE X (.Name "one" pos) (tVar 0) := pe_var (by rw [hN]; rfl) (by rw [hs]; exact Or.inl (by decide +kernel)) (by decide +kernel) (by decide +kernel)
theorem v_less_other {X : Cx} {pos : Pos} (hN : X.N = N_less) (hs : X.env.scope = defScope s_less) : PE X (.Name "other" pos) (tVar 1) := pe_var (by rw [hN]; rfl) (by rw [hs]; exact Or.inl (by decide +kernel)) (by decide +kernel) (by decide +kernel)
theorem ok_less (B : Mg K mg) (C_check_number : Cal P w K mg base "check_number" 2 ["number"] (spR K R_check_number)) (D : Dn K mg "less" s_less ["one", "other"]) : Cal P w K mg base "less" 3 ["one", "other"] (spR K R_less) := by
  have nd := sc_less.nd
  refine mk_cal D sc_less (fun ds d h => ?_) (fun cdv A outer s H f E ds d hr h => ?_)
  · obtain ⟨p, q, rfl, _⟩ := h
    rfl
  · obtain ⟨p, q, rfl, h1, h2, rfl⟩ := h
    refine ⟨_, (pss_cons (ps_expr (pe_c C_check_number (hr.mono (by decide)) (pa_cons (v_less_one rfl rfl) pa_nil))) (pss_cons (ps_expr (pe_c C_check_number (hr.mono (by decide)) (pa_cons (v_less_other rfl rfl) pa_nil))) (pss_one (ps_ret (pe_callTy (w_tuple (K := K)) (by rfl) B.tuple (by decide +kernel) (pa_cons (pe_lc (own := [("part", 2), ("far", 3)]) (g := (gTup K 2 (gCons (gName 2) (gCons (gName 3) gNil)))) rfl nd (w_zip (K := K) (by rfl) B.zip (pa_cons (v_less_one rfl rfl) (pa_cons (v_less_other rfl rfl) pa_nil))) (blkOk_by (own := [("part", 2), ("far", 3)]) (N := N_less) (sc := defScope s_less) (by decide +kernel)) (fun _ _ _ _ _ => (w_gtup (K := K) rfl (pgs_cons (pg_name (i := 2) nd rfl (by first | exact Or.inl rfl | exact Or.inr rfl)) (pgs_cons (pg_name (i := 3) nd rfl (by first | exact Or.inl rfl | exact Or.inr rfl)) pgs_nil)))) (fun _ _ _ _ _ => pts_nil) (fun _ _ _ _ _ => (pe_op op_sub (pv 2) (pv 3)))) pa_nil)))))), ?_⟩
    refine q_drop (e_call (a_cons (e_var rfl) a_nil) ⟨p, .inl rfl, h1, rfl⟩) ?_
    refine q_drop (e_call (a_cons (e_var rfl) a_nil) ⟨q, .inl rfl, h2, rfl⟩) ?_
    refine st_ret (e_cb (a_cons (e_own (c_map (p.l.zip q.l) (fun z => .tuple [.int z.1, .int z.2]) (fun z => .int (z.1 - z.2)) ?_ (by show 4 ≤ 50000; decide) fun i a ha => ⟨_, g_tup rfl (gs_cons g_name (gs_cons g_name gs_nil)), ?_⟩)) a_nil) c_tupL) rfl
    · exact i_zip (ds := p.l.map .int) (es := q.l.map .int) (a_cons (e_var rfl) (a_cons (e_var rfl) a_nil)) rfl
    · exact e_op (e_var rfl) (e_var rfl) o_sub
abbrev N_product : List Str := ["one", "other", "a", "b", "c", "d", "e", "f", "g", "h", "parts", "part"]
theorem sc_product : FnScope N_product ["one", "other"] (defScope s_product) := ⟨rfl, rfl, rfl, by decide +kernel, rfl, by decide +kernel, by decide +kernel⟩
theorem v_product_one {X : Cx} {pos : Pos} (hN : X.N = N_product) (hs : X.env.scope = defScope s_product) : PE X (.Name "one" pos) (tVar 0) := pe_var (by rw [hN]; rfl) (by rw [hs]; exact Or.inl (by decide +kernel)) (by decide +kernel) (by decide +kernel)
theorem v_product_other {X : Cx} {pos : Pos} (hN : X.N = N_product) (hs : X.env.scope = defScope s_product) : PE X (.Name "other" pos) (tVar 1) := pe_var (by rw [hN]; rfl) (by rw [hs]; exact Or.inl (by decide +kernel)) (by decide +kernel) (by decide +kernel)
theorem v_product_a {X : Cx} {pos : Pos} (hN : X.N = N_product) (hs : X.env.scope = defScope s_product) : PE X (.Name "a" pos) (tVar 2) := pe_var (by rw [hN]; rfl) (by rw [hs]; exact Or.inl (by decide +kernel)) (by decide +kernel) (by decide +kernel)
theorem v_product_b {X : Cx} {pos : Pos} (hN : X.N = N_product) (hs : X.env.scope = defScope s_product) : PE X (.Name "b" pos) (tVar 3) := pe_var (by rw [hN]; rfl) (by rw [hs]; exact Or.inl (by decide +kernel)) (by decide +kernel) (by decide +kernel)
theorem v_product_c {X : Cx} {pos : Pos} (hN : X.N = N_product) (hs : X.env.scope = defScope s_product) : PE X (.Name "c" pos) (tVar 4) := pe_var (by rw [hN]; rfl) (by rw [hs]; exact Or.inl (by decide +kernel)) (by decide +kernel) (by decide +kernel)
theorem v_product_d {X : Cx} {pos : Pos} (hN : X.N = N_product) (hs : X.env.scope = defScope s_product) : PE X (.Name "d" pos) (tVar 5) := pe_var (by rw [hN]; rfl) (by rw [hs]; exact Or.inl (by decide +kernel)) (by decide +kernel) (by decide +kernel)
theorem v_product_e {X : Cx} {pos : Pos} (hN : X.N = N_product) (hs : X.env.scope = defScope s_product) : PE X (.Name "e" pos) (tVar 6) := pe_var (by rw [hN]; rfl) (by rw [hs]; exact Or.inl (by decide +kernel)) (by decide +kernel) (by decide +kernel)
theorem v_product_f {X : Cx} {pos : Pos} (hN : X.N = N_product) (hs : X.env.scope = defScope s_product) : PE X (.Name "f" pos) (tVar 7) := pe_var (by rw [hN]; rfl) (by rw [hs]; exact Or.inl (by decide +kernel)) (by decide +kernel) (by decide +kernel)
theorem v_product_g {X : Cx} {pos : Pos} (hN : X.N = N_product) (hs : X.env.scope = defScope s_product) : PE X (.Name "g" pos) (tVar 8) := pe_var (by rw [hN]; rfl) (by rw [hs]; exact Or.inl (by decide +kernel)) (by decide +kernel) (by decide +kernel)
theorem v_product_h {X : Cx} {pos : Pos} (hN : X.N = N_product) (hs : X.env.scope = defScope s_product) : PE X (.Name "h" pos) (tVar 9) := pe_var (by rw [hN]; rfl) (by rw [hs]; exact Or.inl (by decide +kernel)) (by decide +kernel) (by decide +kernel)
theorem v_product_parts {X : Cx} {pos : Pos} (hN : X.N = N_product) (hs : X.env.scope = defScope s_product) : PE X (.Name "parts" pos) (tVar 10) := pe_var (by rw [hN]; rfl) (by rw [hs]; exact Or.inl (by decide +kernel)) (by decide +kernel) (by decide +kernel)
theorem ok_product (B : Mg K mg) (C_check_number : Cal P w K mg base "check_number" 2 ["number"] (spR K R_check_number)) (D : Dn K mg "product" s_product ["one", "other"]) : Cal P w K mg base "product" 3 ["one", "other"] (spR K R_product) := by
  have nd := sc_product.nd
  refine mk_cal D sc_product (fun ds d h => ?_) (fun cdv A outer s H f E ds d hr h => ?_)
  · obtain ⟨p, q, rfl, _⟩ := h
    rfl
  · obtain ⟨p, q, rfl, h1, h2, hs, rfl⟩ := h
    refine ⟨_, (pss_cons (ps_expr (pe_c C_check_number (hr.mono (by decide)) (pa_cons (v_product_one rfl rfl) pa_nil))) (pss_cons (ps_expr (pe_c C_check_number (hr.mono (by decide)) (pa_cons (v_product_other rfl rfl) pa_nil))) (pss_cons (ps_asg (v_product_one rfl rfl) (w_gtup (K := K) rfl (pgs_cons (pg_name (i := 2) nd rfl (by first | exact Or.inl rfl | exact Or.inr rfl)) (pgs_cons (pg_name (i := 3) nd rfl (by first | exact Or.inl rfl | exact Or.inr rfl)) (pgs_cons (pg_name (i := 4) nd rfl (by first | exact Or.inl rfl | exact Or.inr rfl)) (pgs_cons (pg_name (i := 5) nd rfl (by first | exact Or.inl rfl | exact Or.inr rfl)) pgs_nil)))))) (pss_cons (ps_asg (v_product_other rfl rfl) (w_gtup (K := K) rfl (pgs_cons (pg_name (i := 6) nd rfl (by first | exact Or.inl rfl | exact Or.inr rfl)) (pgs_cons (pg_name (i := 7) nd rfl (by first | exact Or.inl rfl | exact Or.inr rfl)) (pgs_cons (pg_name (i := 8) nd rfl (by first | exact Or.inl rfl | exact Or.inr rfl)) (pgs_cons (pg_name (i := 9) nd rfl (by first | exact Or.inl rfl | exact Or.inr rfl)) pgs_nil)))))) (pss_cons (ps_set (i := 10) nd rfl (by first | exact Or.inl rfl | exact Or.inr rfl) (pe_tup (pa_cons (pe_op op_sub (pe_op op_sub (pe_op op_sub (pe_op op_mul (v_product_a rfl rfl) (v_product_e rfl rfl)) (pe_op op_mul (v_product_b rfl rfl) (v_product_f rfl rfl))) (pe_op op_mul (v_product_c rfl rfl) (v_product_g rfl rfl))) (pe_op op_mul (v_product_d rfl rfl) (v_product_h rfl rfl))) (pa_cons (pe_op op_sub (pe_op op_add (pe_op op_add (pe_op op_mul (v_product_a rfl rfl) (v_product_f rfl rfl)) (pe_op op_mul (v_product_b rfl rfl) (v_product_e rfl rfl))) (pe_op op_mul (v_product_c rfl rfl) (v_product_h rfl rfl))) (pe_op op_mul (v_product_d rfl rfl) (v_product_g rfl rfl))) (pa_cons (pe_op op_add (pe_op op_add (pe_op op_sub (pe_op op_mul (v_product_a rfl rfl) (v_product_g rfl rfl)) (pe_op op_mul (v_product_b rfl rfl) (v_product_h rfl rfl))) (pe_op op_mul (v_product_c rfl rfl) (v_product_e rfl rfl))) (pe_op op_mul (v_product_d rfl rfl) (v_product_f rfl rfl))) (pa_cons (pe_op op_add (pe_op op_sub (pe_op op_add (pe_op op_mul (v_product_a rfl rfl) (v_product_h rfl rfl)) (pe_op op_mul (v_product_b rfl rfl) (v_product_g rfl rfl))) (pe_op op_mul (v_product_c rfl rfl) (v_product_f rfl rfl))) (pe_op op_mul (v_product_d rfl rfl) (v_product_e rfl rfl))) pa_nil)))))) (pss_one (ps_ret (pe_callTy (w_tuple (K := K)) (by rfl) B.tuple (by decide +kernel) (pa_cons (pe_lc (own := [("part", 11)]) (g := (gName 11)) rfl nd (w_pit (K := K) (v_product_parts rfl rfl)) (blkOk_by (own := [("part", 11)]) (N := N_product) (sc := defScope s_product) (by decide +kernel)) (fun _ _ _ _ _ => (pg_name (i := 11) nd rfl (by first | exact Or.inl rfl | exact Or.inr rfl))) (fun _ _ _ _ _ => pts_nil) (fun _ _ _ _ _ => (pe_op op_fdiv (pv 11) pe_int))) pa_nil))))))))), ?_⟩
    refine q_drop (e_call (a_cons (e_var rfl) a_nil) ⟨p, .inl rfl, h1, rfl⟩) ?_
    refine q_drop (e_call (a_cons (e_var rfl) a_nil) ⟨q, .inl rfl, h2, rfl⟩) ?_
    refine q_asgG (vs := [2, 3, 4, 5]) (e_var rfl) (g_tup rfl (gs_cons g_name (gs_cons g_name (gs_cons g_name (gs_cons g_name gs_nil))))) ?_
    refine q_asgG (vs := [6, 7, 8, 9]) (e_var rfl) (g_tup rfl (gs_cons g_name (gs_cons g_name (gs_cons g_name (gs_cons g_name gs_nil))))) ?_
    show StE K _ [some (.val (qd p)), some (.val (qd q)), some (.val (.int p.a)), some (.val (.int p.b)), some (.val (.int p.c)), some (.val (.int p.d)), some (.val (.int q.a)), some (.val (.int q.b)), some (.val (.int q.c)), some (.val (.int q.d)), none, none] _ _
    have cm : ∀ {i j : Int}, i ∈ p.l → j ∈ q.l → CMul i j := fun {i j} hi hj => by
      simp only [Q4.l, List.mem_cons, List.mem_nil_iff, or_false] at hi hj
      rcases hs with ⟨h1, h2, h3, h4⟩ | ⟨h1, h2, h3, h4⟩
      · rcases hi with rfl | rfl | rfl | rfl <;> exact cml (by assumption)
      · rcases hj with rfl | rfl | rfl | rfl <;> exact cmr (by assumption)
    refine q_asg (d := .tuple [.int (p.a * q.a - p.b * q.b - p.c * q.c - p.d * q.d), .int (p.a * q.b + p.b * q.a + p.c * q.d - p.d * q.c), .int (p.a * q.c - p.b * q.d + p.c * q.a + p.d * q.b), .int (p.a * q.d + p.b * q.c - p.c * q.b + p.d * q.a)]) ?_ ?_
    · exact e_tup (a_cons (e_op (e_op (e_op (e_op (e_var rfl) (e_var rfl) (o_mul (cm (by simp [Q4.l]) (by simp [Q4.l])))) (e_op (e_var rfl) (e_var rfl) (o_mul (cm (by simp [Q4.l]) (by simp [Q4.l])))) o_sub) (e_op (e_var rfl) (e_var rfl) (o_mul (cm (by simp [Q4.l]) (by simp [Q4.l])))) o_sub) (e_op (e_var rfl) (e_var rfl) (o_mul (cm (by simp [Q4.l]) (by simp [Q4.l])))) o_sub) (a_cons (e_op (e_op (e_op (e_op (e_var rfl) (e_var rfl) (o_mul (cm (by simp [Q4.l]) (by simp [Q4.l])))) (e_op (e_var rfl) (e_var rfl) (o_mul (cm (by simp [Q4.l]) (by simp [Q4.l])))) o_add) (e_op (e_var rfl) (e_var rfl) (o_mul (cm (by simp [Q4.l]) (by simp [Q4.l])))) o_add) (e_op (e_var rfl) (e_var rfl) (o_mul (cm (by simp [Q4.l]) (by simp [Q4.l])))) o_sub) (a_cons (e_op (e_op (e_op (e_op (e_var rfl) (e_var rfl) (o_mul (cm (by simp [Q4.l]) (by simp [Q4.l])))) (e_op (e_var rfl) (e_var rfl) (o_mul (cm (by simp [Q4.l]) (by simp [Q4.l])))) o_sub) (e_op (e_var rfl) (e_var rfl) (o_mul (cm (by simp [Q4.l]) (by simp [Q4.l])))) o_add) (e_op (e_var rfl) (e_var rfl) (o_mul (cm (by simp [Q4.l]) (by simp [Q4.l])))) o_add) (a_cons (e_op (e_op (e_op (e_op (e_var rfl) (e_var rfl) (o_mul (cm (by simp [Q4.l]) (by simp [Q4.l])))) (e_op (e_var rfl) (e_var rfl) (o_mul (cm (by simp [Q4.l]) (by simp [Q4.l])))) o_add) (e_op (e_var rfl) (e_var rfl) (o_mul (cm (by simp [Q4.l]) (by simp [Q4.l])))) o_sub) (e_op (e_var rfl) (e_var rfl) (o_mul (cm (by simp [Q4.l]) (by simp [Q4.l])))) o_add) a_nil)))) (Nat.le_of_ble_eq_true rfl)
    · refine st_ret (e_cb (a_cons (e_own (c_map [p.a * q.a - p.b * q.b - p.c * q.c - p.d * q.d, p.a * q.b + p.b * q.a + p.c * q.d - p.d * q.c, p.a * q.c - p.b * q.d + p.c * q.a + p.d * q.b, p.a * q.d + p.b * q.c - p.c * q.b + p.d * q.a] .int (fun x => .int (x / 2)) (i_tup (e_var rfl)) (by show 4 ≤ 50000; decide) fun i a ha => ⟨_, g_name, ?_⟩)) a_nil) c_tupL) rfl
      exact e_op (e_var rfl) e_int (o_div (cdiv (by decide) (by decide)))
end
end TP

/-! The mathematics of products, norms, order, units. -/
namespace TP
open PySem PySem.W
/-! ### order -/
def ltq (p q : Q4) : Bool := decide (p.a < q.a ∨ p.a = q.a ∧ (p.b < q.b ∨ p.b = q.b ∧ (p.c < q.c ∨ p.c = q.c ∧ p.d < q.d)))
theorem ltq_data (p q : Q4) : dataLt (qd p) (qd q) = ltq p q := by
  obtain ⟨a, b, c, d⟩ := p
  obtain ⟨e, f, g, h⟩ := q
  rw [qd_l, qd_l, dataLt_tuple]
  have := dataLt_ints (Q4.l ⟨a, b, c, d⟩) (Q4.l ⟨e, f, g, h⟩)
  unfold rowLt at this
  rw [this]
  unfold ltq Q4.l
  simp only [List.cons_lt_cons_iff, decide_eq_decide]
  have n : ¬ (([] : List Int) < []) := by simp
  simp only [n, and_false, or_false]
def leq (p q : Q4) : Bool := !ltq q p
theorem leq_data : dataLe false qd = leq := by
  funext p q
  show (!dataLt (qd q) (qd p)) = _
  rw [ltq_data]
  rfl
theorem leq_trans (p q r : Q4) (h1 : leq p q = true) (h2 : leq q r = true) : leq p r = true := by
  simp only [leq, ltq, Bool.not_eq_true', decide_eq_false_iff_not] at *
  omega
theorem leq_total (p q : Q4) : (leq p q || leq q p) = true := by
  simp only [leq, ltq, Bool.or_eq_true, Bool.not_eq_true', decide_eq_false_iff_not]
  omega
theorem leq_anti (p q : Q4) (h1 : leq p q = true) (h2 : leq q p = true) : p = q := by
  obtain ⟨a, b, c, d⟩ := p
  obtain ⟨e, f, g, h⟩ := q
  simp only [leq, ltq, Bool.not_eq_true', decide_eq_false_iff_not] at *
  rw [Q4.mk.injEq]
  omega
def srt (l : List Q4) : List Q4 := l.mergeSort leq
theorem srt_eq {l m : List Q4} (hp : m.Perm l) (hs : m.Pairwise fun a b => leq a b = true) : srt l = m :=
  List.Perm.eq_of_pairwise (le := fun a b => leq a b = true) (fun a b _ _ h1 h2 => leq_anti a b h1 h2) (List.pairwise_mergeSort leq_trans leq_total l) hs ((List.mergeSort_perm l leq).trans hp.symm)
def maxq (x : Q4) (xs : List Q4) : Q4 := xs.foldl (fun a y => if ltq a y then y else a) x
theorem maxq_data (x : Q4) (xs : List Q4) : maxD (qd x) (xs.map qd) = qd (maxq x xs) := by
  unfold maxD maxq
  induction xs generalizing x with
  | nil => rfl
  | cons y ys ih =>
    rw [List.map_cons, List.foldl_cons, List.foldl_cons, ltq_data]
    cases ltq x y with
    | true => exact ih y
    | false => exact ih x
theorem maxq_mem (x : Q4) (xs : List Q4) : maxq x xs ∈ x :: xs := by
  unfold maxq
  induction xs generalizing x with
  | nil => exact List.mem_cons_self
  | cons y ys ih =>
    rw [List.foldl_cons]
    have h := ih (if ltq x y then y else x)
    rcases List.mem_cons.mp h with e | h
    · rw [e]
      cases ltq x y with
      | true => exact List.mem_cons_of_mem _ List.mem_cons_self
      | false => exact List.mem_cons_self
    · exact List.mem_cons_of_mem _ (List.mem_cons_of_mem _ h)
theorem maxq_le (x : Q4) (xs : List Q4) : ∀ y ∈ x :: xs, leq y (maxq x xs) = true := by
  unfold maxq
  induction xs generalizing x with
  | nil =>
    intro y hy
    rw [List.mem_singleton.mp hy]
    have := leq_total x x
    simpa using this
  | cons z zs ih =>
    intro y hy
    rw [List.foldl_cons]
    have key : leq x (if ltq x z then z else x) = true ∧ leq z (if ltq x z then z else x) = true := by
      cases e : ltq x z with
      | true =>
        refine ⟨?_, by have := leq_total z z; simpa using this⟩
        show leq x z = true
        have := leq_total x z
        unfold leq at this ⊢
        rw [e] at this
        simpa using this
      | false =>
        refine ⟨by have := leq_total x x; simpa using this, ?_⟩
        show leq z x = true
        unfold leq
        rw [e]
        rfl
    have top := ih (if ltq x z then z else x)
    rcases List.mem_cons.mp hy with e | hy
    · rw [e]
      exact leq_trans _ _ _ key.1 (top _ List.mem_cons_self)
    · rcases List.mem_cons.mp hy with e | hy
      · rw [e]
        exact leq_trans _ _ _ key.2 (top _ List.mem_cons_self)
      · exact top y (List.mem_cons_of_mem _ hy)
/-- the last one of the sorted list is the greatest -/
theorem srt_last (x : Q4) (xs : List Q4) : (srt (x :: xs))[(x :: xs).length - 1]? = some (maxq x xs) := by
  have hl : (srt (x :: xs)).length = (x :: xs).length := List.length_mergeSort ..
  have hlt : (x :: xs).length - 1 < (srt (x :: xs)).length := by rw [hl, List.length_cons]; omega
  rw [List.getElem?_eq_getElem hlt]
  congr 1
  have mem : (srt (x :: xs))[(x :: xs).length - 1] ∈ x :: xs := (List.mergeSort_perm (x :: xs) leq).mem_iff.mp (List.getElem_mem hlt)
  refine leq_anti _ _ (maxq_le x xs _ mem) ?_
  have hm : maxq x xs ∈ srt (x :: xs) := (List.mergeSort_perm (x :: xs) leq).mem_iff.mpr (maxq_mem x xs)
  obtain ⟨j, hj, e⟩ := List.getElem_of_mem hm
  rw [← e]
  by_cases q : j = (x :: xs).length - 1
  · subst q
    have := leq_total (srt (x :: xs))[(x :: xs).length - 1] (srt (x :: xs))[(x :: xs).length - 1]
    simpa using this
  · exact List.pairwise_iff_getElem.mp (List.pairwise_mergeSort leq_trans leq_total (x :: xs)) j _ hj hlt (by rw [hl] at hj; omega)

/-! ### units -/
def rawA : List Q4 := [⟨-1, -1, -1, -1⟩, ⟨-1, -1, -1, 1⟩, ⟨-1, -1, 1, -1⟩, ⟨-1, -1, 1, 1⟩, ⟨-1, 1, -1, -1⟩, ⟨-1, 1, -1, 1⟩, ⟨-1, 1, 1, -1⟩, ⟨-1, 1, 1, 1⟩, ⟨1, -1, -1, -1⟩, ⟨1, -1, -1, 1⟩, ⟨1, -1, 1, -1⟩, ⟨1, -1, 1, 1⟩, ⟨1, 1, -1, -1⟩, ⟨1, 1, -1, 1⟩, ⟨1, 1, 1, -1⟩, ⟨1, 1, 1, 1⟩]
def rawB : List Q4 := [⟨-2, 0, 0, 0⟩, ⟨2, 0, 0, 0⟩, ⟨0, -2, 0, 0⟩, ⟨0, 2, 0, 0⟩, ⟨0, 0, -2, 0⟩, ⟨0, 0, 2, 0⟩, ⟨0, 0, 0, -2⟩, ⟨0, 0, 0, 2⟩]
/-- the units, ascending -/
def U : List Q4 := [⟨-2, 0, 0, 0⟩, ⟨-1, -1, -1, -1⟩, ⟨-1, -1, -1, 1⟩, ⟨-1, -1, 1, -1⟩, ⟨-1, -1, 1, 1⟩, ⟨-1, 1, -1, -1⟩, ⟨-1, 1, -1, 1⟩, ⟨-1, 1, 1, -1⟩, ⟨-1, 1, 1, 1⟩, ⟨0, -2, 0, 0⟩, ⟨0, 0, -2, 0⟩, ⟨0, 0, 0, -2⟩, ⟨0, 0, 0, 2⟩, ⟨0, 0, 2, 0⟩, ⟨0, 2, 0, 0⟩, ⟨1, -1, -1, -1⟩, ⟨1, -1, -1, 1⟩, ⟨1, -1, 1, -1⟩, ⟨1, -1, 1, 1⟩, ⟨1, 1, -1, -1⟩, ⟨1, 1, -1, 1⟩, ⟨1, 1, 1, -1⟩, ⟨1, 1, 1, 1⟩, ⟨2, 0, 0, 0⟩]
/-- as the law builds them -/
def rawLA : List Q4 := rawA.reverse
def rawLB : List Q4 := [⟨2, 0, 0, 0⟩, ⟨-2, 0, 0, 0⟩, ⟨0, 2, 0, 0⟩, ⟨0, -2, 0, 0⟩, ⟨0, 0, 2, 0⟩, ⟨0, 0, -2, 0⟩, ⟨0, 0, 0, 2⟩, ⟨0, 0, 0, -2⟩]
theorem U_sorted : U.Pairwise fun a b => leq a b = true := by decide +kernel
theorem srt_U : srt (rawA ++ rawB) = U := srt_eq (List.isPerm_iff.mp (by decide +kernel)) U_sorted
theorem srt_UL : srt (rawLA ++ rawLB) = U := srt_eq (List.isPerm_iff.mp (by decide +kernel)) U_sorted
theorem U_par : ∀ u ∈ U, u.par ∧ u.sm 3 ∧ nrm u = 1 ∧ conj u ∈ U := by decide +kernel
theorem U_cons : U = ⟨-2, 0, 0, 0⟩ :: U.tail := rfl
/-- the canonical associate: the greatest product with a unit behind -/
def best (q : Q4) : Q4 := maxq (mul q ⟨-2, 0, 0, 0⟩) (U.tail.map (mul q))
theorem best_map (q : Q4) : U.map (mul q) = mul q ⟨-2, 0, 0, 0⟩ :: U.tail.map (mul q) := rfl
theorem best_mem (q : Q4) : ∃ u ∈ U, best q = mul q u := by
  have h := maxq_mem (mul q ⟨-2, 0, 0, 0⟩) (U.tail.map (mul q))
  rw [← best_map] at h
  obtain ⟨u, hu, e⟩ := List.mem_map.mp h
  exact ⟨u, hu, e.symm⟩

/-! ### products and norms -/
theorem ex2 (a t e u : Int) : (2 * a + t) * (2 * e + u) = 4 * (a * e) + 2 * (a * u) + 2 * (t * e) + t * u := by grind
theorem par_ex {q : Q4} (h : q.par) : ∃ (a b c d t : Int), (t = 0 ∨ t = 1) ∧ q = ⟨2 * a + t, 2 * b + t, 2 * c + t, 2 * d + t⟩ := by
  obtain ⟨a, b, c, d⟩ := q
  obtain ⟨h1, h2, h3⟩ := h
  refine ⟨a / 2, b / 2, c / 2, d / 2, a % 2, by omega, ?_⟩
  rw [Q4.mk.injEq]
  simp only at h1 h2 h3
  omega
/-- the halves are whole, and alike in parity -/
theorem mul_half {p q : Q4} (hp : p.par) (hq : q.par) : (mul p q).par ∧ 2 * (mul p q).a = p.a * q.a - p.b * q.b - p.c * q.c - p.d * q.d ∧ 2 * (mul p q).b = p.a * q.b + p.b * q.a + p.c * q.d - p.d * q.c ∧
    2 * (mul p q).c = p.a * q.c - p.b * q.d + p.c * q.a + p.d * q.b ∧ 2 * (mul p q).d = p.a * q.d + p.b * q.c - p.c * q.b + p.d * q.a := by
  obtain ⟨a, b, c, d, t, ht, rfl⟩ := par_ex hp
  obtain ⟨e, f, g, h, u, hu, rfl⟩ := par_ex hq
  unfold mul Q4.par
  simp only [ex2]
  rcases ht with rfl | rfl <;> rcases hu with rfl | rfl <;> simp only [Int.mul_zero, Int.zero_mul, Int.mul_one, Int.one_mul] <;> omega
theorem mul_par {p q : Q4} (hp : p.par) (hq : q.par) : (mul p q).par := (mul_half hp hq).1
theorem nrm4 {q : Q4} (h : q.par) : 4 * nrm q = q.a * q.a + q.b * q.b + q.c * q.c + q.d * q.d := by
  obtain ⟨a, b, c, d, t, ht, rfl⟩ := par_ex h
  unfold nrm
  simp only [ex2]
  rcases ht with rfl | rfl <;> simp only [Int.mul_zero, Int.zero_mul, Int.mul_one, Int.one_mul] <;> omega
theorem nrm_mul {p q : Q4} (hp : p.par) (hq : q.par) : nrm (mul p q) = nrm p * nrm q := by
  obtain ⟨h0, h1, h2, h3, h4⟩ := mul_half hp hq
  have e1 := nrm4 hp
  have e2 := nrm4 hq
  have e3 := nrm4 h0
  have key : 4 * (4 * nrm (mul p q)) = (4 * nrm p) * (4 * nrm q) := by
    rw [e1, e2, e3]
    have : 4 * ((mul p q).a * (mul p q).a + (mul p q).b * (mul p q).b + (mul p q).c * (mul p q).c + (mul p q).d * (mul p q).d) = (2 * (mul p q).a) * (2 * (mul p q).a) + (2 * (mul p q).b) * (2 * (mul p q).b) + (2 * (mul p q).c) * (2 * (mul p q).c) + (2 * (mul p q).d) * (2 * (mul p q).d) := by grind
    rw [this, h1, h2, h3, h4]
    grind
  have : 16 * nrm (mul p q) = 16 * (nrm p * nrm q) := by grind
  omega
theorem conj_par {q : Q4} (h : q.par) : (conj q).par := by
  unfold Q4.par conj at *
  simp only at *
  omega
theorem nrm_conj (q : Q4) : nrm (conj q) = nrm q := by
  unfold nrm conj
  simp only [Int.neg_mul_neg]
theorem sub_par {p q : Q4} (hp : p.par) (hq : q.par) : (sub4 p q).par := by
  unfold Q4.par sub4 at *
  simp only at *
  omega
theorem sq_nonneg' (x : Int) : 0 ≤ x * x := by
  rcases Int.le_total 0 x with h | h
  · exact Int.mul_nonneg h h
  · have := Int.mul_nonneg (Int.neg_nonneg.mpr h) (Int.neg_nonneg.mpr h)
    rw [Int.neg_mul_neg] at this
    exact this
theorem nrm_nonneg (q : Q4) : 0 ≤ nrm q := by
  unfold nrm
  have h1 := sq_nonneg' q.a
  have h2 := sq_nonneg' q.b
  have h3 := sq_nonneg' q.c
  have h4 := sq_nonneg' q.d
  omega
theorem lt_of_sq {x M : Int} (hM : 0 ≤ M) (h : x * x < M * M) : -M < x ∧ x < M := by
  constructor
  · rcases Int.lt_or_le (-M) x with k | k
    · exact k
    · have : M * M ≤ (-x) * (-x) := Int.mul_le_mul (by omega) (by omega) hM (by omega)
      rw [Int.neg_mul_neg] at this
      omega
  · rcases Int.lt_or_le x M with k | k
    · exact k
    · have : M * M ≤ x * x := Int.mul_le_mul k k hM (by omega)
      omega
/-- a norm below bounds the parts -/
theorem sm_of_nrm {q : Q4} (h : q.par) {M : Int} (hM : 0 ≤ M) (hn : 4 * nrm q < M * M) : q.sm M := by
  have e := nrm4 h
  have h1 := sq_nonneg' q.a
  have h2 := sq_nonneg' q.b
  have h3 := sq_nonneg' q.c
  have h4 := sq_nonneg' q.d
  exact ⟨lt_of_sq hM (by omega), lt_of_sq hM (by omega), lt_of_sq hM (by omega), lt_of_sq hM (by omega)⟩
theorem nrm_zero : nrm ⟨0, 0, 0, 0⟩ = 0 := by decide
theorem ne_zero {q : Q4} (h : nrm q ≠ 0) : q ≠ ⟨0, 0, 0, 0⟩ := fun e => h (by rw [e]; decide)
theorem best_par {q : Q4} (h : q.par) : (best q).par := by
  obtain ⟨u, hu, e⟩ := best_mem q
  rw [e]
  exact mul_par h (U_par u hu).1
theorem nrm_best {q : Q4} (h : q.par) : nrm (best q) = nrm q := by
  obtain ⟨u, hu, e⟩ := best_mem q
  rw [e, nrm_mul h (U_par u hu).1, (U_par u hu).2.2.1, Int.mul_one]
/-- a unit is taken back by its conjugate -/
theorem mul_back {q : Q4} (h : q.par) (u : Q4) (hu : u ∈ U) : mul (mul q u) (conj u) = q := by
  obtain ⟨u1, _, u2, _⟩ := U_par u hu
  obtain ⟨_, h1, h2, h3, h4⟩ := mul_half h u1
  have e := nrm4 u1
  rw [u2] at e
  generalize mul q u = r at *
  obtain ⟨qa, qb, qc, qd⟩ := q
  obtain ⟨a, b, c, d⟩ := u
  obtain ⟨ra, rb, rc, rd⟩ := r
  simp only at h1 h2 h3 h4 e
  unfold mul conj
  simp only [Q4.mk.injEq]
  have k1 : 2 * (ra * a - rb * -b - rc * -c - rd * -d) = 4 * qa := by grind
  have k2 : 2 * (ra * -b + rb * a + rc * -d - rd * -c) = 4 * qb := by grind
  have k3 : 2 * (ra * -c - rb * -d + rc * a + rd * -b) = 4 * qc := by grind
  have k4 : 2 * (ra * -d + rb * -c - rc * -b + rd * a) = 4 * qd := by grind
  omega
def prodL (l : List Q4) : Q4 := l.foldl mul ⟨2, 0, 0, 0⟩
theorem foldl_par : ∀ (l : List Q4) (p : Q4), p.par → (∀ q ∈ l, q.par) → (l.foldl mul p).par
  | [], p, h, _ => h
  | q :: l, p, h, k => foldl_par l (mul p q) (mul_par h (k q List.mem_cons_self)) fun r hr => k r (List.mem_cons_of_mem _ hr)
theorem prodL_par {l : List Q4} (h : ∀ q ∈ l, q.par) : (prodL l).par := foldl_par l _ (by decide) h
end TP

/-! Units, associates, products of lists: the program's and the law's. -/
namespace TP
open PySem L2 PySem.Spec PyProof.Rows
local macro_rules | `(tactic| walk_at "ev1") => `(tactic| first
  | with_reducible exact e_int
  | with_reducible exact e_str
  | with_reducible exact e_bl
  | with_reducible exact e_non
  | ((with_reducible apply e_var); exact rfl)
  | with_reducible apply e_op
  | with_reducible apply e_un
  | with_reducible apply e_call
  | with_reducible apply e_cb
  | with_reducible apply e_tup
  | with_reducible apply e_sl
  | with_reducible apply e_chain
  | with_reducible apply e_and
  | with_reducible apply e_or
  | with_reducible apply e_rev
  | with_reducible apply e_lst
  | exact Nat.le_of_ble_eq_true rfl
  | with_reducible exact p_none
  | with_reducible apply p_some
  | with_reducible exact a_nil
  | with_reducible apply a_cons
  | with_reducible apply t_b
  | with_reducible apply t_test
  | with_reducible exact t_yes
  | with_reducible apply t_not
  | with_reducible apply t_and
  | with_reducible apply t_or
  | with_reducible exact o_add
  | with_reducible exact o_sub
  | with_reducible apply o_mul
  | with_reducible apply o_div
  | with_reducible apply o_mod
  | with_reducible apply o_pow
  | with_reducible exact o_lt
  | with_reducible exact o_le
  | with_reducible exact o_gt
  | with_reducible exact o_ge
  | with_reducible exact u_neg
  | with_reducible exact o_eqI
  | with_reducible exact o_neI
  | with_reducible exact o_eqS
  | with_reducible exact o_neS
  | with_reducible exact o_neB
  | with_reducible exact o_isN
  | with_reducible exact o_notN
  | with_reducible exact o_isB
  | with_reducible exact o_notB
  | with_reducible exact c_int
  | with_reducible exact c_abs
  | with_reducible exact c_gcd
  | with_reducible exact c_lenL
  | with_reducible exact c_lenT
  | with_reducible exact c_tupL
  | with_reducible exact c_tupT
  | with_reducible exact s_lst
  | with_reducible exact s_tup
  | (refine fun (_ : _ = true) => ?_)
  | (refine fun (_ : _ = false) => ?_))
theorem alike_qd (p q : Q4) : PySem.W.alike (qd p) (qd q) = true := by simp [qd, PySem.W.alike, PySem.W.alikeAll]
theorem tup_qd (q : Q4) : ∃ x r, qd q = .tuple (x :: r) := ⟨_, _, rfl⟩
theorem depth_qd (q : Q4) : (qd q).depth ≤ 8 := by simp [qd, PyData.depth, PyData.depthAll]
theorem alikeAll_qd (l : List Q4) : PySem.W.AlikeAll (l.map qd) := by
  refine ⟨fun x hx y hy => ?_, fun x hx => ?_⟩
  · obtain ⟨p, _, rfl⟩ := List.mem_map.mp hx
    obtain ⟨q, _, rfl⟩ := List.mem_map.mp hy
    exact alike_qd p q
  · obtain ⟨p, _, rfl⟩ := List.mem_map.mp hx
    intro z
    cases z
theorem depthAll_qd : ∀ l : List Q4, PyData.depthAll (l.map qd) ≤ 8
  | [] => by simp [PyData.depthAll]
  | q :: l => by
    rw [List.map_cons, PyData.depthAll]
    exact Nat.max_le.mpr ⟨depth_qd q, depthAll_qd l⟩
theorem c_sortQ {K : PySem.W.Frag} {l : List Q4} : CbE K (rSortD K qd) [.list (l.map qd)] (.list ((srt l).map qd)) := by
  have h := c_sort (K := K) (enc := qd) (bs := l)
  rw [leq_data] at h
  exact h
theorem c_maxQ {K : PySem.W.Frag} {x : Q4} {l : List Q4} : CbE K (rMaxD K) [.list ((x :: l).map qd)] (qd (maxq x l)) := by
  have h := c_max (K := K) (x := qd x) (ds := l.map qd) (alikeAll_qd (x :: l)) (depthAll_qd (x :: l))
  rw [maxq_data] at h
  exact h
def R_product_of : List PyData → PyData → Prop := fun ds d => ∃ l : List Q4, ds = [.list (l.map qd)] ∧ (∀ q ∈ l, q.par ∧ q.sm (2 ^ 60)) ∧ d = qd (prodL l)
def R_units : List PyData → PyData → Prop := fun ds d => ds = [] ∧ d = .list (U.map qd)
def R_is_unit : List PyData → PyData → Prop := fun ds d => ∃ q : Q4, ds = [qd q] ∧ q.par ∧ q.sm (2 ^ 60) ∧ d = .bool (decide (nrm q = 1))
def R_associates : List PyData → PyData → Prop := fun ds d => ∃ q : Q4, ds = [qd q] ∧ q.par ∧ q ≠ ⟨0, 0, 0, 0⟩ ∧ d = .list ((srt (U.map (mul q))).map qd)
def R_canonical : List PyData → PyData → Prop := fun ds d => ∃ q : Q4, ds = [qd q] ∧ q.par ∧ q ≠ ⟨0, 0, 0, 0⟩ ∧ d = qd (best q)
theorem prodL_snoc (l : List Q4) (q : Q4) : prodL (l ++ [q]) = mul (prodL l) q := by
  unfold prodL
  rw [List.foldl_append]
  rfl
theorem take_snoc {α : Type} {l : List α} {i : Nat} {a : α} (h : l[i]? = some a) : l.take (i + 1) = l.take i ++ [a] := by
  rw [List.take_add_one, h]
  rfl
theorem map_at {α : Type} {f : α → PyData} {l : List α} {i : Nat} {d : PyData} (h : (l.map f)[i]? = some d) : ∃ a, l[i]? = some a ∧ d = f a := by
  rw [List.getElem?_map] at h
  cases e : l[i]? with
  | none =>
    rw [e] at h
    cases h
  | some a =>
    rw [e] at h
    exact ⟨a, rfl, (Option.some.inj h).symm⟩
theorem at_last {α : Type} {l : List α} (h : l ≠ []) : atI l (-1) = l[l.length - 1]? := by
  have : 0 < l.length := List.length_pos_iff.mpr h
  unfold atI ixN
  rw [if_neg (by omega), if_pos (by omega)]
  show l[((-1 : Int) + (l.length : Int)).toNat]? = _
  congr 1
  omega
section
variable {P : Program} {w : World} {K : PySem.W.Frag} {mg : Str → Option Value} {base : Heap}
abbrev N_product_of : List Str := ["numbers", "found", "number"]
theorem sc_product_of : FnScope N_product_of ["numbers"] (defScope s_product_of) := ⟨rfl, rfl, rfl, by decide +kernel, rfl, by decide +kernel, by decide +kernel⟩
theorem v_product_of_numbers {X : Cx} {pos : Pos} (hN : X.N = N_product_of) (hs : X.env.scope = defScope s_product_of) : PE X (.Name "numbers" pos) (tVar 0) := pe_var (by rw [hN]; rfl) (by rw [hs]; exact Or.inl (by decide +kernel)) (by decide +kernel) (by decide +kernel)
theorem v_product_of_found {X : Cx} {pos : Pos} (hN : X.N = N_product_of) (hs : X.env.scope = defScope s_product_of) : PE X (.Name "found" pos) (tVar 1) := pe_var (by rw [hN]; rfl) (by rw [hs]; exact Or.inl (by decide +kernel)) (by decide +kernel) (by decide +kernel)
theorem v_product_of_number {X : Cx} {pos : Pos} (hN : X.N = N_product_of) (hs : X.env.scope = defScope s_product_of) : PE X (.Name "number" pos) (tVar 2) := pe_var (by rw [hN]; rfl) (by rw [hs]; exact Or.inl (by decide +kernel)) (by decide +kernel) (by decide +kernel)
theorem ok_product_of (B : Mg K mg) (C_product : Cal P w K mg base "product" 3 ["one", "other"] (spR K R_product)) (D : Dn K mg "product_of" s_product_of ["numbers"]) : Cal P w K mg base "product_of" 4 ["numbers"] (spR K R_product_of) := by
  have nd := sc_product_of.nd
  refine mk_cal D sc_product_of (fun ds d h => ?_) (fun cdv A outer s H f E ds d hr h => ?_)
  · obtain ⟨l, rfl, _⟩ := h
    rfl
  · obtain ⟨l, rfl, hl, rfl⟩ := h
    refine ⟨_, (pss_cons (ps_set (i := 1) nd rfl (by first | exact Or.inl rfl | exact Or.inr rfl) (pe_gt B.ONE)) (pss_cons (ps_for PassesOwn.never rfl (w_pil (K := K) (v_product_of_numbers rfl rfl)) (pg_name (i := 2) nd rfl (by first | exact Or.inl rfl | exact Or.inr rfl)) (pss_one (ps_set (i := 1) nd rfl (by first | exact Or.inl rfl | exact Or.inr rfl) (pe_c C_product (hr.mono (by decide)) (pa_cons (v_product_of_found rfl rfl) (pa_cons (v_product_of_number rfl rfl) pa_nil)))))) (pss_one (ps_ret (v_product_of_found rfl rfl))))), ?_⟩
    show StE K _ [some (.val (.list (l.map qd))), none, none] _ _
    refine q_asg (e_con B.ONE.2) ?_
    refine q_for (vs := [2]) (i_list (e_var rfl)) (fun i env => ∃ x, env = [some (.val (.list (l.map qd))), some (.val (qd (prodL (l.take i)))), x]) ⟨none, rfl⟩ ?_ ?_
    · rintro i d e hd ⟨x, rfl⟩
      obtain ⟨q, hq, rfl⟩ := map_at hd
      refine ⟨_, g_name, ?_⟩
      have hpar : (prodL (l.take i)).par := prodL_par fun r hr => (hl r (List.mem_of_mem_take hr)).1
      obtain ⟨hp, hs⟩ := hl q (List.mem_of_getElem? hq)
      refine st_asg (e_call (a_cons (e_var rfl) (a_cons (e_var rfl) a_nil)) ⟨prodL (l.take i), q, rfl, hpar, hp, .inr hs, rfl⟩) ⟨some (.val (qd q)), ?_⟩
      rw [take_snoc hq, prodL_snoc]
      rfl
    · rintro e ⟨x, rfl⟩
      refine st_ret (e_var rfl) ?_
      rw [List.length_map, List.take_length]
abbrev N_is_unit : List Str := ["number"]
theorem sc_is_unit : FnScope N_is_unit ["number"] (defScope s_is_unit) := ⟨rfl, rfl, rfl, by decide +kernel, rfl, by decide +kernel, by decide +kernel⟩
theorem v_is_unit_number {X : Cx} {pos : Pos} (hN : X.N = N_is_unit) (hs : X.env.scope = defScope s_is_unit) : PE X (.Name "number" pos) (tVar 0) := pe_var (by rw [hN]; rfl) (by rw [hs]; exact Or.inl (by decide +kernel)) (by decide +kernel) (by decide +kernel)
theorem ok_is_unit (B : Mg K mg) (C_norm : Cal P w K mg base "norm" 3 ["number"] (spR K R_norm)) (D : Dn K mg "is_unit" s_is_unit ["number"]) : Cal P w K mg base "is_unit" 4 ["number"] (spR K R_is_unit) := by
  have nd := sc_is_unit.nd
  refine mk_cal D sc_is_unit (fun ds d h => ?_) (fun cdv A outer s H f E ds d hr h => ?_)
  · obtain ⟨l, rfl, _⟩ := h
    rfl
  · obtain ⟨q, rfl, hp, hs, rfl⟩ := h
    refine ⟨_, (pss_one (ps_ret (pe_cmpR op_eq (pe_c C_norm (hr.mono (by decide)) (pa_cons (v_is_unit_number rfl rfl) pa_nil)) pe_int (nomark _)))), ?_⟩
    exact st_ret (e_op (e_call (a_cons (e_var rfl) a_nil) ⟨q, rfl, hp, hs, rfl⟩) e_int o_eqI) rfl
abbrev N_associates : List Str := ["number", "unit"]
theorem sc_associates : FnScope N_associates ["number"] (defScope s_associates) := ⟨rfl, rfl, rfl, by decide +kernel, rfl, by decide +kernel, by decide +kernel⟩
theorem v_associates_number {X : Cx} {pos : Pos} (hN : X.N = N_associates) (hs : X.env.scope = defScope s_associates) : PE X (.Name "number" pos) (tVar 0) := pe_var (by rw [hN]; rfl) (by rw [hs]; exact Or.inr (Or.inl (by decide +kernel))) (by decide +kernel) (by decide +kernel)
theorem ok_associates (B : Mg K mg) (C_check_not_zero : Cal P w K mg base "check_not_zero" 3 ["number"] (spR K R_check_not_zero)) (C_product : Cal P w K mg base "product" 3 ["one", "other"] (spR K R_product)) (C_units : Cal P w K mg base "units" 1 [] (spR K R_units)) (D : Dn K mg "associates" s_associates ["number"]) : Cal P w K mg base "associates" 4 ["number"] (spR K R_associates) := by
  have nd := sc_associates.nd
  refine mk_cal D sc_associates (fun ds d h => ?_) (fun cdv A outer s H f E ds d hr h => ?_)
  · obtain ⟨l, rfl, _⟩ := h
    rfl
  · obtain ⟨q, rfl, hp, hz, rfl⟩ := h
    refine ⟨_, (pss_cons (ps_expr (pe_c C_check_not_zero (hr.mono (by decide)) (pa_cons (v_associates_number rfl rfl) pa_nil))) (pss_one (ps_ret (pe_callB (w_sortD (K := K) (enc := qd) alike_qd tup_qd depth_qd hr.units) (by rfl) B.sorted (by decide +kernel) (pa_cons (pe_lc (own := [("unit", 1)]) (g := (gName 1)) rfl nd (w_pil (K := K) (pe_c0 C_units (hr.mono (by decide)))) (blkOk_by (own := [("unit", 1)]) (N := N_associates) (sc := defScope s_associates) (by decide +kernel)) (fun _ _ _ _ _ => (pg_name (i := 1) nd rfl (by first | exact Or.inl rfl | exact Or.inr rfl))) (fun _ _ _ _ _ => pts_nil) (fun _ _ _ _ _ => (pe_c C_product (hr.mono (by decide)) (pa_cons (pv 0) (pa_cons (pv 1) pa_nil))))) pa_nil))))), ?_⟩
    refine q_drop (e_call (a_cons (e_var rfl) a_nil) ⟨q, .inl rfl, hp, hz, rfl⟩) ?_
    refine st_ret (e_cb (a_cons (e_own (c_map U qd (fun u => qd (mul q u)) (i_list (e_call a_nil ⟨rfl, rfl⟩)) (by decide) fun i u hu => ⟨_, g_name, ?_⟩)) a_nil) (by
      have e : U.map (fun u => qd (mul q u)) = (U.map (mul q)).map qd := by rw [List.map_map]; rfl
      rw [e]
      exact c_sortQ)) rfl
    obtain ⟨h1, h2, _⟩ := U_par u (List.mem_of_getElem? hu)
    refine e_call (a_cons (e_var rfl) (a_cons (e_var rfl) a_nil)) ⟨q, u, rfl, hp, h1, .inr ?_, rfl⟩
    obtain ⟨k1, k2, k3, k4⟩ := h2
    exact ⟨by omega, by omega, by omega, by omega⟩
abbrev N_canonical : List Str := ["number"]
theorem sc_canonical : FnScope N_canonical ["number"] (defScope s_canonical) := ⟨rfl, rfl, rfl, by decide +kernel, rfl, by decide +kernel, by decide +kernel⟩
theorem v_canonical_number {X : Cx} {pos : Pos} (hN : X.N = N_canonical) (hs : X.env.scope = defScope s_canonical) : PE X (.Name "number" pos) (tVar 0) := pe_var (by rw [hN]; rfl) (by rw [hs]; exact Or.inl (by decide +kernel)) (by decide +kernel) (by decide +kernel)
theorem ok_canonical (B : Mg K mg) (C_associates : Cal P w K mg base "associates" 4 ["number"] (spR K R_associates)) (D : Dn K mg "canonical" s_canonical ["number"]) : Cal P w K mg base "canonical" 5 ["number"] (spR K R_canonical) := by
  have nd := sc_canonical.nd
  refine mk_cal D sc_canonical (fun ds d h => ?_) (fun cdv A outer s H f E ds d hr h => ?_)
  · obtain ⟨l, rfl, _⟩ := h
    rfl
  · obtain ⟨q, rfl, hp, hz, rfl⟩ := h
    refine ⟨_, (pss_one (ps_ret (pe_ix (w_ixL (K := K)) (pe_c C_associates (hr.mono (by decide)) (pa_cons (v_canonical_number rfl rfl) pa_nil)) (pe_un un_neg pe_int) (fun _ _ => rfl)))), ?_⟩
    refine st_ret (e_op (e_call (a_cons (e_var rfl) a_nil) ⟨q, rfl, hp, hz, rfl⟩) (e_un e_int u_neg) (o_ixL ?_)) rfl
    have hl : (srt (U.map (mul q))).length = 24 := by
      unfold srt
      rw [List.length_mergeSort, List.length_map]
      rfl
    rw [at_last (by intro z; rw [List.map_eq_nil_iff] at z; rw [z] at hl; cases hl), List.length_map, hl, List.getElem?_map, best_map]
    have := srt_last (mul q ⟨-2, 0, 0, 0⟩) (U.tail.map (mul q))
    have e24 : (mul q ⟨-2, 0, 0, 0⟩ :: U.tail.map (mul q)).length - 1 = 24 - 1 := by
      rw [List.length_cons, List.length_map]
      rfl
    rw [e24] at this
    rw [this]
    rfl
end
end TP

/-! units, and the law's own products, sizes, units. -/
namespace TP
open PySem L2 PySem.Spec PyProof.Rows
local macro_rules | `(tactic| walk_at "ev1") => `(tactic| first
  | with_reducible exact e_int
  | with_reducible exact e_str
  | with_reducible exact e_bl
  | with_reducible exact e_non
  | ((with_reducible apply e_var); exact rfl)
  | with_reducible apply e_op
  | with_reducible apply e_un
  | with_reducible apply e_call
  | with_reducible apply e_cb
  | with_reducible apply e_tup
  | with_reducible apply e_sl
  | with_reducible apply e_chain
  | with_reducible apply e_and
  | with_reducible apply e_or
  | with_reducible apply e_rev
  | with_reducible apply e_lst
  | exact Nat.le_of_ble_eq_true rfl
  | with_reducible exact p_none
  | with_reducible apply p_some
  | with_reducible exact a_nil
  | with_reducible apply a_cons
  | with_reducible apply t_b
  | with_reducible apply t_test
  | with_reducible exact t_yes
  | with_reducible apply t_not
  | with_reducible apply t_and
  | with_reducible apply t_or
  | with_reducible exact o_add
  | with_reducible exact o_sub
  | with_reducible apply o_mul
  | with_reducible apply o_div
  | with_reducible apply o_mod
  | with_reducible apply o_pow
  | with_reducible exact o_lt
  | with_reducible exact o_le
  | with_reducible exact o_gt
  | with_reducible exact o_ge
  | with_reducible exact u_neg
  | with_reducible exact o_eqI
  | with_reducible exact o_neI
  | with_reducible exact o_eqS
  | with_reducible exact o_neS
  | with_reducible exact o_neB
  | with_reducible exact o_isN
  | with_reducible exact o_notN
  | with_reducible exact o_isB
  | with_reducible exact o_notB
  | with_reducible exact c_int
  | with_reducible exact c_abs
  | with_reducible exact c_gcd
  | with_reducible exact c_lenL
  | with_reducible exact c_lenT
  | with_reducible exact c_tupL
  | with_reducible exact c_tupT
  | with_reducible exact s_lst
  | with_reducible exact s_tup
  | (refine fun (_ : _ = true) => ?_)
  | (refine fun (_ : _ = false) => ?_))
def R_times : List PyData → PyData → Prop := fun ds d => ∃ p q : Q4, ds = [qd p, qd q] ∧ (p.sm (2 ^ 60) ∨ q.sm (2 ^ 60)) ∧ d = qd (mul p q)
def R_lconj : List PyData → PyData → Prop := fun ds d => ∃ q : Q4, ds = [qd q] ∧ d = qd (conj q)
def R_size : List PyData → PyData → Prop := fun ds d => ∃ q : Q4, ds = [qd q] ∧ q.sm (2 ^ 60) ∧ d = .int (nrm q)
def R_best : List PyData → PyData → Prop := fun ds d => ∃ q : Q4, ds = [qd q] ∧ d = qd (best q)
def R_lproduct : List PyData → PyData → Prop := fun ds d => ∃ l : List Q4, ds = [.list (l.map qd)] ∧ (∀ q ∈ l, q.sm (2 ^ 60)) ∧ d = qd (prodL l)
theorem rng_at {lo : Int} {n i : Nat} {d : PyData} (h : ((rng lo n).map PyData.int)[i]? = some d) : i < n ∧ d = .int (lo + (i : Int)) := by
  obtain ⟨a, ha, rfl⟩ := map_at h
  unfold rng at ha
  rw [List.getElem?_map] at ha
  by_cases hi : i < n
  · rw [List.getElem?_range hi] at ha
    exact ⟨hi, by rw [← Option.some.inj ha]⟩
  · rw [List.getElem?_eq_none (by rw [List.length_range]; omega)] at ha
    cases ha
theorem len_map {α β : Type} (f : α → β) (l : List α) : (l.map f).length = l.length := List.length_map ..
/-- the tables of the law -/
def tabT : List (List Int) := [[0, 1, 2, 3], [1, 0, 3, 2], [2, 3, 0, 1], [3, 2, 1, 0]]
def tabS : List (List Int) := [[1, 1, 1, 1], [1, -1, 1, -1], [1, -1, -1, 1], [1, 1, -1, -1]]
def li (l : List Int) : PyData := .list (l.map .int)
/-- one entry more -/
def tstep (p q : Q4) (f : List Int) (k n : Nat) : List Int := f.set ((tabT.getD k []).getD n 0).toNat (f.getD ((tabT.getD k []).getD n 0).toNat 0 + (tabS.getD k []).getD n 0 * p.l.getD k 0 * q.l.getD n 0)
def tin (p q : Q4) (f : List Int) (k : Nat) : Nat → List Int
  | 0 => f
  | n + 1 => tstep p q (tin p q f k n) k n
def tout (p q : Q4) : Nat → List Int
  | 0 => [0, 0, 0, 0]
  | k + 1 => tin p q (tout p q k) k 4
theorem tstep_len (p q : Q4) (f : List Int) (k n : Nat) : (tstep p q f k n).length = f.length := List.length_set ..
theorem tin_len (p q : Q4) (f : List Int) (k : Nat) : ∀ n, (tin p q f k n).length = f.length
  | 0 => rfl
  | n + 1 => by
    show (tstep p q (tin p q f k n) k n).length = _
    rw [tstep_len, tin_len p q f k n]
theorem tout_len (p q : Q4) : ∀ k, (tout p q k).length = 4
  | 0 => rfl
  | k + 1 => by
    show (tin p q (tout p q k) k 4).length = _
    rw [tin_len, tout_len p q k]
theorem tout_eq (p q : Q4) : (tout p q 4).map (fun x => x / 2) = (mul p q).l := by
  obtain ⟨a, b, c, d⟩ := p
  obtain ⟨e, f, g, h⟩ := q
  have r : tout ⟨a, b, c, d⟩ ⟨e, f, g, h⟩ 4 = [0 + 1 * a * e + -1 * b * f + -1 * c * g + -1 * d * h, 0 + 1 * a * f + 1 * b * e + 1 * c * h + -1 * d * g, 0 + 1 * a * g + -1 * b * h + 1 * c * e + 1 * d * f, 0 + 1 * a * h + 1 * b * g + -1 * c * f + 1 * d * e] := by kernel_rfl
  have h1 : 0 + 1 * a * e + -1 * b * f + -1 * c * g + -1 * d * h = a * e - b * f - c * g - d * h := by grind
  have h2 : 0 + 1 * a * f + 1 * b * e + 1 * c * h + -1 * d * g = a * f + b * e + c * h - d * g := by grind
  have h3 : 0 + 1 * a * g + -1 * b * h + 1 * c * e + 1 * d * f = a * g - b * h + c * e + d * f := by grind
  have h4 : 0 + 1 * a * h + 1 * b * g + -1 * c * f + 1 * d * e = a * h + b * g - c * f + d * e := by grind
  rw [r, h1, h2, h3, h4]
  rfl
theorem lt4 {k : Nat} (h : k < 4) : k = 0 ∨ k = 1 ∨ k = 2 ∨ k = 3 := by omega
theorem at_int {l : List Int} {k : Nat} (h : k < l.length) : atI (l.map PyData.int) (k : Int) = some (.int (l.getD k 0)) := by
  rw [atI_nat (j := k) (v := .int (l.getD k 0)) ?_]
  rw [List.getElem?_map, List.getD_eq_getElem?_getD, List.getElem?_eq_getElem h]
  rfl
theorem tab_at {t : List (List Int)} {k : Nat} (h : k < t.length) : atI (t.map li) (k : Int) = some (li (t.getD k [])) := by
  rw [atI_nat (j := k) (v := li (t.getD k [])) ?_]
  rw [List.getElem?_map, List.getD_eq_getElem?_getD, List.getElem?_eq_getElem h]
  rfl
section
variable {P : Program} {w : World} {K : PySem.W.Frag} {mg : Str → Option Value} {base : Heap}
abbrev N_law_times : List Str := ["_law_one", "_law_other", "_law_found", "_law_table", "_law_signs", "_law_k", "_law_n", "_law_part_here"]
theorem sc_law_times : FnScope N_law_times ["_law_one", "_law_other"] (defScope s_law_times) := ⟨rfl, rfl, rfl, by decide +kernel, rfl, by decide +kernel, by decide +kernel⟩
theorem v_law_times_law_one {X : Cx} {pos : Pos} (hN : X.N = N_law_times) (hs : X.env.scope = defScope s_law_times) : PE X (.Name "_law_one" pos) (tVar 0) := pe_var (by rw [hN]; rfl) (by rw [hs]; exact Or.inl (by decide +kernel)) (by decide +kernel) (by decide +kernel)
theorem v_law_times_law_other {X : Cx} {pos : Pos} (hN : X.N = N_law_times) (hs : X.env.scope = defScope s_law_times) : PE X (.Name "_law_other" pos) (tVar 1) := pe_var (by rw [hN]; rfl) (by rw [hs]; exact Or.inl (by decide +kernel)) (by decide +kernel) (by decide +kernel)
theorem v_law_times_law_found {X : Cx} {pos : Pos} (hN : X.N = N_law_times) (hs : X.env.scope = defScope s_law_times) : PE X (.Name "_law_found" pos) (tVar 2) := pe_var (by rw [hN]; rfl) (by rw [hs]; exact Or.inl (by decide +kernel)) (by decide +kernel) (by decide +kernel)
theorem v_law_times_law_table {X : Cx} {pos : Pos} (hN : X.N = N_law_times) (hs : X.env.scope = defScope s_law_times) : PE X (.Name "_law_table" pos) (tVar 3) := pe_var (by rw [hN]; rfl) (by rw [hs]; exact Or.inl (by decide +kernel)) (by decide +kernel) (by decide +kernel)
theorem v_law_times_law_signs {X : Cx} {pos : Pos} (hN : X.N = N_law_times) (hs : X.env.scope = defScope s_law_times) : PE X (.Name "_law_signs" pos) (tVar 4) := pe_var (by rw [hN]; rfl) (by rw [hs]; exact Or.inl (by decide +kernel)) (by decide +kernel) (by decide +kernel)
theorem v_law_times_law_k {X : Cx} {pos : Pos} (hN : X.N = N_law_times) (hs : X.env.scope = defScope s_law_times) : PE X (.Name "_law_k" pos) (tVar 5) := pe_var (by rw [hN]; rfl) (by rw [hs]; exact Or.inl (by decide +kernel)) (by decide +kernel) (by decide +kernel)
theorem v_law_times_law_n {X : Cx} {pos : Pos} (hN : X.N = N_law_times) (hs : X.env.scope = defScope s_law_times) : PE X (.Name "_law_n" pos) (tVar 6) := pe_var (by rw [hN]; rfl) (by rw [hs]; exact Or.inl (by decide +kernel)) (by decide +kernel) (by decide +kernel)
theorem ok_law_times (B : Mg K mg) (D : Dn K mg "_law_times" s_law_times ["_law_one", "_law_other"]) : Cal P w K mg base "_law_times" 1 ["_law_one", "_law_other"] (spR K R_times) := by
  have nd := sc_law_times.nd
  refine mk_cal D sc_law_times (fun ds d h => ?_) (fun cdv A outer s H f E ds d hr h => ?_)
  · obtain ⟨p, q, rfl, _⟩ := h
    rfl
  · obtain ⟨p, q, rfl, hs, rfl⟩ := h
    refine ⟨_, (pss_cons (ps_set (i := 2) nd rfl (by first | exact Or.inl rfl | exact Or.inr rfl) (pe_lst (pa_ints _ _ rfl))) (pss_cons (ps_set (i := 3) nd rfl (by first | exact Or.inl rfl | exact Or.inr rfl) (pe_lst (pa_cons (pe_lst (pa_ints _ _ rfl)) (pa_cons (pe_lst (pa_ints _ _ rfl)) (pa_cons (pe_lst (pa_ints _ _ rfl)) (pa_cons (pe_lst (pa_ints _ _ rfl)) pa_nil)))))) (pss_cons (ps_set (i := 4) nd rfl (by first | exact Or.inl rfl | exact Or.inr rfl) (pe_lst (pa_cons (pe_lst (pa_ints _ _ rfl)) (pa_cons (pe_lst (pa_ints _ _ rfl)) (pa_cons (pe_lst (pa_ints _ _ rfl)) (pa_cons (pe_lst (pa_ints _ _ rfl)) pa_nil)))))) (pss_cons (ps_for PassesOwn.never rfl (pi_range1 rfl B.range (pa_cons pe_int pa_nil)) (pg_name (i := 5) nd rfl (by first | exact Or.inl rfl | exact Or.inr rfl)) (pss_one (ps_for PassesOwn.never rfl (pi_range1 rfl B.range (pa_cons pe_int pa_nil)) (pg_name (i := 6) nd rfl (by first | exact Or.inl rfl | exact Or.inr rfl)) (pss_one (ps_asg (pe_op op_add (pe_ix (w_ixL (K := K)) (v_law_times_law_found rfl rfl) (pe_ix (w_ixL (K := K)) (pe_ix (w_ixL (K := K)) (v_law_times_law_table rfl rfl) (v_law_times_law_k rfl rfl) (fun _ _ => rfl)) (v_law_times_law_n rfl rfl) (fun _ _ => rfl)) (fun _ _ => rfl)) (pe_op op_mul (pe_op op_mul (pe_ix (w_ixL (K := K)) (pe_ix (w_ixL (K := K)) (v_law_times_law_signs rfl rfl) (v_law_times_law_k rfl rfl) (fun _ _ => rfl)) (v_law_times_law_n rfl rfl) (fun _ _ => rfl)) (pe_ix (w_ixT (K := K)) (v_law_times_law_one rfl rfl) (v_law_times_law_k rfl rfl) (fun _ _ => rfl))) (pe_ix (w_ixT (K := K)) (v_law_times_law_other rfl rfl) (v_law_times_law_n rfl rfl) (fun _ _ => rfl)))) (pg_sub (v_law_times_law_found rfl rfl) (pe_ix (w_ixL (K := K)) (pe_ix (w_ixL (K := K)) (v_law_times_law_table rfl rfl) (v_law_times_law_k rfl rfl) (fun _ _ => rfl)) (v_law_times_law_n rfl rfl) (fun _ _ => rfl)) set_list)))))) (pss_one (ps_ret (pe_callTy (w_tuple (K := K)) (by rfl) B.tuple (by decide +kernel) (pa_cons (pe_lc (own := [("_law_part_here", 7)]) (g := (gName 7)) rfl nd (w_pil (K := K) (v_law_times_law_found rfl rfl)) (blkOk_by (own := [("_law_part_here", 7)]) (N := N_law_times) (sc := defScope s_law_times) (by decide +kernel)) (fun _ _ _ _ _ => (pg_name (i := 7) nd rfl (by first | exact Or.inl rfl | exact Or.inr rfl))) (fun _ _ _ _ _ => pts_nil) (fun _ _ _ _ _ => (pe_op op_fdiv (pv 7) pe_int))) pa_nil)))))))), ?_⟩
    show StE K _ [some (.val (qd p)), some (.val (qd q)), none, none, none, none, none, none] _ _
    refine q_own (ds := [0, 0, 0, 0].map .int) (o_lst a_ints (Nat.le_of_ble_eq_true rfl)) ?_
    have row : ∀ (ns : List Int) (env : En), ns.length ≤ 100000 → EvE K (tLst (tInts ns)) env (li ns) := fun ns env h => e_lst a_ints (by rw [len_map]; exact h)
    have r4 : ∀ {a b c d : Int}, [a, b, c, d].length ≤ 100000 := fun {a b c d} => Nat.le_of_ble_eq_true rfl
    refine q_asg (d := .list (tabT.map li)) (e_lst (a_cons (row _ _ r4) (a_cons (row _ _ r4) (a_cons (row _ _ r4) (a_cons (row _ _ r4) a_nil)))) (Nat.le_of_ble_eq_true rfl)) ?_
    refine q_asg (d := .list (tabS.map li)) (e_lst (a_cons (row _ _ r4) (a_cons (row _ _ r4) (a_cons (row _ _ r4) (a_cons (row _ _ r4) a_nil)))) (Nat.le_of_ble_eq_true rfl)) ?_
    refine q_for (vs := [5]) (i_rng1 (a_cons e_int a_nil) (by decide) (by decide)) (fun i env => ∃ x y, env = [some (.val (qd p)), some (.val (qd q)), some (.own ((tout p q i).map .int)), some (.val (.list (tabT.map li))), some (.val (.list (tabS.map li))), x, y, none]) ⟨none, none, rfl⟩ ?_ ?_
    · rintro k d e hd ⟨x, y, rfl⟩
      obtain ⟨hk, rfl⟩ := rng_at hd
      have hk : k < 4 := hk
      refine ⟨_, g_name, ?_⟩
      rw [Int.zero_add]
      refine st_for (vs := [6]) (i_rng1 (a_cons e_int a_nil) (by decide) (by decide)) (fun n env => ∃ y, env = [some (.val (qd p)), some (.val (qd q)), some (.own ((tin p q (tout p q k) k n).map .int)), some (.val (.list (tabT.map li))), some (.val (.list (tabS.map li))), some (.val (.int (k : Int))), y, none]) ⟨y, rfl⟩ ?_ ?_
      · rintro n d e hd ⟨y, rfl⟩
        obtain ⟨hn, rfl⟩ := rng_at hd
        have hn : n < 4 := hn
        refine ⟨_, g_name, ?_⟩
        rw [Int.zero_add]
        show StE K _ [some (.val (qd p)), some (.val (qd q)), some (.own ((tin p q (tout p q k) k n).map .int)), some (.val (.list (tabT.map li))), some (.val (.list (tabS.map li))), some (.val (.int (k : Int))), some (.val (.int (n : Int))), none] _ _
        have lF : (tin p q (tout p q k) k n).length = 4 := by rw [tin_len, tout_len]
        have hT : (tabT.getD k []).length = 4 ∧ (tabS.getD k []).length = 4 ∧ (tabT.getD k []).getD n 0 = (((tabT.getD k []).getD n 0).toNat : Int) ∧ ((tabT.getD k []).getD n 0).toNat < 4 := by
          rcases lt4 hk with rfl | rfl | rfl | rfl <;> rcases lt4 hn with rfl | rfl | rfl | rfl <;> decide
        have hS : -(2 ^ 10) < (tabS.getD k []).getD n 0 ∧ (tabS.getD k []).getD n 0 < 2 ^ 10 := by
          rcases lt4 hk with rfl | rfl | rfl | rfl <;> rcases lt4 hn with rfl | rfl | rfl | rfl <;> decide
        obtain ⟨t1, t2, t3, t4⟩ := hT
        have eT : EvE K (tOp (rIxL K) (tOp (rIxL K) (tVar 3) (tVar 5)) (tVar 6)) [some (.val (qd p)), some (.val (qd q)), some (.own ((tin p q (tout p q k) k n).map .int)), some (.val (.list (tabT.map li))), some (.val (.list (tabS.map li))), some (.val (.int (k : Int))), some (.val (.int (n : Int))), none] (.int (((tabT.getD k []).getD n 0).toNat : Int)) := by
          rw [← t3]
          exact e_op (e_op (e_var rfl) (e_var rfl) (o_ixL (tab_at hk))) (e_var rfl) (o_ixL (at_int (by rw [t1]; exact hn)))
        refine st_put (j := ((tabT.getD k []).getD n 0).toNat) rfl (d := .int ((tin p q (tout p q k) k n).getD ((tabT.getD k []).getD n 0).toNat 0 + (tabS.getD k []).getD n 0 * p.l.getD k 0 * q.l.getD n 0)) ?_ eT (by rw [len_map, lF]; exact t4) ⟨some (.val (.int (n : Int))), ?_⟩
        · refine e_op (e_ixO rfl eT (at_int (by rw [lF]; exact t4))) (e_op (e_op (e_op (e_op (e_var rfl) (e_var rfl) (o_ixL (tab_at hk))) (e_var rfl) (o_ixL (at_int (by rw [t2]; exact hn)))) (e_op (e_var rfl) (e_var rfl) (o_ixT (at_int (l := p.l) hk))) (o_mul (cml ⟨by omega, by omega⟩))) (e_op (e_var rfl) (e_var rfl) (o_ixT (at_int (l := q.l) hn))) (o_mul ?_)) o_add
          rcases hs with ⟨h1, h2, h3, h4⟩ | ⟨h1, h2, h3, h4⟩
          · refine .inl ?_
            have hp : -(2 ^ 60) < p.l.getD k 0 ∧ p.l.getD k 0 < 2 ^ 60 := by
              rcases lt4 hk with rfl | rfl | rfl | rfl <;> assumption
            have hs1 : (tabS.getD k []).getD n 0 = 1 ∨ (tabS.getD k []).getD n 0 = -1 := by
              rcases lt4 hk with rfl | rfl | rfl | rfl <;> rcases lt4 hn with rfl | rfl | rfl | rfl <;> decide
            rcases hs1 with e | e <;> rw [e] <;> omega
          · refine cmr ?_
            rcases lt4 hn with rfl | rfl | rfl | rfl <;> assumption
        · show _ = ([some (.val (qd p)), some (.val (qd q)), some (.own ((tstep p q (tin p q (tout p q k) k n) k n).map .int)), some (.val (.list (tabT.map li))), some (.val (.list (tabS.map li))), some (.val (.int (k : Int))), some (.val (.int (n : Int))), none] : En)
          unfold tstep
          rw [List.map_set]
          rfl
      · rintro e ⟨y, rfl⟩
        exact ⟨_, _, rfl⟩
    · rintro e ⟨x, y, rfl⟩
      refine st_frz 2 rfl ?_
      refine st_ret (e_cb (a_cons (e_own (c_map (tout p q 4) .int (fun z => .int (z / 2)) (i_list (e_var rfl)) (by rw [tout_len]; decide) fun i a ha => ⟨_, g_name, ?_⟩)) a_nil) c_tupL) ?_
      · exact e_op (e_var rfl) e_int (o_div (cdiv (by decide) (by decide)))
      · have e := tout_eq p q
        have e2 : (tout p q 4).map (fun z => PyData.int (z / 2)) = ((tout p q 4).map (fun x => x / 2)).map .int := by rw [List.map_map]; rfl
        rw [e2, e, qd_l]
abbrev N_law_conjugate : List Str := ["_law_one"]
theorem sc_law_conjugate : FnScope N_law_conjugate ["_law_one"] (defScope s_law_conjugate) := ⟨rfl, rfl, rfl, by decide +kernel, rfl, by decide +kernel, by decide +kernel⟩
theorem v_law_conjugate_law_one {X : Cx} {pos : Pos} (hN : X.N = N_law_conjugate) (hs : X.env.scope = defScope s_law_conjugate) : PE X (.Name "_law_one" pos) (tVar 0) := pe_var (by rw [hN]; rfl) (by rw [hs]; exact Or.inl (by decide +kernel)) (by decide +kernel) (by decide +kernel)
theorem ok_law_conjugate (B : Mg K mg) (D : Dn K mg "_law_conjugate" s_law_conjugate ["_law_one"]) : Cal P w K mg base "_law_conjugate" 1 ["_law_one"] (spR K R_lconj) := by
  have nd := sc_law_conjugate.nd
  refine mk_cal D sc_law_conjugate (fun ds d h => ?_) (fun cdv A outer s H f E ds d hr h => ?_)
  · obtain ⟨q, rfl, _⟩ := h
    rfl
  · obtain ⟨q, rfl, rfl⟩ := h
    refine ⟨_, (pss_one (ps_ret (pe_tup (pa_cons (pe_ix (w_ixT (K := K)) (v_law_conjugate_law_one rfl rfl) pe_int (fun _ _ => rfl)) (pa_cons (pe_op op_sub pe_int (pe_ix (w_ixT (K := K)) (v_law_conjugate_law_one rfl rfl) pe_int (fun _ _ => rfl))) (pa_cons (pe_op op_sub pe_int (pe_ix (w_ixT (K := K)) (v_law_conjugate_law_one rfl rfl) pe_int (fun _ _ => rfl))) (pa_cons (pe_op op_sub pe_int (pe_ix (w_ixT (K := K)) (v_law_conjugate_law_one rfl rfl) pe_int (fun _ _ => rfl))) pa_nil))))))), ?_⟩
    have ix : ∀ k : Nat, k < 4 → EvE K (tOp (rIxT K) (tVar 0) (tC (.int (k : Int)))) [some (.val (qd q))] (.int (q.l.getD k 0)) := fun k hk => e_op (e_var rfl) e_int (o_ixT (at_int (l := q.l) hk))
    refine st_ret (d := .tuple [.int q.a, .int (0 - q.b), .int (0 - q.c), .int (0 - q.d)]) (e_tup (a_cons (ix 0 (by decide)) (a_cons (e_op e_int (ix 1 (by decide)) o_sub) (a_cons (e_op e_int (ix 2 (by decide)) o_sub) (a_cons (e_op e_int (ix 3 (by decide)) o_sub) a_nil)))) (Nat.le_of_ble_eq_true rfl)) ?_
    simp only [qd, conj, Int.zero_sub]
abbrev N_law_size : List Str := ["_law_one", "_law_part_here"]
theorem sc_law_size : FnScope N_law_size ["_law_one"] (defScope s_law_size) := ⟨rfl, rfl, rfl, by decide +kernel, rfl, by decide +kernel, by decide +kernel⟩
theorem v_law_size_law_one {X : Cx} {pos : Pos} (hN : X.N = N_law_size) (hs : X.env.scope = defScope s_law_size) : PE X (.Name "_law_one" pos) (tVar 0) := pe_var (by rw [hN]; rfl) (by rw [hs]; exact Or.inl (by decide +kernel)) (by decide +kernel) (by decide +kernel)
theorem ok_law_size (B : Mg K mg) (D : Dn K mg "_law_size" s_law_size ["_law_one"]) : Cal P w K mg base "_law_size" 1 ["_law_one"] (spR K R_size) := by
  have nd := sc_law_size.nd
  refine mk_cal D sc_law_size (fun ds d h => ?_) (fun cdv A outer s H f E ds d hr h => ?_)
  · obtain ⟨q, rfl, _⟩ := h
    rfl
  · obtain ⟨q, rfl, hs, rfl⟩ := h
    refine ⟨_, (pss_one (ps_ret (pe_op op_fdiv (pe_callB (w_sum (K := K) rfl) (by rfl) B.sum (by decide +kernel) (pa_cons (pe_lc (own := [("_law_part_here", 1)]) (g := (gName 1)) rfl nd (w_pit (K := K) (v_law_size_law_one rfl rfl)) (blkOk_by (own := [("_law_part_here", 1)]) (N := N_law_size) (sc := defScope s_law_size) (by decide +kernel)) (fun _ _ _ _ _ => (pg_name (i := 1) nd rfl (by first | exact Or.inl rfl | exact Or.inr rfl))) (fun _ _ _ _ _ => pts_nil) (fun _ _ _ _ _ => (pe_op op_mul (pv 1) (pv 1)))) pa_nil)) pe_int))), ?_⟩
    refine st_ret (e_op (e_cb (a_cons (e_own (c_map q.l .int (fun x => .int (x * x)) (i_tup (e_var (by rw [qd_l]; rfl))) (by show 4 ≤ 50000; decide) fun i a ha => ⟨_, g_name, ?_⟩)) a_nil) (by rw [show (q.l.map fun x => PyData.int (x * x)) = (q.l.map fun x => x * x).map .int from rfl]; exact c_sum)) e_int (o_div (cdiv (by decide) (by decide)))) (by rw [sum4])
    refine e_op (e_var rfl) (e_var rfl) (o_mul (cml ?_))
    obtain ⟨h1, h2, h3, h4⟩ := hs
    have hm := List.mem_of_getElem? ha
    simp only [Q4.l, List.mem_cons, List.mem_nil_iff, or_false] at hm
    rcases hm with rfl | rfl | rfl | rfl <;> assumption
abbrev N_law_product : List Str := ["_law_row_here", "_law_found", "_law_one"]
theorem sc_law_product : FnScope N_law_product ["_law_row_here"] (defScope s_law_product) := ⟨rfl, rfl, rfl, by decide +kernel, rfl, by decide +kernel, by decide +kernel⟩
theorem v_law_product_law_row_here {X : Cx} {pos : Pos} (hN : X.N = N_law_product) (hs : X.env.scope = defScope s_law_product) : PE X (.Name "_law_row_here" pos) (tVar 0) := pe_var (by rw [hN]; rfl) (by rw [hs]; exact Or.inl (by decide +kernel)) (by decide +kernel) (by decide +kernel)
theorem v_law_product_law_found {X : Cx} {pos : Pos} (hN : X.N = N_law_product) (hs : X.env.scope = defScope s_law_product) : PE X (.Name "_law_found" pos) (tVar 1) := pe_var (by rw [hN]; rfl) (by rw [hs]; exact Or.inl (by decide +kernel)) (by decide +kernel) (by decide +kernel)
theorem v_law_product_law_one {X : Cx} {pos : Pos} (hN : X.N = N_law_product) (hs : X.env.scope = defScope s_law_product) : PE X (.Name "_law_one" pos) (tVar 2) := pe_var (by rw [hN]; rfl) (by rw [hs]; exact Or.inl (by decide +kernel)) (by decide +kernel) (by decide +kernel)
theorem ok_law_product (B : Mg K mg) (C_law_times : Cal P w K mg base "_law_times" 1 ["_law_one", "_law_other"] (spR K R_times)) (D : Dn K mg "_law_product" s_law_product ["_law_row_here"]) : Cal P w K mg base "_law_product" 2 ["_law_row_here"] (spR K R_lproduct) := by
  have nd := sc_law_product.nd
  refine mk_cal D sc_law_product (fun ds d h => ?_) (fun cdv A outer s H f E ds d hr h => ?_)
  · obtain ⟨l, rfl, _⟩ := h
    rfl
  · obtain ⟨l, rfl, hl, rfl⟩ := h
    refine ⟨_, (pss_cons (ps_set (i := 1) nd rfl (by first | exact Or.inl rfl | exact Or.inr rfl) (pe_tup (pa_ints _ _ rfl))) (pss_cons (ps_for PassesOwn.never rfl (w_pil (K := K) (v_law_product_law_row_here rfl rfl)) (pg_name (i := 2) nd rfl (by first | exact Or.inl rfl | exact Or.inr rfl)) (pss_one (ps_set (i := 1) nd rfl (by first | exact Or.inl rfl | exact Or.inr rfl) (pe_c C_law_times (hr.mono (by decide)) (pa_cons (v_law_product_law_found rfl rfl) (pa_cons (v_law_product_law_one rfl rfl) pa_nil)))))) (pss_one (ps_ret (v_law_product_law_found rfl rfl))))), ?_⟩
    show StE K _ [some (.val (.list (l.map qd))), none, none] _ _
    refine q_asg (d := qd ⟨2, 0, 0, 0⟩) (e_tup a_ints (Nat.le_of_ble_eq_true rfl)) ?_
    refine q_for (vs := [2]) (i_list (e_var rfl)) (fun i env => ∃ x, env = [some (.val (.list (l.map qd))), some (.val (qd (prodL (l.take i)))), x]) ⟨none, rfl⟩ ?_ ?_
    · rintro i d e hd ⟨x, rfl⟩
      obtain ⟨q, hq, rfl⟩ := map_at hd
      refine ⟨_, g_name, ?_⟩
      refine st_asg (e_call (a_cons (e_var rfl) (a_cons (e_var rfl) a_nil)) ⟨prodL (l.take i), q, rfl, .inr (hl q (List.mem_of_getElem? hq)), rfl⟩) ⟨some (.val (qd q)), ?_⟩
      rw [take_snoc hq, prodL_snoc]
      rfl
    · rintro e ⟨x, rfl⟩
      refine st_ret (e_var rfl) ?_
      rw [List.length_map, List.take_length]
abbrev N_law_best : List Str := ["_law_one", "_law_unit"]
theorem sc_law_best : FnScope N_law_best ["_law_one"] (defScope s_law_best) := ⟨rfl, rfl, rfl, by decide +kernel, rfl, by decide +kernel, by decide +kernel⟩
theorem v_law_best_law_one {X : Cx} {pos : Pos} (hN : X.N = N_law_best) (hs : X.env.scope = defScope s_law_best) : PE X (.Name "_law_one" pos) (tVar 0) := pe_var (by rw [hN]; rfl) (by rw [hs]; exact Or.inr (Or.inl (by decide +kernel))) (by decide +kernel) (by decide +kernel)
theorem ok_law_best (B : Mg K mg) (C_law_times : Cal P w K mg base "_law_times" 1 ["_law_one", "_law_other"] (spR K R_times)) (C_law_units : Cal P w K mg base "_law_units" 1 [] (spR K R_units)) (D : Dn K mg "_law_best" s_law_best ["_law_one"]) : Cal P w K mg base "_law_best" 2 ["_law_one"] (spR K R_best) := by
  have nd := sc_law_best.nd
  refine mk_cal D sc_law_best (fun ds d h => ?_) (fun cdv A outer s H f E ds d hr h => ?_)
  · obtain ⟨l, rfl, _⟩ := h
    rfl
  · obtain ⟨q, rfl, rfl⟩ := h
    refine ⟨_, (pss_one (ps_ret (pe_callB (w_maxD (K := K) rfl hr.units) (by rfl) B.max (by decide +kernel) (pa_cons (pe_lc (own := [("_law_unit", 1)]) (g := (gName 1)) rfl nd (w_pil (K := K) (pe_c0 C_law_units (hr.mono (by decide)))) (blkOk_by (own := [("_law_unit", 1)]) (N := N_law_best) (sc := defScope s_law_best) (by decide +kernel)) (fun _ _ _ _ _ => (pg_name (i := 1) nd rfl (by first | exact Or.inl rfl | exact Or.inr rfl))) (fun _ _ _ _ _ => pts_nil) (fun _ _ _ _ _ => (pe_c C_law_times (hr.mono (by decide)) (pa_cons (pv 0) (pa_cons (pv 1) pa_nil))))) pa_nil)))), ?_⟩
    refine st_ret (e_cb (a_cons (e_own (c_map U qd (fun u => qd (mul q u)) (i_list (e_call a_nil ⟨rfl, rfl⟩)) (by decide) fun i u hu => ⟨_, g_name, ?_⟩)) a_nil) (by
      have e : U.map (fun u => qd (mul q u)) = (mul q ⟨-2, 0, 0, 0⟩ :: U.tail.map (mul q)).map qd := by rw [← best_map, List.map_map]; rfl
      rw [e]
      exact c_maxQ)) rfl
    obtain ⟨h1, h2, _⟩ := U_par u (List.mem_of_getElem? hu)
    refine e_call (a_cons (e_var rfl) (a_cons (e_var rfl) a_nil)) ⟨q, u, rfl, .inr ?_, rfl⟩
    obtain ⟨k1, k2, k3, k4⟩ := h2
    exact ⟨by omega, by omega, by omega, by omega⟩
end
end TP

/-! The 24 units, twice. -/
namespace TP
open PySem L2 PySem.Spec PyProof.Rows
def fA3 (a b c : Int) : List PyData := ([-1, 1] : List Int).flatMap fun d => [qd ⟨a, b, c, d⟩]
def fA2 (a b : Int) : List PyData := ([-1, 1] : List Int).flatMap fun c => fA3 a b c
def fA1 (a : Int) : List PyData := ([-1, 1] : List Int).flatMap fun b => fA2 a b
theorem fA_eq : (([-1, 1] : List Int).flatMap fun a => fA1 a) = rawA.map qd := rfl
theorem LA_at : ∀ k : Fin 16, rawLA[k.val]? = some ⟨1 - 2 * (((k.val : Nat) : Int) / 8), 1 - 2 * (((k.val : Nat) : Int) / 4 % 2), 1 - 2 * (((k.val : Nat) : Int) / 2 % 2), 1 - 2 * (((k.val : Nat) : Int) % 2)⟩ := by decide +kernel
section
variable {P : Program} {w : World} {K : PySem.W.Frag} {mg : Str → Option Value} {base : Heap}
abbrev N_units : List Str := ["found", "place", "part", "a", "b", "c", "d", "at"]
theorem sc_units : FnScope N_units ([] : List Str) (defScope s_units) := ⟨rfl, rfl, rfl, by decide +kernel, rfl, by decide +kernel, by decide +kernel⟩
theorem v_units_found {X : Cx} {pos : Pos} (hN : X.N = N_units) (hs : X.env.scope = defScope s_units) : PE X (.Name "found" pos) (tVar 0) := pe_var (by rw [hN]; rfl) (by rw [hs]; exact Or.inl (by decide +kernel)) (by decide +kernel) (by decide +kernel)
theorem v_units_place {X : Cx} {pos : Pos} (hN : X.N = N_units) (hs : X.env.scope = defScope s_units) : PE X (.Name "place" pos) (tVar 1) := pe_var (by rw [hN]; rfl) (by rw [hs]; exact Or.inr (Or.inl (by decide +kernel))) (by decide +kernel) (by decide +kernel)
theorem v_units_part {X : Cx} {pos : Pos} (hN : X.N = N_units) (hs : X.env.scope = defScope s_units) : PE X (.Name "part" pos) (tVar 2) := pe_var (by rw [hN]; rfl) (by rw [hs]; exact Or.inr (Or.inl (by decide +kernel))) (by decide +kernel) (by decide +kernel)
theorem ok_units (B : Mg K mg) (D : Dn K mg "units" s_units []) : Cal P w K mg base "units" 1 [] (spR K R_units) := by
  have nd := sc_units.nd
  refine mk_cal D sc_units (fun ds d h => ?_) (fun cdv A outer s H f E ds d hr h => ?_)
  · obtain ⟨rfl, _⟩ := h
    rfl
  · obtain ⟨rfl, rfl⟩ := h
    refine ⟨_, (pss_cons (ps_setLcN (j := 0) (own := [("a", 3), ("b", 4), ("c", 5), ("d", 6)]) (vs1 := [4, 5, 6]) (g := (gName 3)) rfl nd rfl rfl (sw_true rfl rfl rfl (by decide +kernel)) (w_pit (K := K) (pe_tup (pa_ints _ _ rfl))) (blkOk_by (own := [("a", 3), ("b", 4), ("c", 5), ("d", 6)]) (N := N_units) (sc := defScope s_units) (by decide +kernel)) (by decide) (fun _ _ _ => by rfl) (fun _ _ _ _ _ => (pg_name (i := 3) nd rfl (by first | exact Or.inl rfl | exact Or.inr rfl))) (fun _ _ _ _ _ => pts_nil) (fun _ => fun _ _ _ _ _ => (runs_more (vs := [4, 5, 6]) (vs1 := [5, 6]) rfl rfl (start_eq (k := 1) rfl rfl) (fun _ _ _ => by rfl) (fun _ => by rfl) (by decide) (w_pit (K := K) (pe_tup (pa_ints _ _ rfl))) (pg_name (i := 4) nd rfl (by first | exact Or.inl rfl | exact Or.inr rfl)) pts_nil (runs_more (vs := [5, 6]) (vs1 := [6]) rfl rfl (start_eq (k := 2) rfl rfl) (fun _ _ _ => by rfl) (fun _ => by rfl) (by decide) (w_pit (K := K) (pe_tup (pa_ints _ _ rfl))) (pg_name (i := 5) nd rfl (by first | exact Or.inl rfl | exact Or.inr rfl)) pts_nil (runs_last (vs := [6]) rfl rfl (start_eq (k := 3) rfl rfl) (fun _ _ _ => by rfl) (w_pit (K := K) (pe_tup (pa_ints _ _ rfl))) (pg_name (i := 6) nd rfl (by first | exact Or.inl rfl | exact Or.inr rfl)) pts_nil (pe_tup (pa_cons (pv 3) (pa_cons (pv 4) (pa_cons (pv 5) (pa_cons (pv 6) pa_nil)))))))))) (pss_cons (ps_for PassesOwn.never rfl (pi_range1 rfl B.range (pa_cons (pe_gi B.PARTS) pa_nil)) (pg_name (i := 1) nd rfl (by first | exact Or.inl rfl | exact Or.inr rfl)) (pss_one (ps_for PassesOwn.never rfl (w_pit (K := K) (pe_tup (pa_ints _ _ rfl))) (pg_name (i := 2) nd rfl (by first | exact Or.inl rfl | exact Or.inr rfl)) (pss_one (ps_expr (pe_bm PySem.F.plainAttrs_list PySem.F.slot_list_append PySem.F.type_list_append mt_append (v_units_found rfl rfl) (pa_cons (pe_callTy (w_tuple (K := K)) (by rfl) B.tuple (by decide +kernel) (pa_cons (pe_lc (own := [("at", 7)]) (g := (gName 7)) rfl nd (pi_range1 rfl B.range (pa_cons (pe_gi B.PARTS) pa_nil)) (blkOk_by (own := [("at", 7)]) (N := N_units) (sc := defScope s_units) (by decide +kernel)) (fun _ _ _ _ _ => (pg_name (i := 7) nd rfl (by first | exact Or.inl rfl | exact Or.inr rfl))) (fun _ _ _ _ _ => pts_nil) (fun _ _ _ _ _ => (pe_ifExp (pt_cmpR op_eq (pv 7) (pv 1) (nomark _)) (pv 2) pe_int))) pa_nil)) pa_nil))))))) (pss_one (ps_ret (pe_callB (w_sortD (K := K) (enc := qd) alike_qd tup_qd depth_qd hr.units) (by rfl) B.sorted (by decide +kernel) (pa_cons (v_units_found rfl rfl) pa_nil)))))), ?_⟩
    show StE K _ [none, none, none, none, none, none, none, none] _ _
    have hm : ∀ env : En, EvE K (tTup (tInts [-1, 1])) env (.tuple (([-1, 1] : List Int).map .int)) := fun env => e_tup a_ints (Nat.le_of_ble_eq_true rfl)
    refine q_own (ds := rawA.map qd) ?_ ?_
    · rw [← fA_eq]
      refine c_lcN [-1, 1] .int fA1 rfl (i_tup (hm _)) (Nat.le_of_ble_eq_true rfl) fun D i a ha => ⟨_, g_name, ?_⟩
      refine b_in [-1, 1] .int (fA2 a) rfl (i_tup (hm _)) fun j b hb => ⟨_, g_name, ?_⟩
      refine b_in [-1, 1] .int (fA3 a b) rfl (i_tup (hm _)) fun k c hc => ⟨_, g_name, ?_⟩
      refine b_in [-1, 1] .int (fun d => [qd ⟨a, b, c, d⟩]) rfl (i_tup (hm _)) fun l d hd => ⟨_, g_name, ?_⟩
      exact b_emit (e_tup (a_cons (e_var rfl) (a_cons (e_var rfl) (a_cons (e_var rfl) (a_cons (e_var rfl) a_nil)))) (Nat.le_of_ble_eq_true rfl))
    refine q_for (vs := [1]) (i_rng1 (a_cons e_int a_nil) (by decide) (by decide)) (fun i env => ∃ x y, env = [some (.own ((rawA ++ rawB.take (2 * i)).map qd)), x, y, none, none, none, none, none]) ⟨none, none, by rw [List.take_zero, List.append_nil]; rfl⟩ ?_ ?_
    · rintro i d e hd ⟨x, y, rfl⟩
      obtain ⟨hi, rfl⟩ := rng_at hd
      have hi : i < 4 := hi
      refine ⟨_, g_name, ?_⟩
      rw [Int.zero_add]
      refine st_for (vs := [2]) (ds := ([-2, 2] : List Int).map .int) (i_tup (e_tup a_ints (Nat.le_of_ble_eq_true rfl))) (fun j env => ∃ y, env = [some (.own ((rawA ++ rawB.take (2 * i + j)).map qd)), some (.val (.int (i : Int))), y, none, none, none, none, none]) ⟨y, rfl⟩ ?_ ?_
      · rintro j d e hd ⟨y, rfl⟩
        obtain ⟨p, hp, rfl⟩ := map_at hd
        refine ⟨_, g_name, ?_⟩
        show StE K _ [some (.own ((rawA ++ rawB.take (2 * i + j)).map qd)), some (.val (.int (i : Int))), some (.val (.int p)), none, none, none, none, none] _ _
        refine st_app (d := .tuple ((rng 0 4).map fun z => .int (if z = (i : Int) then p else 0))) rfl (e_cb (a_cons (e_own (c_map (rng 0 4) .int (fun z => .int (if z = (i : Int) then p else 0)) (i_rng1 (a_cons e_int a_nil) (by decide) (by decide)) (Nat.le_of_ble_eq_true rfl) fun k z hz => ⟨_, g_name, ?_⟩)) a_nil) c_tupL) ?_ ⟨some (.val (.int p)), ?_⟩
        · refine e_if (t_test (e_op (e_var rfl) (e_var rfl) o_eqI)) (fun hb => ?_) fun hb => ?_
          · rw [if_pos (of_decide_eq_true hb)]
            exact e_var rfl
          · rw [if_neg (of_decide_eq_false hb)]
            exact e_int
        · rw [len_map, List.length_append, List.length_take]
          show 16 + min (2 * i + j) 8 < 100000
          omega
        · have hj : j = 0 ∧ p = -2 ∨ j = 1 ∧ p = 2 := by
            rcases j with _ | _ | j
            · exact .inl ⟨rfl, (Option.some.inj hp).symm⟩
            · exact .inr ⟨rfl, (Option.some.inj hp).symm⟩
            · cases hp
          rcases lt4 hi with rfl | rfl | rfl | rfl <;> rcases hj with ⟨rfl, rfl⟩ | ⟨rfl, rfl⟩ <;> rfl
      · rintro e ⟨y, rfl⟩
        exact ⟨_, _, rfl⟩
    · rintro e ⟨x, y, rfl⟩
      refine st_frz 0 rfl ?_
      exact st_ret (e_cb (a_cons (e_var rfl) a_nil) c_sortQ) (by rw [← srt_U]; rfl)
abbrev N_law_units : List Str := ["_law_found", "_law_k", "_law_row_here", "_law_part_here"]
theorem sc_law_units : FnScope N_law_units ([] : List Str) (defScope s_law_units) := ⟨rfl, rfl, rfl, by decide +kernel, rfl, by decide +kernel, by decide +kernel⟩
theorem v_law_units_law_found {X : Cx} {pos : Pos} (hN : X.N = N_law_units) (hs : X.env.scope = defScope s_law_units) : PE X (.Name "_law_found" pos) (tVar 0) := pe_var (by rw [hN]; rfl) (by rw [hs]; exact Or.inl (by decide +kernel)) (by decide +kernel) (by decide +kernel)
theorem v_law_units_law_k {X : Cx} {pos : Pos} (hN : X.N = N_law_units) (hs : X.env.scope = defScope s_law_units) : PE X (.Name "_law_k" pos) (tVar 1) := pe_var (by rw [hN]; rfl) (by rw [hs]; exact Or.inl (by decide +kernel)) (by decide +kernel) (by decide +kernel)
theorem v_law_units_law_row_here {X : Cx} {pos : Pos} (hN : X.N = N_law_units) (hs : X.env.scope = defScope s_law_units) : PE X (.Name "_law_row_here" pos) (tVar 2) := pe_var (by rw [hN]; rfl) (by rw [hs]; exact Or.inl (by decide +kernel)) (by decide +kernel) (by decide +kernel)
theorem ok_law_units (B : Mg K mg) (D : Dn K mg "_law_units" s_law_units []) : Cal P w K mg base "_law_units" 1 [] (spR K R_units) := by
  have nd := sc_law_units.nd
  refine mk_cal D sc_law_units (fun ds d h => ?_) (fun cdv A outer s H f E ds d hr h => ?_)
  · obtain ⟨rfl, _⟩ := h
    rfl
  · obtain ⟨rfl, rfl⟩ := h
    refine ⟨_, (pss_cons (ps_set (i := 0) nd rfl (by first | exact Or.inl rfl | exact Or.inr rfl) (pe_lst pa_nil)) (pss_cons (ps_for PassesOwn.never rfl (pi_range1 rfl B.range (pa_cons pe_int pa_nil)) (pg_name (i := 1) nd rfl (by first | exact Or.inl rfl | exact Or.inr rfl)) (pss_one (ps_expr (pe_bm PySem.F.plainAttrs_list PySem.F.slot_list_append PySem.F.type_list_append mt_append (v_law_units_law_found rfl rfl) (pa_cons (pe_tup (pa_cons (pe_op op_sub pe_int (pe_op op_mul pe_int (pe_op op_fdiv (v_law_units_law_k rfl rfl) pe_int))) (pa_cons (pe_op op_sub pe_int (pe_op op_mul pe_int (pe_op op_mod (pe_op op_fdiv (v_law_units_law_k rfl rfl) pe_int) pe_int))) (pa_cons (pe_op op_sub pe_int (pe_op op_mul pe_int (pe_op op_mod (pe_op op_fdiv (v_law_units_law_k rfl rfl) pe_int) pe_int))) (pa_cons (pe_op op_sub pe_int (pe_op op_mul pe_int (pe_op op_mod (v_law_units_law_k rfl rfl) pe_int))) pa_nil))))) pa_nil))))) (pss_cons (ps_for PassesOwn.never rfl (pi_range1 rfl B.range (pa_cons pe_int pa_nil)) (pg_name (i := 1) nd rfl (by first | exact Or.inl rfl | exact Or.inr rfl)) (pss_cons (ps_set (i := 2) nd rfl (by first | exact Or.inl rfl | exact Or.inr rfl) (pe_lst (pa_ints _ _ rfl))) (pss_cons (ps_asg pe_int (pg_sub (v_law_units_law_row_here rfl rfl) (v_law_units_law_k rfl rfl) set_list)) (pss_one (ps_set (i := 0) nd rfl (by first | exact Or.inl rfl | exact Or.inr rfl) (pe_op op_cat (v_law_units_law_found rfl rfl) (pe_lst (pa_cons (pe_callTy (w_tuple (K := K)) (by rfl) B.tuple (by decide +kernel) (pa_cons (v_law_units_law_row_here rfl rfl) pa_nil)) (pa_cons (pe_callTy (w_tuple (K := K)) (by rfl) B.tuple (by decide +kernel) (pa_cons (pe_lc (own := [("_law_part_here", 3)]) (g := (gName 3)) rfl nd (w_pil (K := K) (v_law_units_law_row_here rfl rfl)) (blkOk_by (own := [("_law_part_here", 3)]) (N := N_law_units) (sc := defScope s_law_units) (by decide +kernel)) (fun _ _ _ _ _ => (pg_name (i := 3) nd rfl (by first | exact Or.inl rfl | exact Or.inr rfl))) (fun _ _ _ _ _ => pts_nil) (fun _ _ _ _ _ => (pe_op op_sub pe_int (pv 3)))) pa_nil)) pa_nil))))))))) (pss_one (ps_ret (pe_callB (w_sortD (K := K) (enc := qd) alike_qd tup_qd depth_qd hr.units) (by rfl) B.sorted (by decide +kernel) (pa_cons (v_law_units_law_found rfl rfl) pa_nil))))))), ?_⟩
    show StE K _ [none, none, none, none] _ _
    refine q_own (ds := ([] : List Q4).map qd) (o_lst a_nil (Nat.zero_le _)) ?_
    refine q_for (vs := [1]) (i_rng1 (a_cons e_int a_nil) (by decide) (by decide)) (fun i env => ∃ x, env = [some (.own ((rawLA.take i).map qd)), x, none, none]) ⟨none, rfl⟩ ?_ ?_
    · rintro k d e hd ⟨x, rfl⟩
      obtain ⟨hk, rfl⟩ := rng_at hd
      have hk : k < 16 := hk
      have at_ := LA_at ⟨k, hk⟩
      simp only at at_
      refine ⟨_, g_name, ?_⟩
      rw [Int.zero_add]
      show StE K _ [some (.own ((rawLA.take k).map qd)), some (.val (.int (k : Int))), none, none] _ _
      have dv : ∀ {a b : Int}, 0 < b → b < 1073741824 → CDiv a b := fun {a b} h1 h2 => ⟨h1, h2⟩
      have ml : ∀ {b : Int}, CMul 2 b := fun {b} => .inl ⟨by decide, by decide⟩
      refine st_app (d := qd ⟨1 - 2 * (((k : Nat) : Int) / 8), 1 - 2 * (((k : Nat) : Int) / 4 % 2), 1 - 2 * (((k : Nat) : Int) / 2 % 2), 1 - 2 * (((k : Nat) : Int) % 2)⟩) rfl (e_tup (a_cons ?_ (a_cons ?_ (a_cons ?_ (a_cons ?_ a_nil)))) (Nat.le_of_ble_eq_true rfl)) ?_ ⟨some (.val (.int (k : Int))), ?_⟩
      · exact e_op e_int (e_op e_int (e_op (e_var rfl) e_int (o_div (dv (by decide) (by decide)))) (o_mul ml)) o_sub
      · exact e_op e_int (e_op e_int (e_op (e_op (e_var rfl) e_int (o_div (dv (by decide) (by decide)))) e_int (o_mod (by decide))) (o_mul ml)) o_sub
      · exact e_op e_int (e_op e_int (e_op (e_op (e_var rfl) e_int (o_div (dv (by decide) (by decide)))) e_int (o_mod (by decide))) (o_mul ml)) o_sub
      · exact e_op e_int (e_op e_int (e_op (e_var rfl) e_int (o_mod (by decide))) (o_mul ml)) o_sub
      · rw [len_map, List.length_take]
        have : rawLA.length = 16 := rfl
        omega
      · rw [take_snoc at_, List.map_append]
        rfl
    · rintro e ⟨x, rfl⟩
      refine st_frz 0 rfl ?_
      show StE K _ [some (.val (.list (rawLA.map qd))), x, none, none] _ _
      refine q_for (vs := [1]) (i_rng1 (a_cons e_int a_nil) (by decide) (by decide)) (fun i env => ∃ x y, env = [some (.val (.list ((rawLA ++ rawLB.take (2 * i)).map qd))), x, y, none]) ⟨x, none, by rw [List.take_zero, List.append_nil]⟩ ?_ ?_
      · rintro k d e hd ⟨x, y, rfl⟩
        obtain ⟨hk, rfl⟩ := rng_at hd
        have hk : k < 4 := hk
        refine ⟨_, g_name, ?_⟩
        rw [Int.zero_add]
        refine q_own (ds := [0, 0, 0, 0].map .int) (o_lst a_ints (Nat.le_of_ble_eq_true rfl)) ?_
        refine q_put (j := k) rfl e_int (e_var rfl) hk ?_
        refine st_frz 2 rfl ?_
        show StE K _ [some (.val (.list ((rawLA ++ rawLB.take (2 * k)).map qd))), some (.val (.int (k : Int))), some (.val (.list (([0, 0, 0, 0].map PyData.int).set k (.int 2)))), none] _ _
        refine st_asg (d := .list ((rawLA ++ rawLB.take (2 * k)).map qd ++ [.tuple (([0, 0, 0, 0].map PyData.int).set k (.int 2)), .tuple ((([0, 0, 0, 0] : List Int).set k 2).map fun z => .int (0 - z))])) (e_op (e_var rfl) (e_lst (a_cons (e_cb (a_cons (e_var rfl) a_nil) c_tupL) (a_cons (e_cb (a_cons (e_own (c_map (([0, 0, 0, 0] : List Int).set k 2) .int (fun z => .int (0 - z)) (i_list (e_var (by rw [List.map_set]; rfl))) (by rw [List.length_set]; decide) fun i z hz => ⟨_, g_name, e_op e_int (e_var rfl) o_sub⟩)) a_nil) c_tupL) a_nil)) (Nat.le_of_ble_eq_true rfl)) (o_cat ?_)) ⟨some (.val (.int (k : Int))), some (.val (.list (([0, 0, 0, 0].map PyData.int).set k (.int 2)))), ?_⟩
        · rw [len_map, List.length_append, List.length_take]
          show 16 + min (2 * k) 8 + 2 ≤ 100000
          omega
        · rcases lt4 hk with rfl | rfl | rfl | rfl <;> rfl
      · rintro e ⟨x, y, rfl⟩
        exact st_ret (e_cb (a_cons (e_var rfl) a_nil) c_sortQ) (by rw [← srt_UL]; rfl)
end
end TP

/-! Division: mirrors and bounds. -/
namespace TP
open PySem PySem.W
def gq (q : Q4) : Int := ((Nat.gcd (((Nat.gcd q.a.natAbs q.b.natAbs : Nat) : Int)).natAbs (((Nat.gcd q.c.natAbs q.d.natAbs : Nat) : Int)).natAbs : Nat) : Int)
def contQ (q : Q4) : Int := if (⟨q.a / gq q, q.b / gq q, q.c / gq q, q.d / gq q⟩ : Q4).par then gq q else gq q / 2
def sqd (s n p : Int) : Int := (s * n - p) ^ 2
def dist (p : Q4) (s : Int) (n : Q4) : Int := sqd s n.a p.a + (sqd s n.b p.b + (sqd s n.c p.c + (sqd s n.d p.d + 0)))
def wholeQ (p : Q4) (s : Int) : Q4 := ⟨2 * ((p.a + s) / (2 * s)), 2 * ((p.b + s) / (2 * s)), 2 * ((p.c + s) / (2 * s)), 2 * ((p.d + s) / (2 * s))⟩
def halfQ (p : Q4) (s : Int) : Q4 := ⟨2 * (p.a / (2 * s)) + 1, 2 * (p.b / (2 * s)) + 1, 2 * (p.c / (2 * s)) + 1, 2 * (p.d / (2 * s)) + 1⟩
def near (p : Q4) (s : Int) : Q4 := if dist p s (wholeQ p s) = dist p s (halfQ p s) then (if ltq (wholeQ p s) (halfQ p s) then halfQ p s else wholeQ p s) else if dist p s (wholeQ p s) < dist p s (halfQ p s) then wholeQ p s else halfQ p s
theorem near_is (p : Q4) (s : Int) : near p s = wholeQ p s ∨ near p s = halfQ p s := by
  unfold near
  split
  · split
    · exact .inr rfl
    · exact .inl rfl
  · split
    · exact .inl rfl
    · exact .inr rfl
theorem near_par (p : Q4) (s : Int) : (near p s).par := by
  rcases near_is p s with e | e <;> rw [e]
  · unfold Q4.par wholeQ
    simp only
    omega
  · unfold Q4.par halfQ
    simp only
    omega
theorem div_bd {x m M : Int} (hm : 0 < m) (h : -M < x ∧ x < M) : -M < x / m ∧ x / m < M := by
  constructor
  · have : -M + 1 ≤ x / m := by
      rw [Int.le_ediv_iff_mul_le hm]
      have h1 : (-M + 1) * m ≤ (-M + 1) * 1 := Int.mul_le_mul_of_nonpos_left (by omega) (by omega)
      omega
    omega
  · have : x / m ≤ M - 1 := by
      have h1 : x / m < M := by
        rw [Int.ediv_lt_iff_lt_mul hm]
        have h2 : M * 1 ≤ M * m := Int.mul_le_mul_of_nonneg_left (by omega) (by omega)
        omega
      omega
    omega
theorem whole_sm {p : Q4} {s : Int} (hp : p.sm (2 ^ 20)) (h0 : 0 < s) (h1 : s < 2 ^ 20) : (wholeQ p s).sm (2 ^ 23) := by
  obtain ⟨a, b, c, d⟩ := hp
  have k : ∀ {x : Int}, -(2 ^ 20) < x ∧ x < 2 ^ 20 → -(2 ^ 23) < 2 * ((x + s) / (2 * s)) ∧ 2 * ((x + s) / (2 * s)) < 2 ^ 23 := fun {x} h => by
    have := div_bd (x := x + s) (m := 2 * s) (M := 2 ^ 21) (by omega) ⟨by omega, by omega⟩
    omega
  exact ⟨k a, k b, k c, k d⟩
theorem half_sm {p : Q4} {s : Int} (hp : p.sm (2 ^ 20)) (h0 : 0 < s) (h1 : s < 2 ^ 20) : (halfQ p s).sm (2 ^ 23) := by
  obtain ⟨a, b, c, d⟩ := hp
  have k : ∀ {x : Int}, -(2 ^ 20) < x ∧ x < 2 ^ 20 → -(2 ^ 23) < 2 * (x / (2 * s)) + 1 ∧ 2 * (x / (2 * s)) + 1 < 2 ^ 23 := fun {x} h => by
    have := div_bd (x := x) (m := 2 * s) (M := 2 ^ 20) (by omega) h
    omega
  exact ⟨k a, k b, k c, k d⟩
theorem near_sm {p : Q4} {s : Int} (hp : p.sm (2 ^ 20)) (h0 : 0 < s) (h1 : s < 2 ^ 20) : (near p s).sm (2 ^ 23) := by
  rcases near_is p s with e | e <;> rw [e]
  · exact whole_sm hp h0 h1
  · exact half_sm hp h0 h1
theorem sm_up {q : Q4} {M N : Int} (h : q.sm M) (hMN : M ≤ N) : q.sm N := by
  obtain ⟨a, b, c, d⟩ := h
  exact ⟨by omega, by omega, by omega, by omega⟩
theorem prod_bd {x y M : Int} (hx : -M < x ∧ x < M) (hy : -M < y ∧ y < M) : -(M * M) ≤ x * y ∧ x * y ≤ M * M := by
  have h := Int.natAbs_mul x y
  have h1 : (x * y).natAbs ≤ M.natAbs * M.natAbs := by
    rw [h]
    exact Nat.mul_le_mul (by omega) (by omega)
  have h2 : ((M.natAbs * M.natAbs : Nat) : Int) = M * M := by
    rw [Int.natCast_mul]
    have : (M.natAbs : Int) = M := by omega
    rw [this]
  omega
/-- the product of small numbers -/
theorem mul_sm {p q : Q4} (hp : p.sm (2 ^ 9)) (hq : q.sm (2 ^ 9)) : (mul p q).sm (2 ^ 20) := by
  obtain ⟨a, b, c, d⟩ := hp
  obtain ⟨e, f, g, h⟩ := hq
  have k := @prod_bd
  have e9 : (2 ^ 9 : Int) * 2 ^ 9 = 2 ^ 18 := by decide
  unfold Q4.sm mul
  simp only
  have k1 := prod_bd a e; have k2 := prod_bd b f; have k3 := prod_bd c g; have k4 := prod_bd d h
  have l1 := prod_bd a f; have l2 := prod_bd b e; have l3 := prod_bd c h; have l4 := prod_bd d g
  have m1 := prod_bd a g; have m2 := prod_bd b h; have m3 := prod_bd c e; have m4 := prod_bd d f
  have n1 := prod_bd a h; have n2 := prod_bd b g; have n3 := prod_bd c f; have n4 := prod_bd d e
  rw [e9] at *
  refine ⟨?_, ?_, ?_, ?_⟩
  · omega
  · omega
  · omega
  · omega
theorem conj_sm {q : Q4} {M : Int} (h : q.sm M) : (conj q).sm M := by
  obtain ⟨a, b, c, d⟩ := h
  exact ⟨a, by simp only [conj]; omega, by simp only [conj]; omega, by simp only [conj]; omega⟩
theorem nrm_sm {q : Q4} (hp : q.par) (h : q.sm (2 ^ 9)) : nrm q < 2 ^ 19 := by
  obtain ⟨a, b, c, d⟩ := h
  have e := nrm4 hp
  have e9 : (2 ^ 9 : Int) * 2 ^ 9 = 2 ^ 18 := by decide
  have k1 := prod_bd a a; have k2 := prod_bd b b; have k3 := prod_bd c c; have k4 := prod_bd d d
  rw [e9] at *
  omega
theorem nrm_pos {q : Q4} (hp : q.par) (h : q ≠ ⟨0, 0, 0, 0⟩) : 0 < nrm q := by
  have e := nrm4 hp
  have h1 := sq_nonneg' q.a
  have h2 := sq_nonneg' q.b
  have h3 := sq_nonneg' q.c
  have h4 := sq_nonneg' q.d
  rcases Int.lt_or_le 0 (nrm q) with k | k
  · exact k
  · exfalso
    apply h
    have z : ∀ {x : Int}, x * x = 0 → x = 0 := fun {x} hx => by
      rcases Int.mul_eq_zero.mp hx with e | e <;> exact e
    obtain ⟨a, b, c, d⟩ := q
    simp only at *
    rw [z (x := a) (by omega), z (x := b) (by omega), z (x := c) (by omega), z (x := d) (by omega)]
def dq (n v : Q4) : Q4 := near (mul (conj v) n) (nrm v)
def dr (n v : Q4) : Q4 := sub4 n (mul v (dq n v))
theorem dq_par (n v : Q4) : (dq n v).par := near_par _ _
theorem dr_par {n v : Q4} (hn : n.par) (hv : v.par) : (dr n v).par := sub_par hn (mul_par hv (dq_par n v))
theorem dq_sm {n v : Q4} (hn : n.sm (2 ^ 9)) (hv : v.par) (hs : v.sm (2 ^ 9)) (h0 : v ≠ ⟨0, 0, 0, 0⟩) : (dq n v).sm (2 ^ 23) :=
  near_sm (mul_sm (conj_sm hs) hn) (nrm_pos hv h0) (by have := nrm_sm hv hs; omega)
/-! ### the greatest common divisor -/
abbrev T3 := Q4 × Q4 × Q4
def td (x : T3) : PyData := .tuple [qd x.1, qd x.2.1, qd x.2.2]
def T3.par (x : T3) : Prop := Q4.par x.1 ∧ Q4.par x.2.1 ∧ Q4.par x.2.2
def nextT (n f : T3) : T3 := (dr n.1 f.1, sub4 n.2.1 (mul f.2.1 (dq n.1 f.1)), sub4 n.2.2 (mul f.2.2 (dq n.1 f.1)))
def eucS : Nat → T3 → T3 → Option (T3 × T3)
  | 0, _, _ => none
  | k + 1, n, f => if f.1 = ⟨0, 0, 0, 0⟩ then some (n, f) else if n.1.sm (2 ^ 9) ∧ f.1.sm (2 ^ 9) then eucS k f (nextT n f) else none
def euc : Nat → Q4 → Q4 → Option Q4
  | 0, _, _ => none
  | k + 1, n, f => if f = ⟨0, 0, 0, 0⟩ then some n else if n.sm (2 ^ 9) ∧ f.sm (2 ^ 9) then euc k f (dr n f) else none
theorem eucS_of : ∀ (k : Nat) (n f : T3) (g : Q4), euc k n.1 f.1 = some g → ∃ x y, eucS k n f = some (x, y) ∧ x.1 = g
  | 0, _, _, _, h => by cases h
  | k + 1, n, f, g, h => by
    unfold euc at h
    unfold eucS
    by_cases h0 : f.1 = ⟨0, 0, 0, 0⟩
    · rw [if_pos h0] at h ⊢
      exact ⟨n, f, rfl, Option.some.inj h⟩
    · rw [if_neg h0] at h ⊢
      by_cases hs : n.1.sm (2 ^ 9) ∧ f.1.sm (2 ^ 9)
      · rw [if_pos hs] at h ⊢
        exact eucS_of k f (nextT n f) g h
      · rw [if_neg hs] at h
        cases h
theorem next_par {n f : T3} (hn : T3.par n) (hf : T3.par f) : T3.par (nextT n f) :=
  ⟨dr_par hn.1 hf.1, sub_par hn.2.1 (mul_par hf.2.1 (dq_par _ _)), sub_par hn.2.2 (mul_par hf.2.2 (dq_par _ _))⟩
end TP

/-! content, division, the greatest common divisor. -/
namespace TP
open PySem L2 PySem.Spec PyProof.Rows
local macro_rules | `(tactic| walk_at "ev1") => `(tactic| first
  | with_reducible exact e_int
  | with_reducible exact e_str
  | with_reducible exact e_bl
  | with_reducible exact e_non
  | ((with_reducible apply e_var); exact rfl)
  | with_reducible apply e_op
  | with_reducible apply e_un
  | with_reducible apply e_call
  | with_reducible apply e_cb
  | with_reducible apply e_tup
  | with_reducible apply e_sl
  | with_reducible apply e_chain
  | with_reducible apply e_and
  | with_reducible apply e_or
  | with_reducible apply e_rev
  | with_reducible apply e_lst
  | exact Nat.le_of_ble_eq_true rfl
  | with_reducible exact p_none
  | with_reducible apply p_some
  | with_reducible exact a_nil
  | with_reducible apply a_cons
  | with_reducible apply t_b
  | with_reducible apply t_test
  | with_reducible exact t_yes
  | with_reducible apply t_not
  | with_reducible apply t_and
  | with_reducible apply t_or
  | with_reducible exact o_add
  | with_reducible exact o_sub
  | with_reducible apply o_mul
  | with_reducible apply o_div
  | with_reducible apply o_mod
  | with_reducible apply o_pow
  | with_reducible exact o_lt
  | with_reducible exact o_le
  | with_reducible exact o_gt
  | with_reducible exact o_ge
  | with_reducible exact u_neg
  | with_reducible exact o_eqI
  | with_reducible exact o_neI
  | with_reducible exact o_eqS
  | with_reducible exact o_neS
  | with_reducible exact o_neB
  | with_reducible exact o_isN
  | with_reducible exact o_notN
  | with_reducible exact o_isB
  | with_reducible exact o_notB
  | with_reducible exact c_int
  | with_reducible exact c_abs
  | with_reducible exact c_gcd
  | with_reducible exact c_lenL
  | with_reducible exact c_lenT
  | with_reducible exact c_tupL
  | with_reducible exact c_tupT
  | with_reducible exact s_lst
  | with_reducible exact s_tup
  | (refine fun (_ : _ = true) => ?_)
  | (refine fun (_ : _ = false) => ?_))
def R_content : List PyData → PyData → Prop := fun ds d => ∃ q : Q4, ds = [qd q] ∧ q.par ∧ q ≠ ⟨0, 0, 0, 0⟩ ∧ 0 < gq q ∧ gq q < 1073741824 ∧ d = .int (contQ q)
def R_is_primitive : List PyData → PyData → Prop := fun ds d => ∃ q : Q4, ds = [qd q] ∧ q.par ∧ q ≠ ⟨0, 0, 0, 0⟩ ∧ 0 < gq q ∧ gq q < 1073741824 ∧ d = .bool (decide (contQ q = 1))
def R_distance : List PyData → PyData → Prop := fun ds d => ∃ (p : Q4) (s : Int) (n : Q4), ds = [qd p, .int s, qd n] ∧ p.sm (2 ^ 20) ∧ 0 < s ∧ s < 2 ^ 20 ∧ n.sm (2 ^ 23) ∧ d = .int (dist p s n)
def R_nearest : List PyData → PyData → Prop := fun ds d => ∃ (p : Q4) (s : Int), ds = [qd p, .int s] ∧ p.sm (2 ^ 20) ∧ 0 < s ∧ s < 2 ^ 20 ∧ d = qd (near p s)
def R_check_pair : List PyData → PyData → Prop := fun ds d => ∃ n v : Q4, ds = [qd n, qd v] ∧ n.par ∧ v.par ∧ v ≠ ⟨0, 0, 0, 0⟩ ∧ d = .none
def R_divided : List PyData → PyData → Prop := fun ds d => ∃ n v : Q4, ds = [qd n, qd v] ∧ n.par ∧ v.par ∧ v ≠ ⟨0, 0, 0, 0⟩ ∧ n.sm (2 ^ 9) ∧ v.sm (2 ^ 9) ∧ d = .tuple [qd (dq n v), qd (dr n v)]
def R_quotient : List PyData → PyData → Prop := fun ds d => ∃ n v : Q4, ds = [qd n, qd v] ∧ n.par ∧ v.par ∧ v ≠ ⟨0, 0, 0, 0⟩ ∧ n.sm (2 ^ 9) ∧ v.sm (2 ^ 9) ∧ dr n v = ⟨0, 0, 0, 0⟩ ∧ d = qd (dq n v)
def R_steps : List PyData → PyData → Prop := fun ds d => ∃ (n f : Q4) (k : Nat) (x y : T3), ds = [qd n, qd f] ∧ n.par ∧ f.par ∧ eucS k (n, ⟨2, 0, 0, 0⟩, ⟨0, 0, 0, 0⟩) (f, ⟨0, 0, 0, 0⟩, ⟨2, 0, 0, 0⟩) = some (x, y) ∧ d = .tuple [td x, td y]
def R_check_some : List PyData → PyData → Prop := fun ds d => ∃ p q : Q4, ds = [.list [qd p, qd q]] ∧ p.par ∧ q.par ∧ p ≠ ⟨0, 0, 0, 0⟩ ∧ d = .none
def R_common : List PyData → PyData → Prop := fun ds d => ∃ (n f : Q4) (k : Nat) (g : Q4), ds = [qd n, qd f] ∧ n.par ∧ f.par ∧ n ≠ ⟨0, 0, 0, 0⟩ ∧ euc k n f = some g ∧ g.par ∧ g ≠ ⟨0, 0, 0, 0⟩ ∧ d = qd (best g)
def R_prime : List PyData → PyData → Prop := fun ds d => ∃ (n : Q4) (p : Int) (k : Nat) (g : Q4), ds = [qd n, .int p] ∧ n.par ∧ n ≠ ⟨0, 0, 0, 0⟩ ∧ euc k n ⟨2 * p, 0, 0, 0⟩ = some g ∧ g.par ∧ g ≠ ⟨0, 0, 0, 0⟩ ∧ d = qd (best g)
theorem at4 {q : Q4} {k : Nat} (hk : k < 4) : atI (q.l.map PyData.int) (k : Int) = some (.int (q.l.getD k 0)) := by
  rw [atI_nat (j := k) (v := .int (q.l.getD k 0)) ?_]
  rw [List.getElem?_map, List.getD_eq_getElem?_getD, List.getElem?_eq_getElem (show k < q.l.length from hk)]
  rfl
theorem mem4 {q : Q4} {M x : Int} {i : Nat} (h : q.sm M) (hx : q.l[i]? = some x) : -M < x ∧ x < M := by
  obtain ⟨h1, h2, h3, h4⟩ := h
  have hm := List.mem_of_getElem? hx
  simp only [Q4.l, List.mem_cons, List.mem_nil_iff, or_false] at hm
  rcases hm with rfl | rfl | rfl | rfl <;> assumption
section
variable {X : Cx} {K : PySem.W.Frag} {mg : Str → Option Value}
theorem w_gi {x : Str} {i : Int} {pos : Pos} (h : ∃ t, mg x = some (.int i t)) (hm : X.mg = mg := by rfl) (hg : Gl X x := by rfl) (hd : (x == ("__debug__" : Str)) = false := by decide) : PE X (.Name x pos) (tC (.int i)) := by
  subst hm
  exact pe_gi h hg hd
theorem w_gs {x z : Str} {pos : Pos} (h : ∃ t, mg x = some (.str z t)) (hm : X.mg = mg := by rfl) (hg : Gl X x := by rfl) (hd : (x == ("__debug__" : Str)) = false := by decide) : PE X (.Name x pos) (tC (.str z)) := by
  subst hm
  exact pe_gs h hg hd
theorem w_gt {x : Str} {d : PyData} {pos : Pos} (h : Tu K mg x d) (hK : X.K = K := by rfl) (hm : X.mg = mg := by rfl) (hg : Gl X x := by rfl) (hd : (x == ("__debug__" : Str)) = false := by decide) : PE X (.Name x pos) (tC (.ref (He.ga K x))) := by
  subst hK
  subst hm
  exact pe_gt h hg hd
end
section
variable {P : Program} {w : World} {K : PySem.W.Frag} {mg : Str → Option Value} {base : Heap}
abbrev N_content : List Str := ["number", "common", "part"]
theorem sc_content : FnScope N_content ["number"] (defScope s_content) := ⟨rfl, rfl, rfl, by decide +kernel, rfl, by decide +kernel, by decide +kernel⟩
theorem v_content_number {X : Cx} {pos : Pos} (hN : X.N = N_content) (hs : X.env.scope = defScope s_content) : PE X (.Name "number" pos) (tVar 0) := pe_var (by rw [hN]; rfl) (by rw [hs]; exact Or.inl (by decide +kernel)) (by decide +kernel) (by decide +kernel)
theorem v_content_common {X : Cx} {pos : Pos} (hN : X.N = N_content) (hs : X.env.scope = defScope s_content) : PE X (.Name "common" pos) (tVar 1) := pe_var (by rw [hN]; rfl) (by rw [hs]; exact Or.inr (Or.inl (by decide +kernel))) (by decide +kernel) (by decide +kernel)
theorem ok_content (B : Mg K mg) (C_is_number : Cal P w K mg base "is_number" 1 ["number"] (spR K R_is_number)) (C_check_not_zero : Cal P w K mg base "check_not_zero" 3 ["number"] (spR K R_check_not_zero)) (D : Dn K mg "content" s_content ["number"]) : Cal P w K mg base "content" 4 ["number"] (spR K R_content) := by
  have nd := sc_content.nd
  refine mk_cal D sc_content (fun ds d h => ?_) (fun cdv A outer s H f E ds d hr h => ?_)
  · obtain ⟨q, rfl, _⟩ := h
    rfl
  · obtain ⟨q, rfl, hp, hz, g0, g1, rfl⟩ := h
    refine ⟨_, (pss_cons (ps_expr (pe_c C_check_not_zero (hr.mono (by decide)) (pa_cons (v_content_number rfl rfl) pa_nil))) (pss_cons (ps_set (i := 1) nd rfl (by first | exact Or.inl rfl | exact Or.inr rfl) (pe_callBfun cr_gcd (by rfl) B.gcd (pa_cons (pe_callBfun cr_gcd (by rfl) B.gcd (pa_cons (pe_ix (w_ixT (K := K)) (v_content_number rfl rfl) pe_int (fun _ _ => rfl)) (pa_cons (pe_ix (w_ixT (K := K)) (v_content_number rfl rfl) pe_int (fun _ _ => rfl)) pa_nil))) (pa_cons (pe_callBfun cr_gcd (by rfl) B.gcd (pa_cons (pe_ix (w_ixT (K := K)) (v_content_number rfl rfl) pe_int (fun _ _ => rfl)) (pa_cons (pe_ix (w_ixT (K := K)) (v_content_number rfl rfl) pe_int (fun _ _ => rfl)) pa_nil))) pa_nil)))) (pss_cons (ps_if (pt_val (pe_c C_is_number (hr.mono (by decide)) (pa_cons (pe_lc (own := [("part", 2)]) (g := (gName 2)) rfl nd (w_pit (K := K) (v_content_number rfl rfl)) (blkOk_by (own := [("part", 2)]) (N := N_content) (sc := defScope s_content) (by decide +kernel)) (fun _ _ _ _ _ => (pg_name (i := 2) nd rfl (by first | exact Or.inl rfl | exact Or.inr rfl))) (fun _ _ _ _ _ => pts_nil) (fun _ _ _ _ _ => (pe_op op_fdiv (pv 2) (pv 1)))) pa_nil))) (pss_one (ps_ret (v_content_common rfl rfl))) pss_nil) (pss_one (ps_ret (pe_op op_fdiv (v_content_common rfl rfl) pe_int)))))), ?_⟩
    show StE K _ [some (.val (qd q)), none, none] _ _
    refine q_drop (e_call (a_cons (e_var rfl) a_nil) ⟨q, .inl rfl, hp, hz, rfl⟩) ?_
    have ix : ∀ (k : Nat), k < 4 → EvE K (tOp (rIxT K) (tVar 0) (tC (.int (k : Int)))) [some (.val (qd q)), none, none] (.int (q.l.getD k 0)) := fun k hk => e_op (e_var rfl) e_int (o_ixT (at4 (q := q) hk))
    refine q_asg (d := .int (gq q)) (e_cb (a_cons (e_cb (a_cons (ix 0 (by decide)) (a_cons (ix 1 (by decide)) a_nil)) c_gcd) (a_cons (e_cb (a_cons (ix 2 (by decide)) (a_cons (ix 3 (by decide)) a_nil)) c_gcd) a_nil)) c_gcd) ?_
    show StE K _ [some (.val (qd q)), some (.val (.int (gq q))), none] _ _
    refine q_when (b := decide (⟨q.a / gq q, q.b / gq q, q.c / gq q, q.d / gq q⟩ : Q4).par) (t_b (e_call (a_cons (e_own (c_map q.l .int (fun x => .int (x / gq q)) (i_tup (e_var (by rw [qd_l]; rfl))) (by show 4 ≤ 50000; decide) fun i a ha => ⟨_, g_name, ?_⟩)) a_nil) ⟨⟨q.a / gq q, q.b / gq q, q.c / gq q, q.d / gq q⟩, .inr rfl, rfl⟩)) (fun hb => ?_) fun hb => ?_
    · exact e_op (e_var rfl) (e_var rfl) (o_div ⟨g0, g1⟩)
    · refine st_ret (e_var rfl) ?_
      unfold contQ
      rw [if_pos (of_decide_eq_true hb)]
    · refine st_ret (e_op (e_var rfl) e_int (o_div (cdiv (by decide) (by decide)))) ?_
      unfold contQ
      rw [if_neg (of_decide_eq_false hb)]
abbrev N_is_primitive : List Str := ["number"]
theorem sc_is_primitive : FnScope N_is_primitive ["number"] (defScope s_is_primitive) := ⟨rfl, rfl, rfl, by decide +kernel, rfl, by decide +kernel, by decide +kernel⟩
theorem v_is_primitive_number {X : Cx} {pos : Pos} (hN : X.N = N_is_primitive) (hs : X.env.scope = defScope s_is_primitive) : PE X (.Name "number" pos) (tVar 0) := pe_var (by rw [hN]; rfl) (by rw [hs]; exact Or.inl (by decide +kernel)) (by decide +kernel) (by decide +kernel)
theorem ok_is_primitive (B : Mg K mg) (C_content : Cal P w K mg base "content" 4 ["number"] (spR K R_content)) (D : Dn K mg "is_primitive" s_is_primitive ["number"]) : Cal P w K mg base "is_primitive" 5 ["number"] (spR K R_is_primitive) := by
  have nd := sc_is_primitive.nd
  refine mk_cal D sc_is_primitive (fun ds d h => ?_) (fun cdv A outer s H f E ds d hr h => ?_)
  · obtain ⟨q, rfl, _⟩ := h
    rfl
  · obtain ⟨q, rfl, hp, hz, g0, g1, rfl⟩ := h
    refine ⟨_, (pss_one (ps_ret (pe_cmpR op_eq (pe_c C_content (hr.mono (by decide)) (pa_cons (v_is_primitive_number rfl rfl) pa_nil)) pe_int (nomark _)))), ?_⟩
    exact st_ret (e_op (e_call (a_cons (e_var rfl) a_nil) ⟨q, rfl, hp, hz, g0, g1, rfl⟩) e_int o_eqI) rfl
abbrev N_distance_of : List Str := ["parts", "size", "number", "near", "part"]
theorem sc_distance_of : FnScope N_distance_of ["parts", "size", "number"] (defScope s_distance_of) := ⟨rfl, rfl, rfl, by decide +kernel, rfl, by decide +kernel, by decide +kernel⟩
theorem v_distance_of_parts {X : Cx} {pos : Pos} (hN : X.N = N_distance_of) (hs : X.env.scope = defScope s_distance_of) : PE X (.Name "parts" pos) (tVar 0) := pe_var (by rw [hN]; rfl) (by rw [hs]; exact Or.inl (by decide +kernel)) (by decide +kernel) (by decide +kernel)
theorem v_distance_of_size {X : Cx} {pos : Pos} (hN : X.N = N_distance_of) (hs : X.env.scope = defScope s_distance_of) : PE X (.Name "size" pos) (tVar 1) := pe_var (by rw [hN]; rfl) (by rw [hs]; exact Or.inr (Or.inl (by decide +kernel))) (by decide +kernel) (by decide +kernel)
theorem v_distance_of_number {X : Cx} {pos : Pos} (hN : X.N = N_distance_of) (hs : X.env.scope = defScope s_distance_of) : PE X (.Name "number" pos) (tVar 2) := pe_var (by rw [hN]; rfl) (by rw [hs]; exact Or.inl (by decide +kernel)) (by decide +kernel) (by decide +kernel)
theorem ok_distance_of (B : Mg K mg) (D : Dn K mg "distance_of" s_distance_of ["parts", "size", "number"]) : Cal P w K mg base "distance_of" 1 ["parts", "size", "number"] (spR K R_distance) := by
  have nd := sc_distance_of.nd
  refine mk_cal D sc_distance_of (fun ds d h => ?_) (fun cdv A outer s H f E ds d hr h => ?_)
  · obtain ⟨p, m, n, rfl, _⟩ := h
    rfl
  · obtain ⟨p, m, n, rfl, hp, m0, m1, hn, rfl⟩ := h
    refine ⟨_, (pss_one (ps_ret (pe_callB (w_sum (K := K) rfl) (by rfl) B.sum (by decide +kernel) (pa_cons (pe_lc (own := [("near", 3), ("part", 4)]) (g := (gTup K 2 (gCons (gName 3) (gCons (gName 4) gNil)))) rfl nd (w_zip (K := K) (by rfl) B.zip (pa_cons (v_distance_of_number rfl rfl) (pa_cons (v_distance_of_parts rfl rfl) pa_nil))) (blkOk_by (own := [("near", 3), ("part", 4)]) (N := N_distance_of) (sc := defScope s_distance_of) (by decide +kernel)) (fun _ _ _ _ _ => (w_gtup (K := K) rfl (pgs_cons (pg_name (i := 3) nd rfl (by first | exact Or.inl rfl | exact Or.inr rfl)) (pgs_cons (pg_name (i := 4) nd rfl (by first | exact Or.inl rfl | exact Or.inr rfl)) pgs_nil)))) (fun _ _ _ _ _ => pts_nil) (fun _ _ _ _ _ => (pe_op op_pow (pe_op op_sub (pe_op op_mul (pv 1) (pv 3)) (pv 4)) pe_int))) pa_nil)))), ?_⟩
    show StE K _ [some (.val (qd p)), some (.val (.int m)), some (.val (qd n)), none, none] _ _
    refine st_ret (e_cb (a_cons (e_own (c_map (n.l.zip p.l) (fun z => .tuple [.int z.1, .int z.2]) (fun z => .int (sqd m z.1 z.2)) ?_ (by show 4 ≤ 50000; decide) fun i a ha => ⟨_, g_tup rfl (gs_cons g_name (gs_cons g_name gs_nil)), ?_⟩)) a_nil) (by rw [show ((n.l.zip p.l).map fun z => PyData.int (sqd m z.1 z.2)) = ((n.l.zip p.l).map fun z => sqd m z.1 z.2).map .int by rw [List.map_map]; rfl]; exact c_sum)) rfl
    · exact i_zip (ds := n.l.map .int) (es := p.l.map .int) (a_cons (e_var rfl) (a_cons (e_var rfl) a_nil)) rfl
    · have h1 := mem4 hn (i := i) (x := a.1) (by
        have := (List.getElem?_zip_eq_some (z := a)).mp ha
        exact this.1)
      have h2 := mem4 hp (i := i) (x := a.2) (by
        have := (List.getElem?_zip_eq_some (z := a)).mp ha
        exact this.2)
      refine e_op (e_op (e_op (e_var rfl) (e_var rfl) (o_mul (cml ⟨by omega, by omega⟩))) (e_var rfl) o_sub) e_int (o_pow ⟨by decide, by decide, ?_⟩)
      have k := prod_bd (x := m) (y := a.1) (M := 2 ^ 23) ⟨by omega, by omega⟩ h1
      have e23 : (2 ^ 23 : Int) * 2 ^ 23 = 2 ^ 46 := by decide
      rw [e23] at k
      omega
abbrev N_nearest : List Str := ["parts", "size", "whole", "halves", "far", "further", "part"]
theorem sc_nearest : FnScope N_nearest ["parts", "size"] (defScope s_nearest) := ⟨rfl, rfl, rfl, by decide +kernel, rfl, by decide +kernel, by decide +kernel⟩
theorem v_nearest_parts {X : Cx} {pos : Pos} (hN : X.N = N_nearest) (hs : X.env.scope = defScope s_nearest) : PE X (.Name "parts" pos) (tVar 0) := pe_var (by rw [hN]; rfl) (by rw [hs]; exact Or.inl (by decide +kernel)) (by decide +kernel) (by decide +kernel)
theorem v_nearest_size {X : Cx} {pos : Pos} (hN : X.N = N_nearest) (hs : X.env.scope = defScope s_nearest) : PE X (.Name "size" pos) (tVar 1) := pe_var (by rw [hN]; rfl) (by rw [hs]; exact Or.inr (Or.inl (by decide +kernel))) (by decide +kernel) (by decide +kernel)
theorem v_nearest_whole {X : Cx} {pos : Pos} (hN : X.N = N_nearest) (hs : X.env.scope = defScope s_nearest) : PE X (.Name "whole" pos) (tVar 2) := pe_var (by rw [hN]; rfl) (by rw [hs]; exact Or.inl (by decide +kernel)) (by decide +kernel) (by decide +kernel)
theorem v_nearest_halves {X : Cx} {pos : Pos} (hN : X.N = N_nearest) (hs : X.env.scope = defScope s_nearest) : PE X (.Name "halves" pos) (tVar 3) := pe_var (by rw [hN]; rfl) (by rw [hs]; exact Or.inl (by decide +kernel)) (by decide +kernel) (by decide +kernel)
theorem v_nearest_far {X : Cx} {pos : Pos} (hN : X.N = N_nearest) (hs : X.env.scope = defScope s_nearest) : PE X (.Name "far" pos) (tVar 4) := pe_var (by rw [hN]; rfl) (by rw [hs]; exact Or.inl (by decide +kernel)) (by decide +kernel) (by decide +kernel)
theorem v_nearest_further {X : Cx} {pos : Pos} (hN : X.N = N_nearest) (hs : X.env.scope = defScope s_nearest) : PE X (.Name "further" pos) (tVar 5) := pe_var (by rw [hN]; rfl) (by rw [hs]; exact Or.inl (by decide +kernel)) (by decide +kernel) (by decide +kernel)
theorem ok_nearest (B : Mg K mg) (C_distance_of : Cal P w K mg base "distance_of" 1 ["parts", "size", "number"] (spR K R_distance)) (D : Dn K mg "nearest" s_nearest ["parts", "size"]) : Cal P w K mg base "nearest" 2 ["parts", "size"] (spR K R_nearest) := by
  have nd := sc_nearest.nd
  refine mk_cal D sc_nearest (fun ds d h => ?_) (fun cdv A outer s H f E ds d hr h => ?_)
  · obtain ⟨p, m, rfl, _⟩ := h
    rfl
  · obtain ⟨p, m, rfl, hp, m0, m1, rfl⟩ := h
    refine ⟨_, (pss_cons (ps_set (i := 2) nd rfl (by first | exact Or.inl rfl | exact Or.inr rfl) (pe_callTy (w_tuple (K := K)) (by rfl) B.tuple (by decide +kernel) (pa_cons (pe_lc (own := [("part", 6)]) (g := (gName 6)) rfl nd (w_pit (K := K) (v_nearest_parts rfl rfl)) (blkOk_by (own := [("part", 6)]) (N := N_nearest) (sc := defScope s_nearest) (by decide +kernel)) (fun _ _ _ _ _ => (pg_name (i := 6) nd rfl (by first | exact Or.inl rfl | exact Or.inr rfl))) (fun _ _ _ _ _ => pts_nil) (fun _ _ _ _ _ => (pe_op op_mul pe_int (pe_op op_fdiv (pe_op op_add (pv 6) (pv 1)) (pe_op op_mul pe_int (pv 1)))))) pa_nil))) (pss_cons (ps_set (i := 3) nd rfl (by first | exact Or.inl rfl | exact Or.inr rfl) (pe_callTy (w_tuple (K := K)) (by rfl) B.tuple (by decide +kernel) (pa_cons (pe_lc (own := [("part", 6)]) (g := (gName 6)) rfl nd (w_pit (K := K) (v_nearest_parts rfl rfl)) (blkOk_by (own := [("part", 6)]) (N := N_nearest) (sc := defScope s_nearest) (by decide +kernel)) (fun _ _ _ _ _ => (pg_name (i := 6) nd rfl (by first | exact Or.inl rfl | exact Or.inr rfl))) (fun _ _ _ _ _ => pts_nil) (fun _ _ _ _ _ => (pe_op op_add (pe_op op_mul pe_int (pe_op op_fdiv (pv 6) (pe_op op_mul pe_int (pv 1)))) pe_int))) pa_nil))) (pss_cons (ps_set (i := 4) nd rfl (by first | exact Or.inl rfl | exact Or.inr rfl) (pe_c C_distance_of (hr.mono (by decide)) (pa_cons (v_nearest_parts rfl rfl) (pa_cons (v_nearest_size rfl rfl) (pa_cons (v_nearest_whole rfl rfl) pa_nil))))) (pss_cons (ps_set (i := 5) nd rfl (by first | exact Or.inl rfl | exact Or.inr rfl) (pe_c C_distance_of (hr.mono (by decide)) (pa_cons (v_nearest_parts rfl rfl) (pa_cons (v_nearest_size rfl rfl) (pa_cons (v_nearest_halves rfl rfl) pa_nil))))) (pss_cons (ps_if (pt_cmpR op_eq (v_nearest_far rfl rfl) (v_nearest_further rfl rfl) (nomark _)) (pss_one (ps_ret (pe_callB (w_max2D (K := K) rfl hr.units) (by rfl) B.max (by decide +kernel) (pa_cons (v_nearest_whole rfl rfl) (pa_cons (v_nearest_halves rfl rfl) pa_nil))))) pss_nil) (pss_one (ps_ret (pe_ifExp (pt_cmpR op_lt (v_nearest_far rfl rfl) (v_nearest_further rfl rfl) (nomark _)) (v_nearest_whole rfl rfl) (v_nearest_halves rfl rfl))))))))), ?_⟩
    show StE K _ [some (.val (qd p)), some (.val (.int m)), none, none, none, none, none] _ _
    refine q_asg (d := qd (wholeQ p m)) (e_cb (a_cons (e_own (c_map p.l .int (fun x => .int (2 * ((x + m) / (2 * m)))) (i_tup (e_var (by rw [qd_l]; rfl))) (by show 4 ≤ 50000; decide) fun i a ha => ⟨_, g_name, ?_⟩)) a_nil) c_tupL) ?_
    · exact e_op e_int (e_op (e_op (e_var rfl) (e_var rfl) o_add) (e_op e_int (e_var rfl) (o_mul (cml ⟨by decide, by decide⟩))) (o_div ⟨by omega, by omega⟩)) (o_mul (cml ⟨by decide, by decide⟩))
    show StE K _ [some (.val (qd p)), some (.val (.int m)), some (.val (qd (wholeQ p m))), none, none, none, none] _ _
    refine q_asg (d := qd (halfQ p m)) (e_cb (a_cons (e_own (c_map p.l .int (fun x => .int (2 * (x / (2 * m)) + 1)) (i_tup (e_var (by rw [qd_l]; rfl))) (by show 4 ≤ 50000; decide) fun i a ha => ⟨_, g_name, ?_⟩)) a_nil) c_tupL) ?_
    · exact e_op (e_op e_int (e_op (e_var rfl) (e_op e_int (e_var rfl) (o_mul (cml ⟨by decide, by decide⟩))) (o_div ⟨by omega, by omega⟩)) (o_mul (cml ⟨by decide, by decide⟩))) e_int o_add
    show StE K _ [some (.val (qd p)), some (.val (.int m)), some (.val (qd (wholeQ p m))), some (.val (qd (halfQ p m))), none, none, none] _ _
    refine q_asg (e_call (a_cons (e_var rfl) (a_cons (e_var rfl) (a_cons (e_var rfl) a_nil))) ⟨p, m, wholeQ p m, rfl, hp, m0, m1, whole_sm hp m0 m1, rfl⟩) ?_
    refine q_asg (e_call (a_cons (e_var rfl) (a_cons (e_var rfl) (a_cons (e_var rfl) a_nil))) ⟨p, m, halfQ p m, rfl, hp, m0, m1, half_sm hp m0 m1, rfl⟩) ?_
    show StE K _ [some (.val (qd p)), some (.val (.int m)), some (.val (qd (wholeQ p m))), some (.val (qd (halfQ p m))), some (.val (.int (dist p m (wholeQ p m)))), some (.val (.int (dist p m (halfQ p m)))), none] _ _
    refine q_when (t_test (e_op (e_var rfl) (e_var rfl) o_eqI)) (fun hb => ?_) fun hb => ?_
    · have al := alikeAll_qd [wholeQ p m, halfQ p m]
      refine st_ret (e_cb (a_cons (e_var rfl) (a_cons (e_var rfl) a_nil)) (c_maxT al (depthAll_qd [wholeQ p m, halfQ p m]))) ?_
      rw [ltq_data]
      unfold near
      rw [if_pos (of_decide_eq_true hb)]
      split <;> rfl
    · refine st_ret (d := qd (near p m)) (e_if (t_test (e_op (e_var rfl) (e_var rfl) o_lt)) (fun hc => ?_) fun hc => ?_) rfl
      · unfold near
        rw [if_neg (of_decide_eq_false hb), if_pos (of_decide_eq_true hc)]
        exact e_var rfl
      · unfold near
        rw [if_neg (of_decide_eq_false hb), if_neg (of_decide_eq_false hc)]
        exact e_var rfl
abbrev N_check_pair : List Str := ["number", "divisor"]
theorem sc_check_pair : FnScope N_check_pair ["number", "divisor"] (defScope s_check_pair) := ⟨rfl, rfl, rfl, by decide +kernel, rfl, by decide +kernel, by decide +kernel⟩
theorem v_check_pair_number {X : Cx} {pos : Pos} (hN : X.N = N_check_pair) (hs : X.env.scope = defScope s_check_pair) : PE X (.Name "number" pos) (tVar 0) := pe_var (by rw [hN]; rfl) (by rw [hs]; exact Or.inl (by decide +kernel)) (by decide +kernel) (by decide +kernel)
theorem v_check_pair_divisor {X : Cx} {pos : Pos} (hN : X.N = N_check_pair) (hs : X.env.scope = defScope s_check_pair) : PE X (.Name "divisor" pos) (tVar 1) := pe_var (by rw [hN]; rfl) (by rw [hs]; exact Or.inl (by decide +kernel)) (by decide +kernel) (by decide +kernel)
theorem ok_check_pair (B : Mg K mg) (C_check_number : Cal P w K mg base "check_number" 2 ["number"] (spR K R_check_number)) (C_check_not_zero : Cal P w K mg base "check_not_zero" 3 ["number"] (spR K R_check_not_zero)) (D : Dn K mg "check_pair" s_check_pair ["number", "divisor"]) : Cal P w K mg base "check_pair" 4 ["number", "divisor"] (spR K R_check_pair) := by
  have nd := sc_check_pair.nd
  refine mk_cal D sc_check_pair (fun ds d h => ?_) (fun cdv A outer s H f E ds d hr h => ?_)
  · obtain ⟨n, v, rfl, _⟩ := h
    rfl
  · obtain ⟨n, v, rfl, hn, hv, h0, rfl⟩ := h
    refine ⟨_, (pss_cons (ps_expr (pe_c C_check_number (hr.mono (by decide)) (pa_cons (v_check_pair_number rfl rfl) pa_nil))) (pss_one (ps_expr (pe_c C_check_not_zero (hr.mono (by decide)) (pa_cons (v_check_pair_divisor rfl rfl) pa_nil))))), ?_⟩
    refine q_drop (e_call (a_cons (e_var rfl) a_nil) ⟨n, .inl rfl, hn, rfl⟩) ?_
    exact st_drop (e_call (a_cons (e_var rfl) a_nil) ⟨v, .inl rfl, hv, h0, rfl⟩) rfl
abbrev N_divided_left : List Str := ["number", "divisor", "quotient"]
theorem sc_divided_left : FnScope N_divided_left ["number", "divisor"] (defScope s_divided_left) := ⟨rfl, rfl, rfl, by decide +kernel, rfl, by decide +kernel, by decide +kernel⟩
theorem v_divided_left_number {X : Cx} {pos : Pos} (hN : X.N = N_divided_left) (hs : X.env.scope = defScope s_divided_left) : PE X (.Name "number" pos) (tVar 0) := pe_var (by rw [hN]; rfl) (by rw [hs]; exact Or.inl (by decide +kernel)) (by decide +kernel) (by decide +kernel)
theorem v_divided_left_divisor {X : Cx} {pos : Pos} (hN : X.N = N_divided_left) (hs : X.env.scope = defScope s_divided_left) : PE X (.Name "divisor" pos) (tVar 1) := pe_var (by rw [hN]; rfl) (by rw [hs]; exact Or.inl (by decide +kernel)) (by decide +kernel) (by decide +kernel)
theorem v_divided_left_quotient {X : Cx} {pos : Pos} (hN : X.N = N_divided_left) (hs : X.env.scope = defScope s_divided_left) : PE X (.Name "quotient" pos) (tVar 2) := pe_var (by rw [hN]; rfl) (by rw [hs]; exact Or.inl (by decide +kernel)) (by decide +kernel) (by decide +kernel)
theorem ok_divided_left (B : Mg K mg) (C_check_pair : Cal P w K mg base "check_pair" 4 ["number", "divisor"] (spR K R_check_pair)) (C_nearest : Cal P w K mg base "nearest" 2 ["parts", "size"] (spR K R_nearest)) (C_product : Cal P w K mg base "product" 3 ["one", "other"] (spR K R_product)) (C_conjugate : Cal P w K mg base "conjugate" 3 ["number"] (spR K R_conjugate)) (C_norm : Cal P w K mg base "norm" 3 ["number"] (spR K R_norm)) (C_less : Cal P w K mg base "less" 3 ["one", "other"] (spR K R_less)) (D : Dn K mg "divided_left" s_divided_left ["number", "divisor"]) : Cal P w K mg base "divided_left" 5 ["number", "divisor"] (spR K R_divided) := by
  have nd := sc_divided_left.nd
  refine mk_cal D sc_divided_left (fun ds d h => ?_) (fun cdv A outer s H f E ds d hr h => ?_)
  · obtain ⟨n, v, rfl, _⟩ := h
    rfl
  · obtain ⟨n, v, rfl, hn, hv, h0, sn, sv, rfl⟩ := h
    refine ⟨_, (pss_cons (ps_expr (pe_c C_check_pair (hr.mono (by decide)) (pa_cons (v_divided_left_number rfl rfl) (pa_cons (v_divided_left_divisor rfl rfl) pa_nil)))) (pss_cons (ps_set (i := 2) nd rfl (by first | exact Or.inl rfl | exact Or.inr rfl) (pe_c C_nearest (hr.mono (by decide)) (pa_cons (pe_c C_product (hr.mono (by decide)) (pa_cons (pe_c C_conjugate (hr.mono (by decide)) (pa_cons (v_divided_left_divisor rfl rfl) pa_nil)) (pa_cons (v_divided_left_number rfl rfl) pa_nil))) (pa_cons (pe_c C_norm (hr.mono (by decide)) (pa_cons (v_divided_left_divisor rfl rfl) pa_nil)) pa_nil)))) (pss_one (ps_ret (pe_tup (pa_cons (v_divided_left_quotient rfl rfl) (pa_cons (pe_c C_less (hr.mono (by decide)) (pa_cons (v_divided_left_number rfl rfl) (pa_cons (pe_c C_product (hr.mono (by decide)) (pa_cons (v_divided_left_divisor rfl rfl) (pa_cons (v_divided_left_quotient rfl rfl) pa_nil))) pa_nil))) pa_nil))))))), ?_⟩
    show StE K _ [some (.val (qd n)), some (.val (qd v)), none] _ _
    have n0 := nrm_pos hv h0
    have n1 := nrm_sm hv sv
    refine q_drop (e_call (a_cons (e_var rfl) (a_cons (e_var rfl) a_nil)) ⟨n, v, rfl, hn, hv, h0, rfl⟩) ?_
    refine q_asg (e_call (a_cons (e_call (a_cons (e_call (a_cons (e_var rfl) a_nil) ⟨v, rfl, hv, rfl⟩) (a_cons (e_var rfl) a_nil)) ⟨conj v, n, rfl, conj_par hv, hn, .inr (sm_up sn (by decide)), rfl⟩) (a_cons (e_call (a_cons (e_var rfl) a_nil) ⟨v, rfl, hv, sm_up sv (by decide), rfl⟩) a_nil)) ⟨mul (conj v) n, nrm v, rfl, mul_sm (conj_sm sv) sn, n0, by omega, rfl⟩) ?_
    show StE K _ [some (.val (qd n)), some (.val (qd v)), some (.val (qd (dq n v)))] _ _
    exact st_ret (e_tup (a_cons (e_var rfl) (a_cons (e_call (a_cons (e_var rfl) (a_cons (e_call (a_cons (e_var rfl) (a_cons (e_var rfl) a_nil)) ⟨v, dq n v, rfl, hv, dq_par n v, .inl (sm_up sv (by decide)), rfl⟩) a_nil)) ⟨n, mul v (dq n v), rfl, hn, mul_par hv (dq_par n v), rfl⟩) a_nil)) (Nat.le_of_ble_eq_true rfl)) rfl
abbrev N_left_quotient : List Str := ["number", "divisor", "quotient", "rest"]
theorem sc_left_quotient : FnScope N_left_quotient ["number", "divisor"] (defScope s_left_quotient) := ⟨rfl, rfl, rfl, by decide +kernel, rfl, by decide +kernel, by decide +kernel⟩
theorem v_left_quotient_number {X : Cx} {pos : Pos} (hN : X.N = N_left_quotient) (hs : X.env.scope = defScope s_left_quotient) : PE X (.Name "number" pos) (tVar 0) := pe_var (by rw [hN]; rfl) (by rw [hs]; exact Or.inl (by decide +kernel)) (by decide +kernel) (by decide +kernel)
theorem v_left_quotient_divisor {X : Cx} {pos : Pos} (hN : X.N = N_left_quotient) (hs : X.env.scope = defScope s_left_quotient) : PE X (.Name "divisor" pos) (tVar 1) := pe_var (by rw [hN]; rfl) (by rw [hs]; exact Or.inl (by decide +kernel)) (by decide +kernel) (by decide +kernel)
theorem v_left_quotient_quotient {X : Cx} {pos : Pos} (hN : X.N = N_left_quotient) (hs : X.env.scope = defScope s_left_quotient) : PE X (.Name "quotient" pos) (tVar 2) := pe_var (by rw [hN]; rfl) (by rw [hs]; exact Or.inl (by decide +kernel)) (by decide +kernel) (by decide +kernel)
theorem v_left_quotient_rest {X : Cx} {pos : Pos} (hN : X.N = N_left_quotient) (hs : X.env.scope = defScope s_left_quotient) : PE X (.Name "rest" pos) (tVar 3) := pe_var (by rw [hN]; rfl) (by rw [hs]; exact Or.inl (by decide +kernel)) (by decide +kernel) (by decide +kernel)
theorem ok_left_quotient (B : Mg K mg) (C_divided_left : Cal P w K mg base "divided_left" 5 ["number", "divisor"] (spR K R_divided)) (D : Dn K mg "left_quotient" s_left_quotient ["number", "divisor"]) : Cal P w K mg base "left_quotient" 6 ["number", "divisor"] (spR K R_quotient) := by
  have nd := sc_left_quotient.nd
  refine mk_cal D sc_left_quotient (fun ds d h => ?_) (fun cdv A outer s H f E ds d hr h => ?_)
  · obtain ⟨n, v, rfl, _⟩ := h
    rfl
  · obtain ⟨n, v, rfl, hn, hv, h0, sn, sv, hd, rfl⟩ := h
    refine ⟨_, (pss_cons (ps_asg (pe_c C_divided_left (hr.mono (by decide)) (pa_cons (v_left_quotient_number rfl rfl) (pa_cons (v_left_quotient_divisor rfl rfl) pa_nil))) (w_gtup (K := K) rfl (pgs_cons (pg_name (i := 2) nd rfl (by first | exact Or.inl rfl | exact Or.inr rfl)) (pgs_cons (pg_name (i := 3) nd rfl (by first | exact Or.inl rfl | exact Or.inr rfl)) pgs_nil)))) (pss_one (ps_ret (pe_ifExp (pt_cmpR (w_eqD (K := K) hr.units) (v_left_quotient_rest rfl rfl) (pe_gt B.ZERO_dividing) (nomark _)) (v_left_quotient_quotient rfl rfl) pe_non)))), ?_⟩
    show StE K _ [some (.val (qd n)), some (.val (qd v)), none, none] _ _
    refine q_asgG (vs := [2, 3]) (e_call (a_cons (e_var rfl) (a_cons (e_var rfl) a_nil)) ⟨n, v, rfl, hn, hv, h0, sn, sv, rfl⟩) (g_tup rfl (gs_cons g_name (gs_cons g_name gs_nil))) ?_
    show StE K _ [some (.val (qd n)), some (.val (qd v)), some (.val (qd (dq n v))), some (.val (qd (dr n v)))] _ _
    refine st_ret (e_if (b := true) ?_ (fun _ => e_var rfl) (fun z => nomatch z)) rfl
    have tr : PyData.eqv (qd (dr n v)) (qd ⟨0, 0, 0, 0⟩) = true := by rw [eqv_qd]; exact decide_eq_true hd
    exact t_is (t_test (e_op (e_var rfl) (e_con B.ZERO_dividing.2) (o_eqD (sh_qd _) (sh_qd _)))) tr
abbrev N_steps_of : List Str := ["one", "other", "now", "following", "quotient", "rest", "first", "second"]
theorem sc_steps_of : FnScope N_steps_of ["one", "other"] (defScope s_steps_of) := ⟨rfl, rfl, rfl, by decide +kernel, rfl, by decide +kernel, by decide +kernel⟩
theorem v_steps_of_one {X : Cx} {pos : Pos} (hN : X.N = N_steps_of) (hs : X.env.scope = defScope s_steps_of) : PE X (.Name "one" pos) (tVar 0) := pe_var (by rw [hN]; rfl) (by rw [hs]; exact Or.inl (by decide +kernel)) (by decide +kernel) (by decide +kernel)
theorem v_steps_of_other {X : Cx} {pos : Pos} (hN : X.N = N_steps_of) (hs : X.env.scope = defScope s_steps_of) : PE X (.Name "other" pos) (tVar 1) := pe_var (by rw [hN]; rfl) (by rw [hs]; exact Or.inl (by decide +kernel)) (by decide +kernel) (by decide +kernel)
theorem v_steps_of_now {X : Cx} {pos : Pos} (hN : X.N = N_steps_of) (hs : X.env.scope = defScope s_steps_of) : PE X (.Name "now" pos) (tVar 2) := pe_var (by rw [hN]; rfl) (by rw [hs]; exact Or.inl (by decide +kernel)) (by decide +kernel) (by decide +kernel)
theorem v_steps_of_following {X : Cx} {pos : Pos} (hN : X.N = N_steps_of) (hs : X.env.scope = defScope s_steps_of) : PE X (.Name "following" pos) (tVar 3) := pe_var (by rw [hN]; rfl) (by rw [hs]; exact Or.inl (by decide +kernel)) (by decide +kernel) (by decide +kernel)
theorem v_steps_of_quotient {X : Cx} {pos : Pos} (hN : X.N = N_steps_of) (hs : X.env.scope = defScope s_steps_of) : PE X (.Name "quotient" pos) (tVar 4) := pe_var (by rw [hN]; rfl) (by rw [hs]; exact Or.inl (by decide +kernel)) (by decide +kernel) (by decide +kernel)
theorem v_steps_of_rest {X : Cx} {pos : Pos} (hN : X.N = N_steps_of) (hs : X.env.scope = defScope s_steps_of) : PE X (.Name "rest" pos) (tVar 5) := pe_var (by rw [hN]; rfl) (by rw [hs]; exact Or.inl (by decide +kernel)) (by decide +kernel) (by decide +kernel)
theorem v_steps_of_first {X : Cx} {pos : Pos} (hN : X.N = N_steps_of) (hs : X.env.scope = defScope s_steps_of) : PE X (.Name "first" pos) (tVar 6) := pe_var (by rw [hN]; rfl) (by rw [hs]; exact Or.inl (by decide +kernel)) (by decide +kernel) (by decide +kernel)
theorem v_steps_of_second {X : Cx} {pos : Pos} (hN : X.N = N_steps_of) (hs : X.env.scope = defScope s_steps_of) : PE X (.Name "second" pos) (tVar 7) := pe_var (by rw [hN]; rfl) (by rw [hs]; exact Or.inl (by decide +kernel)) (by decide +kernel) (by decide +kernel)
theorem ok_steps_of (B : Mg K mg) (C_divided_left : Cal P w K mg base "divided_left" 5 ["number", "divisor"] (spR K R_divided)) (C_product : Cal P w K mg base "product" 3 ["one", "other"] (spR K R_product)) (C_less : Cal P w K mg base "less" 3 ["one", "other"] (spR K R_less)) (D : Dn K mg "steps_of" s_steps_of ["one", "other"]) : Cal P w K mg base "steps_of" 6 ["one", "other"] (spR K R_steps) := by
  have nd := sc_steps_of.nd
  refine mk_cal D sc_steps_of (fun ds d h => ?_) (fun cdv A outer s H f E ds d hr h => ?_)
  · obtain ⟨n, v, k, x, y, rfl, _⟩ := h
    rfl
  · obtain ⟨n, v, k, x, y, rfl, hn, hv, hk, rfl⟩ := h
    refine ⟨_, (pss_cons (ps_set (i := 2) nd rfl (by first | exact Or.inl rfl | exact Or.inr rfl) (pe_tup (pa_cons (pe_callTy (w_tuple (K := K)) (by rfl) B.tuple (by decide +kernel) (pa_cons (v_steps_of_one rfl rfl) pa_nil)) (pa_cons (pe_gt B.ONE) (pa_cons (pe_gt B.ZERO_numbers) pa_nil))))) (pss_cons (ps_set (i := 3) nd rfl (by first | exact Or.inl rfl | exact Or.inr rfl) (pe_tup (pa_cons (pe_callTy (w_tuple (K := K)) (by rfl) B.tuple (by decide +kernel) (pa_cons (v_steps_of_other rfl rfl) pa_nil)) (pa_cons (pe_gt B.ZERO_numbers) (pa_cons (pe_gt B.ONE) pa_nil))))) (pss_cons (ps_while PassesOwn.never (pt_cmpR (w_neD (K := K) hr.units) (pe_ix (w_ixT (K := K)) (v_steps_of_following rfl rfl) pe_int (fun _ _ => rfl)) (pe_gt B.ZERO_numbers) (nomark _)) (pss_cons (ps_asg (pe_c C_divided_left (hr.mono (by decide)) (pa_cons (pe_ix (w_ixT (K := K)) (v_steps_of_now rfl rfl) pe_int (fun _ _ => rfl)) (pa_cons (pe_ix (w_ixT (K := K)) (v_steps_of_following rfl rfl) pe_int (fun _ _ => rfl)) pa_nil))) (w_gtup (K := K) rfl (pgs_cons (pg_name (i := 4) nd rfl (by first | exact Or.inl rfl | exact Or.inr rfl)) (pgs_cons (pg_name (i := 5) nd rfl (by first | exact Or.inl rfl | exact Or.inr rfl)) pgs_nil)))) (pss_cons (ps_set (i := 6) nd rfl (by first | exact Or.inl rfl | exact Or.inr rfl) (pe_c C_less (hr.mono (by decide)) (pa_cons (pe_ix (w_ixT (K := K)) (v_steps_of_now rfl rfl) pe_int (fun _ _ => rfl)) (pa_cons (pe_c C_product (hr.mono (by decide)) (pa_cons (pe_ix (w_ixT (K := K)) (v_steps_of_following rfl rfl) pe_int (fun _ _ => rfl)) (pa_cons (v_steps_of_quotient rfl rfl) pa_nil))) pa_nil)))) (pss_cons (ps_set (i := 7) nd rfl (by first | exact Or.inl rfl | exact Or.inr rfl) (pe_c C_less (hr.mono (by decide)) (pa_cons (pe_ix (w_ixT (K := K)) (v_steps_of_now rfl rfl) pe_int (fun _ _ => rfl)) (pa_cons (pe_c C_product (hr.mono (by decide)) (pa_cons (pe_ix (w_ixT (K := K)) (v_steps_of_following rfl rfl) pe_int (fun _ _ => rfl)) (pa_cons (v_steps_of_quotient rfl rfl) pa_nil))) pa_nil)))) (pss_one (ps_par (i := 2) (j := 3) rfl nd rfl rfl (by decide) rfl rfl (pa_cons (v_steps_of_following rfl rfl) (pa_cons (pe_tup (pa_cons (v_steps_of_rest rfl rfl) (pa_cons (v_steps_of_first rfl rfl) (pa_cons (v_steps_of_second rfl rfl) pa_nil)))) pa_nil)) (by rfl))))))) (pss_one (ps_ret (pe_tup (pa_cons (v_steps_of_now rfl rfl) (pa_cons (v_steps_of_following rfl rfl) pa_nil)))))))), ?_⟩
    show StE K _ [some (.val (qd n)), some (.val (qd v)), none, none, none, none, none, none] _ _
    refine q_asg (d := td (n, ⟨2, 0, 0, 0⟩, ⟨0, 0, 0, 0⟩)) (e_tup (a_cons (e_cb (a_cons (e_var rfl) a_nil) c_tupT) (a_cons (e_con B.ONE.2) (a_cons (e_con B.ZERO_numbers.2) a_nil))) (Nat.le_of_ble_eq_true rfl)) ?_
    refine q_asg (d := td (v, ⟨0, 0, 0, 0⟩, ⟨2, 0, 0, 0⟩)) (e_tup (a_cons (e_cb (a_cons (e_var rfl) a_nil) c_tupT) (a_cons (e_con B.ZERO_numbers.2) (a_cons (e_con B.ONE.2) a_nil))) (Nat.le_of_ble_eq_true rfl)) ?_
    refine q_while (fun m env => ∃ (a b : T3) (x1 x2 x3 x4 : Option Bd), T3.par a ∧ T3.par b ∧ eucS m a b = some (x, y) ∧ env = [some (.val (qd n)), some (.val (qd v)), some (.val (td a)), some (.val (td b)), x1, x2, x3, x4]) k ⟨_, _, none, none, none, none, ⟨hn, (by decide : Q4.par ⟨2, 0, 0, 0⟩), (by decide : Q4.par ⟨0, 0, 0, 0⟩)⟩, ⟨hv, (by decide : Q4.par ⟨0, 0, 0, 0⟩), (by decide : Q4.par ⟨2, 0, 0, 0⟩)⟩, hk, rfl⟩ ?_
    rintro m e ⟨a, b, x1, x2, x3, x4, ha, hb, hm, rfl⟩
    cases m with
    | zero => cases hm
    | succ m =>
      refine ⟨_, t_test (e_op (e_op (e_var rfl) e_int (o_ixT rfl)) (e_con B.ZERO_numbers.2) (o_neD (x := qd b.1) (sh_qd _) (sh_qd _))), fun hb1 => ?_, fun hb1 => ?_⟩
      · have hz : b.1 ≠ ⟨0, 0, 0, 0⟩ := fun z => by
          rw [eqv_qd, decide_eq_true z] at hb1
          cases hb1
        unfold eucS at hm
        rw [if_neg hz] at hm
        by_cases hs : a.1.sm (2 ^ 9) ∧ b.1.sm (2 ^ 9)
        · rw [if_pos hs] at hm
          refine q_asgG (vs := [4, 5]) (e_call (a_cons (e_op (e_var rfl) e_int (o_ixT rfl)) (a_cons (e_op (e_var rfl) e_int (o_ixT rfl)) a_nil)) ⟨a.1, b.1, rfl, ha.1, hb.1, hz, hs.1, hs.2, rfl⟩) (g_tup rfl (gs_cons g_name (gs_cons g_name gs_nil))) ?_
          show StE K _ [some (.val (qd n)), some (.val (qd v)), some (.val (td a)), some (.val (td b)), some (.val (qd (dq a.1 b.1))), some (.val (qd (dr a.1 b.1))), x3, x4] _ _
          have sq : (dq a.1 b.1).sm (2 ^ 60) := sm_up (dq_sm hs.1 hb.1 hs.2 hz) (by decide)
          refine q_asg (e_call (a_cons (e_op (e_var rfl) e_int (o_ixT rfl)) (a_cons (e_call (a_cons (e_op (e_var rfl) e_int (o_ixT rfl)) (a_cons (e_var rfl) a_nil)) ⟨b.2.1, dq a.1 b.1, rfl, hb.2.1, dq_par _ _, .inr sq, rfl⟩) a_nil)) ⟨a.2.1, mul b.2.1 (dq a.1 b.1), rfl, ha.2.1, mul_par hb.2.1 (dq_par _ _), rfl⟩) ?_
          refine q_asg (e_call (a_cons (e_op (e_var rfl) e_int (o_ixT rfl)) (a_cons (e_call (a_cons (e_op (e_var rfl) e_int (o_ixT rfl)) (a_cons (e_var rfl) a_nil)) ⟨b.2.2, dq a.1 b.1, rfl, hb.2.2, dq_par _ _, .inr sq, rfl⟩) a_nil)) ⟨a.2.2, mul b.2.2 (dq a.1 b.1), rfl, ha.2.2, mul_par hb.2.2 (dq_par _ _), rfl⟩) ?_
          exact st_par (x := td b) (y := td (nextT a b)) (a_cons (e_var rfl) (a_cons (e_tup (a_cons (e_var rfl) (a_cons (e_var rfl) (a_cons (e_var rfl) a_nil))) (Nat.le_of_ble_eq_true rfl)) a_nil)) ⟨m, Nat.lt_succ_self m, b, nextT a b, _, _, _, _, hb, next_par ha hb, hm, rfl⟩
        · rw [if_neg hs] at hm
          cases hm
      · have hz : b.1 = ⟨0, 0, 0, 0⟩ := by
          by_cases z : b.1 = ⟨0, 0, 0, 0⟩
          · exact z
          · rw [eqv_qd, decide_eq_false z] at hb1
            cases hb1
        unfold eucS at hm
        rw [if_pos hz] at hm
        cases hm
        exact st_ret (e_tup (a_cons (e_var rfl) (a_cons (e_var rfl) a_nil)) (Nat.le_of_ble_eq_true rfl)) rfl
abbrev N_check_some : List Str := ["numbers", "number"]
theorem sc_check_some : FnScope N_check_some ["numbers"] (defScope s_check_some) := ⟨rfl, rfl, rfl, by decide +kernel, rfl, by decide +kernel, by decide +kernel⟩
theorem v_check_some_numbers {X : Cx} {pos : Pos} (hN : X.N = N_check_some) (hs : X.env.scope = defScope s_check_some) : PE X (.Name "numbers" pos) (tVar 0) := pe_var (by rw [hN]; rfl) (by rw [hs]; exact Or.inl (by decide +kernel)) (by decide +kernel) (by decide +kernel)
theorem v_check_some_number {X : Cx} {pos : Pos} (hN : X.N = N_check_some) (hs : X.env.scope = defScope s_check_some) : PE X (.Name "number" pos) (tVar 1) := pe_var (by rw [hN]; rfl) (by rw [hs]; exact Or.inl (by decide +kernel)) (by decide +kernel) (by decide +kernel)
theorem ok_check_some (B : Mg K mg) (C_check_number : Cal P w K mg base "check_number" 2 ["number"] (spR K R_check_number)) (D : Dn K mg "check_some" s_check_some ["numbers"]) : Cal P w K mg base "check_some" 3 ["numbers"] (spR K R_check_some) := by
  have nd := sc_check_some.nd
  refine mk_cal D sc_check_some (fun ds d h => ?_) (fun cdv A outer s H f E ds d hr h => ?_)
  · obtain ⟨n, v, rfl, _⟩ := h
    rfl
  · obtain ⟨p, q, rfl, hp, hq, h0, rfl⟩ := h
    refine ⟨_, (pss_cons (ps_for PassesOwn.never rfl (w_pil (K := K) (v_check_some_numbers rfl rfl)) (pg_name (i := 1) nd rfl (by first | exact Or.inl rfl | exact Or.inr rfl)) (pss_one (ps_expr (pe_c C_check_number (hr.mono (by decide)) (pa_cons (v_check_some_number rfl rfl) pa_nil))))) (pss_one (ps_if (pt_val (pe_callB (w_all (K := K) rfl) (by rfl) B.all (by decide +kernel) (pa_cons (pe_lc (own := [("number", 1)]) (g := (gName 1)) rfl nd (w_pil (K := K) (v_check_some_numbers rfl rfl)) (blkOk_by (own := [("number", 1)]) (N := N_check_some) (sc := defScope s_check_some) (by decide +kernel)) (fun _ _ _ _ _ => (pg_name (i := 1) nd rfl (by first | exact Or.inl rfl | exact Or.inr rfl))) (fun _ _ _ _ _ => pts_nil) (fun _ _ _ _ _ => (pe_cmpR (w_eqD (K := K) hr.units) (pe_callTy (w_tuple (K := K)) (by rfl) B.tuple (by decide +kernel) (pa_cons (pv 1) pa_nil)) (w_gt B.ZERO_numbers) (nomark _)))) pa_nil))) (pss_one ps_never) pss_nil))), ?_⟩
    show StE K _ [some (.val (.list ([p, q].map qd))), none] _ _
    refine q_for (vs := [1]) (i_list (e_var rfl)) (fun i env => ∃ x, env = [some (.val (.list ([p, q].map qd))), x]) ⟨none, rfl⟩ ?_ ?_
    · rintro i d e hd ⟨x, rfl⟩
      obtain ⟨r, hr', rfl⟩ := map_at hd
      refine ⟨_, g_name, ?_⟩
      have hm := List.mem_of_getElem? hr'
      simp only [List.mem_cons, List.mem_nil_iff, or_false] at hm
      refine st_drop (e_call (a_cons (e_var rfl) a_nil) ⟨r, .inl rfl, ?_, rfl⟩) ⟨some (.val (qd r)), rfl⟩
      rcases hm with rfl | rfl <;> assumption
    · rintro e ⟨x, rfl⟩
      refine st_if (b := false) ?_ (fun z => nomatch z) fun _ => st_next rfl
      refine t_is (t_b (e_cb (a_cons (e_own (c_map [p, q] qd (fun r => .bool (decide (r = ⟨0, 0, 0, 0⟩))) (i_list (e_var rfl)) (Nat.le_of_ble_eq_true rfl) fun i r hr' => ⟨_, g_name, ?_⟩)) a_nil) (c_all (bs := [decide (p = ⟨0, 0, 0, 0⟩), decide (q = ⟨0, 0, 0, 0⟩)])))) ?_
      · rw [← eqv_qd]
        exact e_op (e_cb (a_cons (e_var rfl) a_nil) c_tupT) (e_con B.ZERO_numbers.2) (o_eqD (sh_qd r) (sh_qd _))
      · rw [decide_eq_false h0]
        rfl
abbrev N_left_common : List Str := ["one", "other"]
theorem sc_left_common : FnScope N_left_common ["one", "other"] (defScope s_left_common) := ⟨rfl, rfl, rfl, by decide +kernel, rfl, by decide +kernel, by decide +kernel⟩
theorem v_left_common_one {X : Cx} {pos : Pos} (hN : X.N = N_left_common) (hs : X.env.scope = defScope s_left_common) : PE X (.Name "one" pos) (tVar 0) := pe_var (by rw [hN]; rfl) (by rw [hs]; exact Or.inl (by decide +kernel)) (by decide +kernel) (by decide +kernel)
theorem v_left_common_other {X : Cx} {pos : Pos} (hN : X.N = N_left_common) (hs : X.env.scope = defScope s_left_common) : PE X (.Name "other" pos) (tVar 1) := pe_var (by rw [hN]; rfl) (by rw [hs]; exact Or.inl (by decide +kernel)) (by decide +kernel) (by decide +kernel)
theorem ok_left_common (B : Mg K mg) (C_check_some : Cal P w K mg base "check_some" 3 ["numbers"] (spR K R_check_some)) (C_canonical : Cal P w K mg base "canonical" 5 ["number"] (spR K R_canonical)) (C_steps_of : Cal P w K mg base "steps_of" 6 ["one", "other"] (spR K R_steps)) (D : Dn K mg "left_common" s_left_common ["one", "other"]) : Cal P w K mg base "left_common" 7 ["one", "other"] (spR K R_common) := by
  have nd := sc_left_common.nd
  refine mk_cal D sc_left_common (fun ds d h => ?_) (fun cdv A outer s H f E ds d hr h => ?_)
  · obtain ⟨n, v, k, g, rfl, _⟩ := h
    rfl
  · obtain ⟨n, v, k, g, rfl, hn, hv, h0, hk, hg, g0, rfl⟩ := h
    refine ⟨_, (pss_cons (ps_expr (pe_c C_check_some (hr.mono (by decide)) (pa_cons (pe_lst (pa_cons (v_left_common_one rfl rfl) (pa_cons (v_left_common_other rfl rfl) pa_nil))) pa_nil))) (pss_one (ps_ret (pe_c C_canonical (hr.mono (by decide)) (pa_cons (pe_ix (w_ixT (K := K)) (pe_ix (w_ixT (K := K)) (pe_c C_steps_of (hr.mono (by decide)) (pa_cons (v_left_common_one rfl rfl) (pa_cons (v_left_common_other rfl rfl) pa_nil))) pe_int (fun _ _ => rfl)) pe_int (fun _ _ => rfl)) pa_nil))))), ?_⟩
    obtain ⟨x, y, e, rfl⟩ := eucS_of k (n, ⟨2, 0, 0, 0⟩, ⟨0, 0, 0, 0⟩) (v, ⟨0, 0, 0, 0⟩, ⟨2, 0, 0, 0⟩) g hk
    refine q_drop (e_call (a_cons (e_lst (a_cons (e_var rfl) (a_cons (e_var rfl) a_nil)) (Nat.le_of_ble_eq_true rfl)) a_nil) ⟨n, v, rfl, hn, hv, h0, rfl⟩) ?_
    exact st_ret (e_call (a_cons (e_op (e_op (e_call (a_cons (e_var rfl) (a_cons (e_var rfl) a_nil)) ⟨n, v, k, x, y, rfl, hn, hv, e, rfl⟩) e_int (o_ixT rfl)) e_int (o_ixT (d := qd x.1) rfl)) a_nil) ⟨x.1, rfl, hg, g0, rfl⟩) rfl
abbrev N_left_prime : List Str := ["number", "prime"]
theorem sc_left_prime : FnScope N_left_prime ["number", "prime"] (defScope s_left_prime) := ⟨rfl, rfl, rfl, by decide +kernel, rfl, by decide +kernel, by decide +kernel⟩
theorem v_left_prime_number {X : Cx} {pos : Pos} (hN : X.N = N_left_prime) (hs : X.env.scope = defScope s_left_prime) : PE X (.Name "number" pos) (tVar 0) := pe_var (by rw [hN]; rfl) (by rw [hs]; exact Or.inl (by decide +kernel)) (by decide +kernel) (by decide +kernel)
theorem v_left_prime_prime {X : Cx} {pos : Pos} (hN : X.N = N_left_prime) (hs : X.env.scope = defScope s_left_prime) : PE X (.Name "prime" pos) (tVar 1) := pe_var (by rw [hN]; rfl) (by rw [hs]; exact Or.inl (by decide +kernel)) (by decide +kernel) (by decide +kernel)
theorem ok_left_prime (B : Mg K mg) (C_left_common : Cal P w K mg base "left_common" 7 ["one", "other"] (spR K R_common)) (D : Dn K mg "left_prime" s_left_prime ["number", "prime"]) : Cal P w K mg base "left_prime" 8 ["number", "prime"] (spR K R_prime) := by
  have nd := sc_left_prime.nd
  refine mk_cal D sc_left_prime (fun ds d h => ?_) (fun cdv A outer s H f E ds d hr h => ?_)
  · obtain ⟨n, p, k, g, rfl, _⟩ := h
    rfl
  · obtain ⟨n, p, k, g, rfl, hn, h0, hk, hg, g0, rfl⟩ := h
    refine ⟨_, (pss_one (ps_ret (pe_c C_left_common (hr.mono (by decide)) (pa_cons (v_left_prime_number rfl rfl) (pa_cons (pe_tup (pa_cons (pe_op op_mul pe_int (v_left_prime_prime rfl rfl)) (pa_cons pe_int (pa_cons pe_int (pa_cons pe_int pa_nil))))) pa_nil))))), ?_⟩
    have par : Q4.par ⟨2 * p, 0, 0, 0⟩ := by
      unfold Q4.par
      simp only
      omega
    refine st_ret (e_call (a_cons (e_var rfl) (a_cons (e_tup (a_cons (e_op e_int (e_var rfl) (o_mul (cml ⟨by decide, by decide⟩))) (a_cons e_int (a_cons e_int (a_cons e_int a_nil)))) (Nat.le_of_ble_eq_true rfl)) a_nil)) ⟨n, ⟨2 * p, 0, 0, 0⟩, k, g, rfl, hn, par, h0, hk, hg, g0, rfl⟩) rfl
end
end TP

/-! Texts: join, split. -/
namespace TP
open PySem L2 PySem.Spec PyProof.Rows
def rJoinS (K : PySem.W.Frag) : V → List V → Hp → VK → Prop := fun x xs H Q => ∃ a p, ∃ ys : List Str, x = .str a ∧ xs = [.ref p] ∧ (SqL K H p (ys.map V.str) ∨ SqT K H p (ys.map V.str)) ∧ (ys.map (·.length)).sum + ys.length * a.length ≤ 16777216 ∧ Q (.str (Txt.join a ys)) H
def rSplitS : V → List V → Hp → VK → Prop := fun x xs H Q => ∃ a b, x = .str a ∧ xs = [.str b] ∧ (b.length == 0) = false ∧ a.length + 2 ≤ sizeLine ∧ rNewStrs (Txt.split a b) H Q
theorem w_join {X : Cx} {K : PySem.W.Frag} {o e : Expr} {to te : TE} {apos pos : Pos} (ho : PE X o to) (he : PE X e te) (hK : X.K = K := by rfl) (hs : starEach [e] X.env = [(false, eval e X.env)] := by rfl) (hbase : attributeBase o "join" X.env (eval o X.env) = eval o X.env := by rfl) (hline : (apos.endLine == pos.line) = true := by rfl) :
    PE X (.Call (.Attribute o "join" apos) [e] [] pos) (tM1 (rJoinS K) to te) := by
  subst hK
  exact pe_join ho he hs hbase hline
theorem w_split {X : Cx} {o e : Expr} {to te : TE} {apos pos : Pos} (ho : PE X o to) (he : PE X e te) (hs : starEach [e] X.env = [(false, eval e X.env)] := by rfl) (hbase : attributeBase o "split" X.env (eval o X.env) = eval o X.env := by rfl) (hline : (apos.endLine == pos.line) = true := by rfl) :
    PE X (.Call (.Attribute o "split" apos) [e] [] pos) (tM1 rSplitS to te) := pe_split ho he hs hbase hline
section
variable {K : PySem.W.Frag} {env : En} {to te : TE}
theorem e_m1 {r : V → List V → Hp → VK → Prop} {a : Str} {d z : PyData} (ho : EvE K to env (.str a)) (he : EvE K te env d) (hr : MtE K r (.str a) [d] z) : EvE K (tM1 r to te) env z := fun H0 F H σ Q i ok q =>
  ho H0 F H σ _ i ok fun v F1 H1 s1 r1 => ⟨⟨a, r1.of_str⟩, he H0 F1 H1 σ _ s1.i (ok.step s1) fun w F2 H2 s2 r2 =>
    hr F2 H2 v [w] Q s2.i (r1.up s2.f) (.cons r2 .nil) fun u F3 H3 s3 r3 => q u F3 H3 (s1.trans (s2.trans s3)) r3⟩
theorem m_join {a : Str} {ys : List Str} (hl : (ys.map (·.length)).sum + ys.length * a.length ≤ 16777216) : MtE K (rJoinS K) (.str a) [.list (ys.map .str)] (.str (Txt.join a ys)) := fun F H v vs Q s rv r q => by
  obtain ⟨u, rfl⟩ : ∃ u, vs = [u] := by
    cases r with
    | cons a b => cases b; exact ⟨_, rfl⟩
  have r1 : Rp K F u (.list (ys.map .str)) := by
    cases r with
    | cons a b => exact a
  obtain ⟨p, xs, rfl, ha, hx⟩ := r1.of_lst
  have e := hx.strs
  subst e
  exact ⟨a, p, ys, rv.of_str, rfl, .inl (sql_of (s _ _ ha)), hl, q _ F H (Step.refl s) (.str _)⟩
theorem m_split {a b : Str} {ys : List Str} (e : Txt.split a b = ys) (hb : (b.length == 0) = false) (hl : a.length + 2 ≤ 100000) : MtE K rSplitS (.str a) [.str b] (.list (ys.map .str)) := fun F H v vs Q s rv r q => by
  obtain ⟨u, rfl⟩ : ∃ u, vs = [u] := by
    cases r with
    | cons a b => cases b; exact ⟨_, rfl⟩
  have r1 : Rp K F u (.str b) := by
    cases r with
    | cons a b => exact a
  refine ⟨a, b, rv.of_str, by rw [r1.of_str], hb, le_line hl, ?_⟩
  rw [e]
  intro p hn
  exact q _ _ _ (Step.new s hn) (.lst upd_same ((RpL.of_strs ys).up (Ex.new (s.free hn))))
end
end TP

/-! Texts: a row written and read back. -/
namespace TP
open PySem L2 PySem.Spec PyProof.Rows TL
def shL (x : Int) : List Nat := if x < 0 then 45 :: numL x.natAbs else numL x.natAbs
def shS (x : Int) : Str := ⟨(shL x).toArray⟩
def digs (t : Str) : Str := if cutS t none (some 1) = ("-" : Str) then cutS t (some 1) none else t
def isInt (t : Str) : Bool := decide (1 ≤ (digs t).length ∧ (digs t).length ≤ 200) && (digs t).cps.toList.all (fun n => decide (n ∈ ("0123456789" : Str).cps.toList)) && (decide (t = "0") || (match (digs t).cps.toList with
  | [] => false
  | n :: _ => !decide ((⟨#[n]⟩ : Str) = "0")))
def sm64 (x : Int) : Prop := -64 < x ∧ x < 64
def shOk (x : Int) : Bool := decide (32 ∉ shL x) && decide (10 ∉ shL x) && decide ((shL x).length ≤ 4) && isInt (shS x) && decide (intText? (shS x) = some x)
theorem shOk_all : ∀ i : Nat, i < 128 → shOk ((i : Int) - 64) = true := by decide +kernel
theorem shOk_of {x : Int} (h : sm64 x) : shOk x = true := by
  have := shOk_all (x + 64).toNat (by have := h.1; have := h.2; omega)
  have e : (((x + 64).toNat : Nat) : Int) - 64 = x := by have := h.1; omega
  rw [e] at this
  exact this
theorem sh_of {x : Int} (h : sm64 x) : 32 ∉ shL x ∧ 10 ∉ shL x ∧ (shL x).length ≤ 4 ∧ isInt (shS x) = true ∧ intText? (shS x) = some x := by
  have := shOk_of h
  unfold shOk at this
  simp only [Bool.and_eq_true, decide_eq_true_eq] at this
  exact ⟨this.1.1.1.1, this.1.1.1.2, this.1.1.2, this.1.2, this.2⟩
theorem tl_sh (x : Int) : tl (shS x) = shL x := rfl
/-- the text of a number that is not below zero -/
theorem sh_nat {x : Int} (h : 0 ≤ x) : shS x = Str.ofString (toString x) := by
  refine ext_tl ?_
  rw [tl_sh]
  obtain ⟨n, rfl⟩ := Int.eq_ofNat_of_zero_le h
  rw [tl_num]
  unfold shL
  rw [if_neg (by omega)]
  rfl
theorem sh_neg {x : Int} (h : x < 0) : shS x = ("-" : Str) ++ shS (-x) := by
  refine ext_tl ?_
  rw [tl_append, tl_sh, tl_sh]
  unfold shL
  rw [if_pos h, if_neg (by omega), Int.natAbs_neg]
  rfl
theorem mem_joinL {S : List Nat} {c : Nat} : ∀ {ps : List (List Nat)}, c ∈ joinL S ps → c ∈ S ∨ ∃ p ∈ ps, c ∈ p
  | [], h => by cases h
  | [p], h => .inr ⟨p, List.mem_cons_self, h⟩
  | p :: q :: r, h => by
    have h : c ∈ p ++ (S ++ joinL S (q :: r)) := h
    rcases List.mem_append.mp h with h | h
    · exact .inr ⟨p, List.mem_cons_self, h⟩
    · rcases List.mem_append.mp h with h | h
      · exact .inl h
      · rcases mem_joinL h with h | ⟨z, hz, h⟩
        · exact .inl h
        · exact .inr ⟨z, List.mem_cons_of_mem _ hz, h⟩
theorem len_joinL {S : List Nat} {m : Nat} (hS : S.length ≤ 1) : ∀ {ps : List (List Nat)}, (∀ p ∈ ps, p.length ≤ m) → (joinL S ps).length ≤ ps.length * (m + 1)
  | [], _ => by simp [joinL]
  | [p], h => by
    have := h p List.mem_cons_self
    show p.length ≤ (0 + 1) * (m + 1)
    omega
  | p :: q :: r, h => by
    have h1 := h p List.mem_cons_self
    have h2 := len_joinL hS (ps := q :: r) fun z hz => h z (List.mem_cons_of_mem _ hz)
    show (p ++ (S ++ joinL S (q :: r))).length ≤ ((q :: r).length + 1) * (m + 1)
    rw [List.length_append, List.length_append, Nat.add_mul]
    omega
theorem sum_le {m : Nat} : ∀ {l : List Nat}, (∀ x ∈ l, x ≤ m) → l.sum ≤ l.length * m
  | [], _ => by simp
  | x :: l, h => by
    have h1 := h x List.mem_cons_self
    have h2 := sum_le (l := l) fun z hz => h z (List.mem_cons_of_mem _ hz)
    rw [List.sum_cons, List.length_cons, Nat.add_mul]
    omega
def Q4.tx (q : Q4) : Prop := sm64 q.a ∧ sm64 q.b ∧ sm64 q.c ∧ sm64 q.d
theorem Q4.tx.mem {q : Q4} (h : q.tx) : ∀ x ∈ q.l, sm64 x := by
  obtain ⟨h1, h2, h3, h4⟩ := h
  intro x hm
  simp only [Q4.l, List.mem_cons, List.mem_nil_iff, or_false] at hm
  rcases hm with rfl | rfl | rfl | rfl <;> assumption
def lineS (w : Str) (q : Q4) : Str := Txt.join " " (w :: q.l.map shS)
def linesS (row : List Q4) (u : Q4) : List Str := ("row" : Str) :: (row.map (lineS "factor") ++ [lineS "unit" u])
def rowT (row : List Q4) (u : Q4) : Str := Txt.join "\n" (linesS row u)
theorem tl_sp : tl (" " : Str) = [32] := by decide +kernel
theorem tl_nl : tl ("\n" : Str) = [10] := by decide +kernel
structure WordOk (w : Str) : Prop where
  sp : 32 ∉ tl w
  nl : 10 ∉ tl w
  len : (tl w).length ≤ 10
theorem wFactor : WordOk "factor" := ⟨by decide +kernel, by decide +kernel, by decide +kernel⟩
theorem wUnit : WordOk "unit" := ⟨by decide +kernel, by decide +kernel, by decide +kernel⟩
theorem tl_line (w : Str) (q : Q4) : tl (lineS w q) = joinL [32] (tl w :: q.l.map shL) := by
  unfold lineS
  rw [join_eq, tl_join, tl_sp, List.map_cons, List.map_map]
  rfl
theorem line_len {w : Str} {q : Q4} (hw : WordOk w) (hq : q.tx) : (tl (lineS w q)).length ≤ 55 := by
  rw [tl_line]
  have := len_joinL (S := [32]) (m := 10) (Nat.le_refl _) (ps := tl w :: q.l.map shL) fun p hp => by
    rcases List.mem_cons.mp hp with rfl | hp
    · exact hw.len
    · obtain ⟨x, hx, rfl⟩ := List.mem_map.mp hp
      have := (sh_of (hq.mem x hx)).2.2.1
      omega
  exact this
theorem line_nl {w : Str} {q : Q4} (hw : WordOk w) (hq : q.tx) : 10 ∉ tl (lineS w q) := by
  rw [tl_line]
  intro h
  rcases mem_joinL h with h | ⟨p, hp, h⟩
  · simp at h
  · rcases List.mem_cons.mp hp with rfl | hp
    · exact hw.nl h
    · obtain ⟨x, hx, rfl⟩ := List.mem_map.mp hp
      exact (sh_of (hq.mem x hx)).2.1 h
theorem line_split {w : Str} {q : Q4} (hw : WordOk w) (hq : q.tx) : Txt.split (lineS w q) " " = w :: q.l.map shS := by
  refine split_join tl_sp (by decide +kernel) (by simp) fun p hp => ?_
  rcases List.mem_cons.mp hp with rfl | hp
  · exact hw.sp
  · obtain ⟨x, hx, rfl⟩ := List.mem_map.mp hp
    exact (sh_of (hq.mem x hx)).1
theorem mem_lines {row : List Q4} {u : Q4} {p : Str} (h : p ∈ linesS row u) : p = "row" ∨ (∃ q ∈ row, p = lineS "factor" q) ∨ p = lineS "unit" u := by
  rcases List.mem_cons.mp h with h | h
  · exact .inl h
  · rcases List.mem_append.mp h with h | h
    · obtain ⟨q, hq, rfl⟩ := List.mem_map.mp h
      exact .inr (.inl ⟨q, hq, rfl⟩)
    · exact .inr (.inr (List.mem_singleton.mp h))
theorem rowT_split {row : List Q4} {u : Q4} (hr : ∀ q ∈ row, q.tx) (hu : u.tx) : Txt.split (rowT row u) "\n" = linesS row u := by
  refine split_join tl_nl (by decide +kernel) (by unfold linesS; simp) fun p hp => ?_
  rcases mem_lines hp with rfl | ⟨q, hq, rfl⟩ | rfl
  · decide +kernel
  · exact line_nl wFactor (hr q hq)
  · exact line_nl wUnit hu
theorem lines_len {row : List Q4} {u : Q4} (hr : ∀ q ∈ row, q.tx) (hu : u.tx) : ∀ p ∈ linesS row u, p.length ≤ 55 := fun p hp => by
  rw [len_tl]
  rcases mem_lines hp with rfl | ⟨q, hq, rfl⟩ | rfl
  · decide +kernel
  · exact line_len wFactor (hr q hq)
  · exact line_len wUnit hu
theorem rowT_len {row : List Q4} {u : Q4} (hr : ∀ q ∈ row, q.tx) (hu : u.tx) (hl : row.length ≤ 100) : (rowT row u).length + 2 ≤ 100000 := by
  unfold rowT
  rw [len_tl, join_eq, tl_join, tl_nl]
  have := len_joinL (S := [10]) (m := 55) (Nat.le_refl _) (ps := (linesS row u).map tl) fun p hp => by
    obtain ⟨z, hz, rfl⟩ := List.mem_map.mp hp
    have := lines_len hr hu z hz
    rw [len_tl] at this
    exact this
  have e : (linesS row u).length = row.length + 2 := by
    unfold linesS
    simp
  rw [List.length_map, e] at this
  have h2 : (row.length + 2) * (55 + 1) ≤ 102 * 56 := Nat.mul_le_mul (by omega) (by omega)
  omega
theorem join_fit {a : Str} {ys : List Str} {m : Nat} (ha : a.length ≤ 1) (h : ∀ p ∈ ys, p.length ≤ m) (hm : ys.length * (m + 1) ≤ 16777216) : (ys.map (·.length)).sum + ys.length * a.length ≤ 16777216 := by
  have h1 := sum_le (m := m) (l := ys.map (·.length)) fun x hx => by
    obtain ⟨z, hz, rfl⟩ := List.mem_map.mp hx
    exact h z hz
  rw [List.length_map] at h1
  have h2 : ys.length * a.length ≤ ys.length * 1 := Nat.mul_le_mul_left _ ha
  rw [Nat.mul_add] at hm
  omega
end TP

/-! primes of an integer, rows. -/
namespace TP
open PySem L2 PySem.Spec PyProof.Rows
local macro_rules | `(tactic| walk_at "ev1") => `(tactic| first
  | with_reducible exact e_int
  | with_reducible exact e_str
  | with_reducible exact e_bl
  | with_reducible exact e_non
  | ((with_reducible apply e_var); exact rfl)
  | with_reducible apply e_op
  | with_reducible apply e_un
  | with_reducible apply e_call
  | with_reducible apply e_cb
  | with_reducible apply e_tup
  | with_reducible apply e_sl
  | with_reducible apply e_chain
  | with_reducible apply e_and
  | with_reducible apply e_or
  | with_reducible apply e_rev
  | with_reducible apply e_lst
  | exact Nat.le_of_ble_eq_true rfl
  | with_reducible exact p_none
  | with_reducible apply p_some
  | with_reducible exact a_nil
  | with_reducible apply a_cons
  | with_reducible apply t_b
  | with_reducible apply t_test
  | with_reducible exact t_yes
  | with_reducible apply t_not
  | with_reducible apply t_and
  | with_reducible apply t_or
  | with_reducible exact o_add
  | with_reducible exact o_sub
  | with_reducible apply o_mul
  | with_reducible apply o_div
  | with_reducible apply o_mod
  | with_reducible apply o_pow
  | with_reducible exact o_lt
  | with_reducible exact o_le
  | with_reducible exact o_gt
  | with_reducible exact o_ge
  | with_reducible exact u_neg
  | with_reducible exact o_eqI
  | with_reducible exact o_neI
  | with_reducible exact o_eqS
  | with_reducible exact o_neS
  | with_reducible exact o_neB
  | with_reducible exact o_isN
  | with_reducible exact o_notN
  | with_reducible exact o_isB
  | with_reducible exact o_notB
  | with_reducible exact c_int
  | with_reducible exact c_abs
  | with_reducible exact c_gcd
  | with_reducible exact c_lenL
  | with_reducible exact c_lenT
  | with_reducible exact c_tupL
  | with_reducible exact c_tupT
  | with_reducible exact s_lst
  | with_reducible exact s_tup
  | (refine fun (_ : _ = true) => ?_)
  | (refine fun (_ : _ = false) => ?_))
/-! ### == of nested data -/
def Fl (n : Nat) (d : PyData) : Prop := d.canLay0 = true ∧ d.depth ≤ n
theorem Fl.sh {n : Nat} {d : PyData} (h : Fl n d) (hn : n ≤ 64) : SeqAt.shaped d = true := by
  unfold SeqAt.shaped
  rw [h.1, decide_eq_true (Nat.le_trans h.2 hn)]
  rfl
theorem Fl.int (n : Nat) (i : Int) : Fl n (.int i) := ⟨by simp [PyData.canLay0], by simp [PyData.depth]⟩
theorem Fl.str (n : Nat) (i : Str) (h : PyData.strOk i = true) : Fl n (.str i) := ⟨by simpa [PyData.canLay0] using h, by simp [PyData.depth]⟩
theorem Fl.all {n : Nat} : ∀ {ds : List PyData}, (∀ d ∈ ds, Fl n d) → PyData.canLayAll0 ds = true ∧ PyData.depthAll ds ≤ n
  | [], _ => ⟨by simp [PyData.canLayAll0], by simp [PyData.depthAll]⟩
  | d :: ds, h => by
    obtain ⟨h1, h2⟩ := h d List.mem_cons_self
    obtain ⟨h3, h4⟩ := Fl.all (ds := ds) fun x hx => h x (List.mem_cons_of_mem _ hx)
    exact ⟨by simp [PyData.canLayAll0, h1, h3], by rw [PyData.depthAll]; exact Nat.max_le.mpr ⟨h2, h4⟩⟩
theorem Fl.list {n : Nat} {ds : List PyData} (h : ∀ d ∈ ds, Fl n d) : Fl (n + 1) (.list ds) := by
  obtain ⟨h1, h2⟩ := Fl.all h
  exact ⟨by simpa [PyData.canLay0] using h1, by rw [PyData.depth]; omega⟩
theorem Fl.tuple {n : Nat} {ds : List PyData} (h : ∀ d ∈ ds, Fl n d) : Fl (n + 1) (.tuple ds) := by
  obtain ⟨h1, h2⟩ := Fl.all h
  exact ⟨by simpa [PyData.canLay0] using h1, by rw [PyData.depth]; omega⟩
theorem Fl.map {α : Type} {n : Nat} {f : α → PyData} (h : ∀ a, Fl n (f a)) (l : List α) : ∀ d ∈ l.map f, Fl n d := by
  intro d hd
  obtain ⟨a, _, rfl⟩ := List.mem_map.mp hd
  exact h a
theorem Fl.qd (q : Q4) : Fl 1 (qd q) := Fl.tuple (Fl.map (Fl.int 0) q.l)
theorem eqv_all {α : Type} [DecidableEq α] {f : α → PyData} (h : ∀ a b, PyData.eqv (f a) (f b) = decide (a = b)) : ∀ l m : List α, PyData.eqvAll (l.map f) (m.map f) = decide (l = m)
  | [], [] => by simp [PyData.eqvAll]
  | [], b :: m => by simp [PyData.eqvAll]
  | a :: l, [] => by simp [PyData.eqvAll]
  | a :: l, b :: m => by
    rw [List.map_cons, List.map_cons, PyData.eqvAll, h, eqv_all h l m]
    by_cases h1 : a = b <;> by_cases h2 : l = m <;> simp [h1, h2]
theorem eqv_list {α : Type} [DecidableEq α] {f : α → PyData} (h : ∀ a b, PyData.eqv (f a) (f b) = decide (a = b)) (l m : List α) : PyData.eqv (.list (l.map f)) (.list (m.map f)) = decide (l = m) := by
  rw [PyData.eqv, eqv_all h]
theorem eqv_int (a b : Int) : PyData.eqv (.int a) (.int b) = decide (a = b) := by
  rw [PyData.eqv]
  by_cases h : a = b <;> simp [h]
def pd (z : Int × Int) : PyData := .tuple [.int z.1, .int z.2]
theorem eqv_pd (a b : Int × Int) : PyData.eqv (pd a) (pd b) = decide (a = b) := by
  unfold pd
  rw [PyData.eqv]
  have := eqv_all eqv_int [a.1, a.2] [b.1, b.2]
  simp only [List.map_cons, List.map_nil] at this
  rw [this]
  obtain ⟨a1, a2⟩ := a
  obtain ⟨b1, b2⟩ := b
  by_cases h1 : a1 = b1 <;> by_cases h2 : a2 = b2 <;> simp [h1, h2]
theorem Fl.pd (z : Int × Int) : Fl 1 (pd z) := Fl.tuple (Fl.map (Fl.int 0) [z.1, z.2])
/-! ### mirrors -/
def wpIn : Nat → Int → Int → Int → Option (Int × Int)
  | 0, _, _, _ => none
  | k + 1, v, p, n => if v % p = 0 then wpIn k (v / p) p (n + 1) else some (v, n)
def wpOut : Nat → Int → List (Int × Int) → Int → Option (Int × List (Int × Int))
  | 0, _, _, _ => none
  | k + 1, v, f, p => if p * p ≤ v then (match wpIn 12 v p 0 with
    | none => none
    | some z => wpOut k z.1 (if z.2 > 0 then f ++ [(p, z.2)] else f) (p + if p = 2 then 1 else 2)) else some (v, f)
def wp (v : Int) : Option (List (Int × Int)) := match wpOut 20 v [] 2 with
  | none => none
  | some z => some (z.2 ++ if z.1 > 1 then [(z.1, 1)] else [])
def plist (l : List (Int × Int)) : List Int := l.flatMap fun z => (rng 0 z.2.toNat).map fun _ => z.1
def R_whole : List PyData → PyData → Prop := fun ds d => ∃ (v : Int) (l : List (Int × Int)), ds = [.int v] ∧ 1 ≤ v ∧ v ≤ 10 ^ 12 ∧ wp v = some l ∧ d = .list (l.map pd)
def R_plist : List PyData → PyData → Prop := fun ds d => ∃ (v : Int) (l : List (Int × Int)), ds = [.int v] ∧ 1 ≤ v ∧ v ≤ 10 ^ 12 ∧ wp v = some l ∧ (∀ z ∈ l, 0 ≤ z.2 ∧ z.2 < 64) ∧ (plist l).length ≤ 50000 ∧ d = .list ((plist l).map .int)
def R_order : List PyData → PyData → Prop := fun ds d => ∃ (q : Q4) (ps : List Int) (l : List (Int × Int)), ds = [qd q, .list (ps.map .int)] ∧ q.par ∧ q ≠ ⟨0, 0, 0, 0⟩ ∧ q.sm (2 ^ 60) ∧ 1 ≤ nrm q ∧ nrm q ≤ 10 ^ 12 ∧ wp (nrm q) = some l ∧ (∀ z ∈ l, 0 ≤ z.2 ∧ z.2 < 64) ∧ plist l = ps ∧ ps.length < 64 ∧ ps.Pairwise (· ≤ ·) ∧ d = .none
abbrev Stp := Int × Q4 × Q4
def restAt (q : Q4) (st : List Stp) : Nat → Q4
  | 0 => q
  | i + 1 => (st.getD i (0, q, q)).2.2
def R_row : List PyData → PyData → Prop := fun ds d => ∃ (q : Q4) (st : List Stp), ds = [qd q, .list ((st.map (·.1)).map .int)] ∧ R_order [qd q, .list ((st.map (·.1)).map .int)] .none ∧ R_is_primitive [qd q] (.bool true) ∧
  (∀ (i : Nat) (t : Stp), st[i]? = some t → R_prime [qd (restAt q st i), .int t.1] (qd t.2.1) ∧ R_quotient [qd (restAt q st i), qd t.2.1] (qd t.2.2)) ∧ d = .tuple [.list ((st.map (·.2.1)).map qd), qd (restAt q st st.length)]
def R_canon_prime : List PyData → PyData → Prop := fun ds d => ∃ (q : Q4) (l : List (Int × Int)), ds = [qd q] ∧ q.par ∧ q.sm (2 ^ 60) ∧ q ≠ ⟨0, 0, 0, 0⟩ ∧ 1 < nrm q ∧ nrm q ≤ 10 ^ 12 ∧ wp (nrm q) = some l ∧ d = .bool (decide (best q = q) && decide (l = [(nrm q, 1)]))
theorem c_sortI {K : PySem.W.Frag} {ns : List Int} (hl : ns.length < 64) (hs : ns.Pairwise (· ≤ ·)) : CbE K (rSorted K) [.list (ns.map .int)] (.list (ns.map .int)) := fun F H vs Q s r q => by
  obtain ⟨v, rfl⟩ : ∃ v, vs = [v] := by
    cases r with
    | cons a b => cases b; exact ⟨_, rfl⟩
  have r1 : Rp K F v (.list (ns.map .int)) := by
    cases r with
    | cons a b => exact a
  obtain ⟨a, xs, rfl, ha, hx⟩ := r1.of_lst
  have e := hx.ints
  subst e
  refine ⟨a, ns, rfl, sql_of (s _ _ ha), hl, fun ns' p hp ho hn => ?_⟩
  have e : ns' = ns := List.Perm.eq_of_pairwise (le := (· ≤ ·)) (fun a b _ _ h1 h2 => Int.le_antisymm h1 h2) ho hs hp
  subst e
  exact q _ _ _ (Step.new s hn) (.lst upd_same ((RpL.of_ints ns').up (Ex.new (s.free hn))))
section
variable {P : Program} {w : World} {K : PySem.W.Frag} {mg : Str → Option Value} {base : Heap}
abbrev N_whole_primes : List Str := ["value", "found", "prime", "power"]
theorem sc_whole_primes : FnScope N_whole_primes ["value"] (defScope s_whole_primes) := ⟨rfl, rfl, rfl, by decide +kernel, rfl, by decide +kernel, by decide +kernel⟩
theorem v_whole_primes_value {X : Cx} {pos : Pos} (hN : X.N = N_whole_primes) (hs : X.env.scope = defScope s_whole_primes) : PE X (.Name "value" pos) (tVar 0) := pe_var (by rw [hN]; rfl) (by rw [hs]; exact Or.inl (by decide +kernel)) (by decide +kernel) (by decide +kernel)
theorem v_whole_primes_found {X : Cx} {pos : Pos} (hN : X.N = N_whole_primes) (hs : X.env.scope = defScope s_whole_primes) : PE X (.Name "found" pos) (tVar 1) := pe_var (by rw [hN]; rfl) (by rw [hs]; exact Or.inl (by decide +kernel)) (by decide +kernel) (by decide +kernel)
theorem v_whole_primes_prime {X : Cx} {pos : Pos} (hN : X.N = N_whole_primes) (hs : X.env.scope = defScope s_whole_primes) : PE X (.Name "prime" pos) (tVar 2) := pe_var (by rw [hN]; rfl) (by rw [hs]; exact Or.inl (by decide +kernel)) (by decide +kernel) (by decide +kernel)
theorem v_whole_primes_power {X : Cx} {pos : Pos} (hN : X.N = N_whole_primes) (hs : X.env.scope = defScope s_whole_primes) : PE X (.Name "power" pos) (tVar 3) := pe_var (by rw [hN]; rfl) (by rw [hs]; exact Or.inl (by decide +kernel)) (by decide +kernel) (by decide +kernel)
theorem ok_whole_primes (B : Mg K mg) (D : Dn K mg "whole_primes" s_whole_primes ["value"]) : Cal P w K mg base "whole_primes" 1 ["value"] (spR K R_whole) := by
  have nd := sc_whole_primes.nd
  refine mk_cal D sc_whole_primes (fun ds d h => ?_) (fun cdv A outer s H f E ds d hr h => ?_)
  · obtain ⟨v, l, rfl, _⟩ := h
    rfl
  · obtain ⟨v, l, rfl, h1, h2, hw, rfl⟩ := h
    refine ⟨_, (pss_cons (ps_if (pt_not (pt_chain op_le op_le pe_int (v_whole_primes_value rfl rfl) (pe_gi B.MOST_VALUE))) (pss_one ps_never) pss_nil) (pss_cons (ps_set (i := 1) nd rfl (by first | exact Or.inl rfl | exact Or.inr rfl) (pe_lst pa_nil)) (pss_cons (ps_set (i := 2) nd rfl (by first | exact Or.inl rfl | exact Or.inr rfl) pe_int) (pss_cons (ps_while PassesOwn.never (pt_cmpR op_le (pe_op op_mul (v_whole_primes_prime rfl rfl) (v_whole_primes_prime rfl rfl)) (v_whole_primes_value rfl rfl) (nomark _)) (pss_cons (ps_set (i := 3) nd rfl (by first | exact Or.inl rfl | exact Or.inr rfl) pe_int) (pss_cons (ps_while PassesOwn.never (pt_cmpR op_eq (pe_op op_mod (v_whole_primes_value rfl rfl) (v_whole_primes_prime rfl rfl)) pe_int (nomark _)) (pss_cons (ps_aug (i := 0) nd rfl (by first | exact Or.inl rfl | exact Or.inr rfl) (v_whole_primes_prime rfl rfl) ip_fdiv) (pss_one (ps_aug (i := 3) nd rfl (by first | exact Or.inl rfl | exact Or.inr rfl) pe_int ip_add)))) (pss_cons (ps_if (pt_cmpR op_gt (v_whole_primes_power rfl rfl) pe_int (nomark _)) (pss_one (ps_expr (pe_bm PySem.F.plainAttrs_list PySem.F.slot_list_append PySem.F.type_list_append mt_append (v_whole_primes_found rfl rfl) (pa_cons (pe_tup (pa_cons (v_whole_primes_prime rfl rfl) (pa_cons (v_whole_primes_power rfl rfl) pa_nil))) pa_nil)))) pss_nil) (pss_one (ps_aug (i := 2) nd rfl (by first | exact Or.inl rfl | exact Or.inr rfl) (pe_ifExp (pt_cmpR op_eq (v_whole_primes_prime rfl rfl) pe_int (nomark _)) pe_int pe_int) ip_add)))))) (pss_one (ps_ret (pe_op op_cat (v_whole_primes_found rfl rfl) (pe_ifExp (pt_cmpR op_gt (v_whole_primes_value rfl rfl) pe_int (nomark _)) (pe_lst (pa_cons (pe_tup (pa_cons (v_whole_primes_value rfl rfl) (pa_cons pe_int pa_nil))) pa_nil)) (pe_lst pa_nil))))))))), ?_⟩
    show StE K _ [some (.val (.int v)), none, none, none] _ _
    refine q_when (b := false) ?_ (fun z => nomatch z) fun _ => ?_
    · refine t_is (t_not (t_b (e_chain e_int (e_var rfl) o_le (fun _ => e_int) (fun _ => o_le)))) ?_
      rw [decide_eq_true h1, decide_eq_true h2]
      rfl
    refine q_own (ds := []) (o_lst a_nil (Nat.le_of_ble_eq_true rfl)) ?_
    refine q_asg e_int ?_
    unfold wp at hw
    cases e : wpOut 20 v [] 2 with
    | none =>
      rw [e] at hw
      cases hw
    | some z =>
      rw [e] at hw
      cases hw
      obtain ⟨v', f'⟩ := z
      refine q_while (fun m env => ∃ (u : Int) (g : List (Int × Int)) (p : Int) (x : Option Bd), wpOut m u g p = some (v', f') ∧ 2 ≤ p ∧ p + 2 * m ≤ 100 ∧ g.length + m ≤ 100 ∧ env = [some (.val (.int u)), some (.own (g.map pd)), some (.val (.int p)), x]) 20 ⟨v, [], 2, none, e, by decide, by decide, by decide, rfl⟩ ?_
      rintro m e ⟨u, g, p, x, hm, p1, p2, g1, rfl⟩
      cases m with
      | zero => cases hm
      | succ m =>
        refine ⟨_, t_test (e_op (e_op (e_var rfl) (e_var rfl) (o_mul (cml ⟨by omega, by omega⟩))) (e_var rfl) o_le), fun hb => ?_, fun hb => ?_⟩
        · unfold wpOut at hm
          rw [if_pos (of_decide_eq_true hb)] at hm
          cases ei : wpIn 12 u p 0 with
          | none =>
            rw [ei] at hm
            cases hm
          | some z =>
            rw [ei] at hm
            obtain ⟨u', n'⟩ := z
            have hm : wpOut m u' (if n' > 0 then g ++ [(p, n')] else g) (p + if p = 2 then 1 else 2) = some (v', f') := hm
            refine q_asg (e_int (i := 0)) ?_
            show StE K _ [some (.val (.int u)), some (.own (g.map pd)), some (.val (.int p)), some (.val (.int 0))] _ _
            refine q_while (fun k env => ∃ (w n : Int), wpIn k w p n = some (u', n') ∧ env = [some (.val (.int w)), some (.own (g.map pd)), some (.val (.int p)), some (.val (.int n))]) 12 ⟨u, 0, ei, rfl⟩ ?_
            rintro k e ⟨w, n, hk, rfl⟩
            cases k with
            | zero => cases hk
            | succ k =>
              refine ⟨_, t_test (e_op (e_op (e_var rfl) (e_var rfl) (o_mod (by omega))) e_int o_eqI), fun hc => ?_, fun hc => ?_⟩
              · unfold wpIn at hk
                rw [if_pos (of_decide_eq_true hc)] at hk
                refine q_div rfl (e_var rfl) ⟨by omega, by omega⟩ ?_
                exact st_aug rfl e_int ⟨k, Nat.lt_succ_self k, w / p, n + 1, hk, rfl⟩
              · unfold wpIn at hk
                rw [if_neg (of_decide_eq_false hc)] at hk
                cases hk
                refine q_if (b := decide (n' > 0)) (t_test (e_op (e_var rfl) e_int o_gt)) (fun hd => ?_) fun hd => ?_
                · rw [if_pos (of_decide_eq_true hd)] at hm
                  refine q_app rfl (d := pd (p, n')) (e_tup (a_cons (e_var rfl) (a_cons (e_var rfl) a_nil)) (Nat.le_of_ble_eq_true rfl)) (by rw [List.length_map]; omega) ?_
                  refine st_aug rfl (b := if p = 2 then 1 else 2) (e_if (t_test (e_op (e_var rfl) e_int o_eqI)) (fun he => ?_) fun he => ?_) ⟨m, Nat.lt_succ_self m, u', g ++ [(p, n')], p + if p = 2 then 1 else 2, some (.val (.int n')), hm, ?_, ?_, ?_, ?_⟩
                  · rw [if_pos (of_decide_eq_true he)]
                    exact e_int
                  · rw [if_neg (of_decide_eq_false he)]
                    exact e_int
                  · split <;> omega
                  · split <;> omega
                  · rw [List.length_append, List.length_singleton]
                    omega
                  · rw [List.map_append]
                    rfl
                · rw [if_neg (of_decide_eq_false hd)] at hm
                  refine q_next ?_
                  refine st_aug rfl (b := if p = 2 then 1 else 2) (e_if (t_test (e_op (e_var rfl) e_int o_eqI)) (fun he => ?_) fun he => ?_) ⟨m, Nat.lt_succ_self m, u', g, p + if p = 2 then 1 else 2, _, hm, ?_, ?_, ?_, rfl⟩
                  · rw [if_pos (of_decide_eq_true he)]
                    exact e_int
                  · rw [if_neg (of_decide_eq_false he)]
                    exact e_int
                  · split <;> omega
                  · split <;> omega
                  · omega
        · unfold wpOut at hm
          rw [if_neg (of_decide_eq_false hb)] at hm
          cases hm
          refine st_frz 1 rfl ?_
          show StE K _ [some (.val (.int v')), some (.val (.list (f'.map pd))), some (.val (.int p)), x] _ _
          refine st_ret (e_op (e_var rfl) (e_if (d := .list ((if v' > 1 then [(v', 1)] else []).map pd)) (t_test (e_op (e_var rfl) e_int o_gt)) (fun he => ?_) fun he => ?_) (o_cat ?_)) ?_
          · rw [if_pos (of_decide_eq_true he)]
            exact e_lst (a_cons (e_tup (a_cons (e_var rfl) (a_cons e_int a_nil)) (Nat.le_of_ble_eq_true rfl)) a_nil) (Nat.le_of_ble_eq_true rfl)
          · rw [if_neg (of_decide_eq_false he)]
            exact e_lst a_nil (Nat.le_of_ble_eq_true rfl)
          · rw [List.length_map, List.length_map]
            split <;> simp only [List.length_cons, List.length_nil] <;> omega
          · rw [List.map_append]
abbrev N_prime_list : List Str := ["value", "prime", "power", "_"]
theorem sc_prime_list : FnScope N_prime_list ["value"] (defScope s_prime_list) := ⟨rfl, rfl, rfl, by decide +kernel, rfl, by decide +kernel, by decide +kernel⟩
theorem v_prime_list_value {X : Cx} {pos : Pos} (hN : X.N = N_prime_list) (hs : X.env.scope = defScope s_prime_list) : PE X (.Name "value" pos) (tVar 0) := pe_var (by rw [hN]; rfl) (by rw [hs]; exact Or.inl (by decide +kernel)) (by decide +kernel) (by decide +kernel)
theorem ok_prime_list (B : Mg K mg) (C_whole_primes : Cal P w K mg base "whole_primes" 1 ["value"] (spR K R_whole)) (D : Dn K mg "prime_list" s_prime_list ["value"]) : Cal P w K mg base "prime_list" 2 ["value"] (spR K R_plist) := by
  have nd := sc_prime_list.nd
  refine mk_cal D sc_prime_list (fun ds d h => ?_) (fun cdv A outer s H f E ds d hr h => ?_)
  · obtain ⟨v, l, rfl, _⟩ := h
    rfl
  · obtain ⟨v, l, rfl, h1, h2, hw, hz, hl, rfl⟩ := h
    refine ⟨_, (pss_one (ps_ret (pe_lcN (own := [("prime", 1), ("power", 2), ("_", 3)]) (vs1 := [3]) (g := (gTup K 2 (gCons (gName 1) (gCons (gName 2) gNil)))) rfl nd (w_pil (K := K) (pe_c C_whole_primes (hr.mono (by decide)) (pa_cons (v_prime_list_value rfl rfl) pa_nil))) (blkOk_by (own := [("prime", 1), ("power", 2), ("_", 3)]) (N := N_prime_list) (sc := defScope s_prime_list) (by decide +kernel)) (by decide) (fun _ _ _ => by rfl) (fun _ _ _ _ _ => (w_gtup (K := K) rfl (pgs_cons (pg_name (i := 1) nd rfl (by first | exact Or.inl rfl | exact Or.inr rfl)) (pgs_cons (pg_name (i := 2) nd rfl (by first | exact Or.inl rfl | exact Or.inr rfl)) pgs_nil)))) (fun _ _ _ _ _ => pts_nil) (fun _ => fun _ _ _ _ _ => (runs_last (vs := [3]) rfl rfl (start_eq (k := 1) rfl rfl) (fun _ _ _ => by rfl) (pi_range1 rfl B.range (pa_cons (pv 2) pa_nil)) (pg_name (i := 3) nd rfl (by first | exact Or.inl rfl | exact Or.inr rfl)) pts_nil (pv 1)))))), ?_⟩
    show StE K _ [some (.val (.int v)), none, none, none] _ _
    have e : (plist l).map PyData.int = l.flatMap fun z => (rng 0 z.2.toNat).flatMap fun _ => [PyData.int z.1] := by
      unfold plist
      rw [List.map_flatMap]
      congr 1
      funext z
      rw [List.map_map]
      induction (rng 0 z.2.toNat) with
      | nil => rfl
      | cons a b ih =>
        rw [List.map_cons, List.flatMap_cons, ← ih]
        rfl
    rw [e]
    refine st_ret (e_own (c_lcN l pd (fun z => (rng 0 z.2.toNat).flatMap fun _ => [.int z.1]) rfl (i_list (e_call (a_cons (e_var rfl) a_nil) ⟨v, l, rfl, h1, h2, hw, rfl⟩)) (by rw [← e, List.length_map]; exact hl) fun D i z hi => ⟨_, g_tup rfl (gs_cons g_name (gs_cons g_name gs_nil)), ?_⟩)) rfl
    have hz2 := hz z (List.mem_of_getElem? hi)
    refine b_in (rng 0 z.2.toNat) .int (fun _ => [.int z.1]) rfl (i_rng1 (n := z.2) (a_cons (e_var rfl) a_nil) (by omega) (by omega)) fun j a ha => ⟨_, g_name, b_emit (e_var rfl)⟩
abbrev N_check_order : List Str := ["number", "primes"]
theorem sc_check_order : FnScope N_check_order ["number", "primes"] (defScope s_check_order) := ⟨rfl, rfl, rfl, by decide +kernel, rfl, by decide +kernel, by decide +kernel⟩
theorem v_check_order_number {X : Cx} {pos : Pos} (hN : X.N = N_check_order) (hs : X.env.scope = defScope s_check_order) : PE X (.Name "number" pos) (tVar 0) := pe_var (by rw [hN]; rfl) (by rw [hs]; exact Or.inl (by decide +kernel)) (by decide +kernel) (by decide +kernel)
theorem v_check_order_primes {X : Cx} {pos : Pos} (hN : X.N = N_check_order) (hs : X.env.scope = defScope s_check_order) : PE X (.Name "primes" pos) (tVar 1) := pe_var (by rw [hN]; rfl) (by rw [hs]; exact Or.inl (by decide +kernel)) (by decide +kernel) (by decide +kernel)
theorem ok_check_order (B : Mg K mg) (C_check_not_zero : Cal P w K mg base "check_not_zero" 3 ["number"] (spR K R_check_not_zero)) (C_norm : Cal P w K mg base "norm" 3 ["number"] (spR K R_norm)) (C_prime_list : Cal P w K mg base "prime_list" 2 ["value"] (spR K R_plist)) (D : Dn K mg "check_order" s_check_order ["number", "primes"]) : Cal P w K mg base "check_order" 4 ["number", "primes"] (spR K R_order) := by
  have nd := sc_check_order.nd
  refine mk_cal D sc_check_order (fun ds d h => ?_) (fun cdv A outer s H f E ds d hr h => ?_)
  · obtain ⟨q, ps, l, rfl, _⟩ := h
    rfl
  · obtain ⟨q, ps, l, rfl, hp, h0, hs, n1, n2, hw, hz, e, hl, ho, rfl⟩ := h
    refine ⟨_, (pss_cons (ps_expr (pe_c C_check_not_zero (hr.mono (by decide)) (pa_cons (v_check_order_number rfl rfl) pa_nil))) (pss_one (ps_if (PW.pt (pw_or (pt_cmpR op_gt (pe_c C_norm (hr.mono (by decide)) (pa_cons (v_check_order_number rfl rfl) pa_nil)) (pe_gi B.MOST_VALUE) (nomark _)) (pw_or1 (pt_cmpR (w_neD (K := K) hr.units) (pe_callB (w_sorted (K := K)) (by rfl) B.sorted (by decide +kernel) (pa_cons (v_check_order_primes rfl rfl) pa_nil)) (pe_c C_prime_list (hr.mono (by decide)) (pa_cons (pe_c C_norm (hr.mono (by decide)) (pa_cons (v_check_order_number rfl rfl) pa_nil)) pa_nil)) (nomark _))))) (pss_one ps_never) pss_nil))), ?_⟩
    have en : ∀ env : En, env[0]? = some (some (.val (qd q))) → EvE K (tCall (spR K R_norm) [] E0 (tCons (tVar 0) tNil)) env (.int (nrm q)) := fun env he => e_call (a_cons (e_var he) a_nil) ⟨q, rfl, hp, hs, rfl⟩
    have el : PyData.eqv (.list (ps.map .int)) (.list (ps.map .int)) = true := by rw [eqv_list eqv_int]; exact decide_eq_true rfl
    have sh : SeqAt.shaped (.list (ps.map .int)) = true := (Fl.list (Fl.map (Fl.int 0) ps)).sh (by decide)
    refine q_drop (e_call (a_cons (e_var rfl) a_nil) ⟨q, .inl rfl, hp, h0, rfl⟩) ?_
    refine st_if (b := false) (t_is (t_or (t_test (e_op (en _ rfl) (e_int) o_gt)) fun _ => t_test (e_op (e_cb (a_cons (e_var rfl) a_nil) (c_sortI hl ho)) (e_call (a_cons (en _ rfl) a_nil) ⟨nrm q, l, rfl, n1, n2, hw, hz, by rw [e]; omega, by rw [e]⟩) (o_neD sh sh))) ?_) (fun z => nomatch z) fun _ => st_next rfl
    rw [el, decide_eq_false (show ¬ nrm q > 10 ^ 12 by omega)]
    rfl
abbrev N_row_of : List Str := ["number", "primes", "rest", "row", "prime", "factor"]
theorem sc_row_of : FnScope N_row_of ["number", "primes"] (defScope s_row_of) := ⟨rfl, rfl, rfl, by decide +kernel, rfl, by decide +kernel, by decide +kernel⟩
theorem v_row_of_number {X : Cx} {pos : Pos} (hN : X.N = N_row_of) (hs : X.env.scope = defScope s_row_of) : PE X (.Name "number" pos) (tVar 0) := pe_var (by rw [hN]; rfl) (by rw [hs]; exact Or.inl (by decide +kernel)) (by decide +kernel) (by decide +kernel)
theorem v_row_of_primes {X : Cx} {pos : Pos} (hN : X.N = N_row_of) (hs : X.env.scope = defScope s_row_of) : PE X (.Name "primes" pos) (tVar 1) := pe_var (by rw [hN]; rfl) (by rw [hs]; exact Or.inl (by decide +kernel)) (by decide +kernel) (by decide +kernel)
theorem v_row_of_rest {X : Cx} {pos : Pos} (hN : X.N = N_row_of) (hs : X.env.scope = defScope s_row_of) : PE X (.Name "rest" pos) (tVar 2) := pe_var (by rw [hN]; rfl) (by rw [hs]; exact Or.inl (by decide +kernel)) (by decide +kernel) (by decide +kernel)
theorem v_row_of_row {X : Cx} {pos : Pos} (hN : X.N = N_row_of) (hs : X.env.scope = defScope s_row_of) : PE X (.Name "row" pos) (tVar 3) := pe_var (by rw [hN]; rfl) (by rw [hs]; exact Or.inl (by decide +kernel)) (by decide +kernel) (by decide +kernel)
theorem v_row_of_prime {X : Cx} {pos : Pos} (hN : X.N = N_row_of) (hs : X.env.scope = defScope s_row_of) : PE X (.Name "prime" pos) (tVar 4) := pe_var (by rw [hN]; rfl) (by rw [hs]; exact Or.inl (by decide +kernel)) (by decide +kernel) (by decide +kernel)
theorem v_row_of_factor {X : Cx} {pos : Pos} (hN : X.N = N_row_of) (hs : X.env.scope = defScope s_row_of) : PE X (.Name "factor" pos) (tVar 5) := pe_var (by rw [hN]; rfl) (by rw [hs]; exact Or.inl (by decide +kernel)) (by decide +kernel) (by decide +kernel)
theorem ok_row_of (B : Mg K mg) (C_check_order : Cal P w K mg base "check_order" 4 ["number", "primes"] (spR K R_order)) (C_is_primitive : Cal P w K mg base "is_primitive" 5 ["number"] (spR K R_is_primitive)) (C_left_prime : Cal P w K mg base "left_prime" 8 ["number", "prime"] (spR K R_prime)) (C_left_quotient : Cal P w K mg base "left_quotient" 6 ["number", "divisor"] (spR K R_quotient)) (D : Dn K mg "row_of" s_row_of ["number", "primes"]) : Cal P w K mg base "row_of" 9 ["number", "primes"] (spR K R_row) := by
  have nd := sc_row_of.nd
  refine mk_cal D sc_row_of (fun ds d h => ?_) (fun cdv A outer s H f E ds d hr h => ?_)
  · obtain ⟨q, st, rfl, _⟩ := h
    rfl
  · obtain ⟨q, st, rfl, ho, hpr, hch, rfl⟩ := h
    refine ⟨_, (pss_cons (ps_expr (pe_c C_check_order (hr.mono (by decide)) (pa_cons (v_row_of_number rfl rfl) (pa_cons (v_row_of_primes rfl rfl) pa_nil)))) (pss_cons (ps_if (pt_not (pt_val (pe_c C_is_primitive (hr.mono (by decide)) (pa_cons (v_row_of_number rfl rfl) pa_nil)))) (pss_one ps_never) pss_nil) (pss_cons (ps_set (i := 2) nd rfl (by first | exact Or.inl rfl | exact Or.inr rfl) (pe_callTy (w_tuple (K := K)) (by rfl) B.tuple (by decide +kernel) (pa_cons (v_row_of_number rfl rfl) pa_nil))) (pss_cons (ps_set (i := 3) nd rfl (by first | exact Or.inl rfl | exact Or.inr rfl) (pe_lst pa_nil)) (pss_cons (ps_for PassesOwn.never rfl (w_pil (K := K) (v_row_of_primes rfl rfl)) (pg_name (i := 4) nd rfl (by first | exact Or.inl rfl | exact Or.inr rfl)) (pss_cons (ps_set (i := 5) nd rfl (by first | exact Or.inl rfl | exact Or.inr rfl) (pe_c C_left_prime (hr.mono (by decide)) (pa_cons (v_row_of_rest rfl rfl) (pa_cons (v_row_of_prime rfl rfl) pa_nil)))) (pss_cons (ps_expr (pe_bm PySem.F.plainAttrs_list PySem.F.slot_list_append PySem.F.type_list_append mt_append (v_row_of_row rfl rfl) (pa_cons (v_row_of_factor rfl rfl) pa_nil))) (pss_one (ps_set (i := 2) nd rfl (by first | exact Or.inl rfl | exact Or.inr rfl) (pe_c C_left_quotient (hr.mono (by decide)) (pa_cons (v_row_of_rest rfl rfl) (pa_cons (v_row_of_factor rfl rfl) pa_nil)))))))) (pss_one (ps_ret (pe_tup (pa_cons (v_row_of_row rfl rfl) (pa_cons (v_row_of_rest rfl rfl) pa_nil)))))))))), ?_⟩
    have hlen : st.length < 64 := by
      obtain ⟨q', ps, l, e, _, _, _, _, _, _, _, _, hl, _⟩ := ho
      have e2 := congrArg (fun z => match z with | [_, PyData.list x] => x.length | _ => 0) e
      simp only [List.length_map] at e2
      omega
    show StE K _ [some (.val (qd q)), some (.val (.list ((st.map (·.1)).map .int))), none, none, none, none] _ _
    refine q_drop (e_call (a_cons (e_var rfl) (a_cons (e_var rfl) a_nil)) ho) ?_
    refine q_when (b := false) (t_is (t_not (t_b (e_call (a_cons (e_var rfl) a_nil) hpr))) rfl) (fun z => nomatch z) fun _ => ?_
    refine q_asg (d := qd q) (e_cb (a_cons (e_var rfl) a_nil) c_tupT) ?_
    refine q_own (ds := []) (o_lst a_nil (Nat.le_of_ble_eq_true rfl)) ?_
    refine q_for (vs := [4]) (i_list (e_var rfl)) (fun i env => ∃ x y, i ≤ st.length ∧ env = [some (.val (qd q)), some (.val (.list ((st.map (·.1)).map .int))), some (.val (qd (restAt q st i))), some (.own (((st.take i).map (·.2.1)).map qd)), x, y]) ⟨none, none, Nat.zero_le _, rfl⟩ ?_ ?_
    · rintro i d e hd ⟨x, y, hi, rfl⟩
      obtain ⟨p, hp, rfl⟩ := map_at hd
      rw [List.getElem?_map] at hp
      cases et : st[i]? with
      | none =>
        rw [et] at hp
        cases hp
      | some t =>
        rw [et] at hp
        cases hp
        obtain ⟨k1, k2⟩ := hch i t et
        have hlt : i < st.length := (List.getElem?_eq_some_iff.mp et).1
        refine ⟨_, g_name, ?_⟩
        show StE K _ [some (.val (qd q)), some (.val (.list ((st.map (·.1)).map .int))), some (.val (qd (restAt q st i))), some (.own (((st.take i).map (·.2.1)).map qd)), some (.val (.int t.1)), y] _ _
        refine q_asg (e_call (a_cons (e_var rfl) (a_cons (e_var rfl) a_nil)) k1) ?_
        refine q_app rfl (e_var rfl) (by rw [List.length_map, List.length_map, List.length_take]; omega) ?_
        refine st_asg (e_call (a_cons (e_var rfl) (a_cons (e_var rfl) a_nil)) k2) ⟨some (.val (.int t.1)), some (.val (qd t.2.1)), hlt, ?_⟩
        have er : restAt q st (i + 1) = t.2.2 := by
          show (st.getD i (0, q, q)).2.2 = _
          rw [List.getD_eq_getElem?_getD, et]
          rfl
        rw [er, take_snoc et, List.map_append, List.map_append]
        rfl
    · rintro e ⟨x, y, hi, rfl⟩
      rw [List.length_map, List.length_map, List.take_length]
      refine st_frz 3 rfl ?_
      exact st_ret (e_tup (a_cons (e_var rfl) (a_cons (e_var rfl) a_nil)) (Nat.le_of_ble_eq_true rfl)) rfl
abbrev N_is_canonical_prime : List Str := ["number", "value"]
theorem sc_is_canonical_prime : FnScope N_is_canonical_prime ["number"] (defScope s_is_canonical_prime) := ⟨rfl, rfl, rfl, by decide +kernel, rfl, by decide +kernel, by decide +kernel⟩
theorem v_is_canonical_prime_number {X : Cx} {pos : Pos} (hN : X.N = N_is_canonical_prime) (hs : X.env.scope = defScope s_is_canonical_prime) : PE X (.Name "number" pos) (tVar 0) := pe_var (by rw [hN]; rfl) (by rw [hs]; exact Or.inl (by decide +kernel)) (by decide +kernel) (by decide +kernel)
theorem v_is_canonical_prime_value {X : Cx} {pos : Pos} (hN : X.N = N_is_canonical_prime) (hs : X.env.scope = defScope s_is_canonical_prime) : PE X (.Name "value" pos) (tVar 1) := pe_var (by rw [hN]; rfl) (by rw [hs]; exact Or.inl (by decide +kernel)) (by decide +kernel) (by decide +kernel)
theorem ok_is_canonical_prime (B : Mg K mg) (C_norm : Cal P w K mg base "norm" 3 ["number"] (spR K R_norm)) (C_canonical : Cal P w K mg base "canonical" 5 ["number"] (spR K R_canonical)) (C_whole_primes : Cal P w K mg base "whole_primes" 1 ["value"] (spR K R_whole)) (D : Dn K mg "is_canonical_prime" s_is_canonical_prime ["number"]) : Cal P w K mg base "is_canonical_prime" 6 ["number"] (spR K R_canon_prime) := by
  have nd := sc_is_canonical_prime.nd
  refine mk_cal D sc_is_canonical_prime (fun ds d h => ?_) (fun cdv A outer s H f E ds d hr h => ?_)
  · obtain ⟨q, l, rfl, _⟩ := h
    rfl
  · obtain ⟨q, l, rfl, hp, hs, h0, n1, n2, hw, rfl⟩ := h
    refine ⟨_, (pss_cons (ps_set (i := 1) nd rfl (by first | exact Or.inl rfl | exact Or.inr rfl) (pe_c C_norm (hr.mono (by decide)) (pa_cons (v_is_canonical_prime_number rfl rfl) pa_nil))) (pss_cons (ps_if (PW.pt (pw_or (pt_not (pt_chain op_lt op_le pe_int (v_is_canonical_prime_value rfl rfl) (pe_gi B.MOST_NORM))) (pw_or1 (pt_cmpR (w_neD (K := K) hr.units) (pe_c C_canonical (hr.mono (by decide)) (pa_cons (v_is_canonical_prime_number rfl rfl) pa_nil)) (pe_callTy (w_tuple (K := K)) (by rfl) B.tuple (by decide +kernel) (pa_cons (v_is_canonical_prime_number rfl rfl) pa_nil)) (nomark _))))) (pss_one (ps_ret pe_bl)) pss_nil) (pss_one (ps_ret (pe_cmpR (w_eqD (K := K) hr.units) (pe_c C_whole_primes (hr.mono (by decide)) (pa_cons (v_is_canonical_prime_value rfl rfl) pa_nil)) (pe_lst (pa_cons (pe_tup (pa_cons (v_is_canonical_prime_value rfl rfl) (pa_cons pe_int pa_nil))) pa_nil)) (nomark _)))))), ?_⟩
    show StE K _ [some (.val (qd q)), none] _ _
    refine q_asg (e_call (a_cons (e_var rfl) a_nil) ⟨q, rfl, hp, hs, rfl⟩) ?_
    show StE K _ [some (.val (qd q)), some (.val (.int (nrm q)))] _ _
    refine q_when (b := !decide (best q = q)) ?_ (fun hb => ?_) fun hb => ?_
    · refine t_is (t_or (t_not (t_b (e_chain e_int (e_var rfl) o_lt (fun _ => e_int) (fun _ => o_le)))) fun _ => t_test (e_op (e_call (a_cons (e_var rfl) a_nil) ⟨q, rfl, hp, h0, rfl⟩) (e_cb (a_cons (e_var rfl) a_nil) c_tupT) (o_neD (sh_qd _) (sh_qd _)))) ?_
      have e := eqv_qd (best q) q
      unfold qd at e
      unfold qd
      rw [e, decide_eq_true (show (1 : Int) < nrm q from n1), decide_eq_true n2]
      rfl
    · refine st_ret e_bl ?_
      rw [Bool.not_eq_true'] at hb
      rw [hb]
      rfl
    · rw [Bool.not_eq_false'] at hb
      refine st_ret (e_op (e_call (a_cons (e_var rfl) a_nil) ⟨nrm q, l, rfl, by omega, n2, hw, rfl⟩) (e_lst (ds := [(nrm q, 1)].map pd) (a_cons (e_tup (a_cons (e_var rfl) (a_cons e_int a_nil)) (Nat.le_of_ble_eq_true rfl)) a_nil) (Nat.le_of_ble_eq_true rfl)) (o_eqD ((Fl.list (Fl.map Fl.pd _)).sh (by decide)) ((Fl.list (Fl.map Fl.pd _)).sh (by decide)))) ?_
      rw [eqv_list eqv_pd, hb]
      rfl
end
end TP

/-! texts. -/
namespace TP
open PySem L2 PySem.Spec PyProof.Rows
local macro_rules | `(tactic| walk_at "ev1") => `(tactic| first
  | with_reducible exact e_int
  | with_reducible exact e_str
  | with_reducible exact e_bl
  | with_reducible exact e_non
  | ((with_reducible apply e_var); exact rfl)
  | with_reducible apply e_op
  | with_reducible apply e_un
  | with_reducible apply e_call
  | with_reducible apply e_cb
  | with_reducible apply e_tup
  | with_reducible apply e_sl
  | with_reducible apply e_chain
  | with_reducible apply e_and
  | with_reducible apply e_or
  | with_reducible apply e_rev
  | with_reducible apply e_lst
  | exact Nat.le_of_ble_eq_true rfl
  | with_reducible exact p_none
  | with_reducible apply p_some
  | with_reducible exact a_nil
  | with_reducible apply a_cons
  | with_reducible apply t_b
  | with_reducible apply t_test
  | with_reducible exact t_yes
  | with_reducible apply t_not
  | with_reducible apply t_and
  | with_reducible apply t_or
  | with_reducible exact o_add
  | with_reducible exact o_sub
  | with_reducible apply o_mul
  | with_reducible apply o_div
  | with_reducible apply o_mod
  | with_reducible apply o_pow
  | with_reducible exact o_lt
  | with_reducible exact o_le
  | with_reducible exact o_gt
  | with_reducible exact o_ge
  | with_reducible exact u_neg
  | with_reducible exact o_eqI
  | with_reducible exact o_neI
  | with_reducible exact o_eqS
  | with_reducible exact o_neS
  | with_reducible exact o_neB
  | with_reducible exact o_isN
  | with_reducible exact o_notN
  | with_reducible exact o_isB
  | with_reducible exact o_notB
  | with_reducible exact c_int
  | with_reducible exact c_abs
  | with_reducible exact c_gcd
  | with_reducible exact c_lenL
  | with_reducible exact c_lenT
  | with_reducible exact c_tupL
  | with_reducible exact c_tupT
  | with_reducible exact s_lst
  | with_reducible exact s_tup
  | (refine fun (_ : _ = true) => ?_)
  | (refine fun (_ : _ = false) => ?_))
def ss (x : Int) : PyData := .str (shS x)
def R_shown0 : List PyData → PyData → Prop := fun ds d => ∃ x : Int, ds = [.int x] ∧ 0 ≤ x ∧ x < 64 ∧ d = ss x
def R_shown : List PyData → PyData → Prop := fun ds d => ∃ x : Int, ds = [.int x] ∧ sm64 x ∧ d = ss x
def R_is_integer : List PyData → PyData → Prop := fun ds d => ∃ x : Int, ds = [ss x] ∧ sm64 x ∧ d = .bool true
def R_line_of : List PyData → PyData → Prop := fun ds d => ∃ (w : Str) (q : Q4), ds = [.str w, qd q] ∧ WordOk w ∧ q.tx ∧ d = .str (lineS w q)
def R_row_text : List PyData → PyData → Prop := fun ds d => ∃ (row : List Q4) (u : Q4), ds = [.list (row.map qd), qd u] ∧ row.length ≤ 100 ∧ (∀ q ∈ row, q.par ∧ q.tx) ∧ u.par ∧ u.tx ∧ d = .str (rowT row u)
def wds (w : Str) (q : Q4) : PyData := .list (.str w :: q.l.map ss)
def R_is_line : List PyData → PyData → Prop := fun ds d => ∃ (h w : Str) (q : Q4), ds = [wds h q, .str w] ∧ q.tx ∧ d = .bool (decide (h = w) && decide q.par)
def R_part_of : List PyData → PyData → Prop := fun ds d => ∃ (h : Str) (q : Q4), ds = [wds h q] ∧ q.tx ∧ d = qd q
def R_parse_row : List PyData → PyData → Prop := fun ds d => ∃ (row : List Q4) (u : Q4), ds = [.str (rowT row u)] ∧ row.length ≤ 100 ∧ (∀ q ∈ row, q.par ∧ q.tx) ∧ u.par ∧ u.tx ∧ d = .tuple [.list (row.map qd), qd u]
def cpQ (q : Q4) : Bool := decide (best q = q) && decide (wp (nrm q) = some [(nrm q, 1)])
def R_check_text : List PyData → PyData → Prop := fun ds d => ∃ (n : Q4) (row : List Q4) (u : Q4), (ds = [qd n, .str (rowT row u)] ∨ ds = [qld n, .str (rowT row u)]) ∧ n.par ∧ n ≠ ⟨0, 0, 0, 0⟩ ∧ row.length ≤ 100 ∧ (∀ q ∈ row, q.par ∧ q.tx ∧ q ≠ ⟨0, 0, 0, 0⟩ ∧ 1 < nrm q ∧ nrm q ≤ 10 ^ 12 ∧ (wp (nrm q)).isSome = true) ∧ u.par ∧ u.tx ∧
  d = .bool (decide (nrm u = 1) && (decide (prodL (row ++ [u]) = n) && row.all cpQ))
theorem tx_sm {q : Q4} (h : q.tx) : q.sm (2 ^ 60) := by
  obtain ⟨⟨a, b⟩, ⟨c, d⟩, ⟨e, f⟩, g, h⟩ := h
  exact ⟨⟨by omega, by omega⟩, ⟨by omega, by omega⟩, ⟨by omega, by omega⟩, ⟨by omega, by omega⟩⟩
theorem at_zero {α : Type} {x : α} {r : List α} : atI (x :: r) 0 = some x := atI_nat (j := 0) rfl
theorem cut_tail {x : PyData} {r : List PyData} : cutD (x :: r) (some 1) none = r := by
  unfold cutD
  have e : HT.sIx (x :: r).length 0 (some 1) = 1 := by
    unfold HT.sIx
    simp only [List.length_cons]
    rw [if_neg (by omega)]
    omega
  rw [e]
  show ((x :: r).drop 1).take ((x :: r).length - 1) = r
  rw [List.drop_succ_cons, List.drop_zero, List.length_cons, Nat.add_sub_cancel, List.take_length]
theorem lines_data {row : List Q4} {u : Q4} (hr : ∀ q ∈ row, q.tx) (hu : u.tx) : (linesS row u).map (fun p => PyData.list ((Txt.split p " ").map .str)) = .list [.str "row"] :: (row.map (wds "factor") ++ [wds "unit" u]) := by
  unfold linesS
  rw [List.map_cons, List.map_append, List.map_map]
  have e0 : Txt.split ("row" : Str) " " = [("row" : Str)] := by
    have h := TL.split_join (y := " ") tl_sp (by decide +kernel) (parts := [("row" : Str)]) (by simp) (by decide +kernel)
    exact h
  have e1 : row.map ((fun p => PyData.list ((Txt.split p " ").map .str)) ∘ lineS "factor") = row.map (wds "factor") := by
    refine List.map_congr_left fun q hq => ?_
    show PyData.list ((Txt.split (lineS "factor" q) " ").map .str) = _
    rw [line_split wFactor (hr q hq)]
    rfl
  rw [e0, e1]
  show _ :: (_ ++ [PyData.list ((Txt.split (lineS "unit" u) " ").map .str)]) = _
  rw [line_split wUnit hu]
  rfl
theorem qmem {q : Q4} {i : Nat} {x : Int} (h : q.tx) (e : q.l[i]? = some x) : sm64 x := h.mem x (List.mem_of_getElem? e)
section
variable {P : Program} {w : World} {K : PySem.W.Frag} {mg : Str → Option Value} {base : Heap}
abbrev N_shown : List Str := ["number", "parts", "rest"]
theorem sc_shown : FnScope N_shown ["number"] (defScope s_shown) := ⟨rfl, rfl, rfl, by decide +kernel, rfl, by decide +kernel, by decide +kernel⟩
theorem v_shown_number {X : Cx} {pos : Pos} (hN : X.N = N_shown) (hs : X.env.scope = defScope s_shown) : PE X (.Name "number" pos) (tVar 0) := pe_var (by rw [hN]; rfl) (by rw [hs]; exact Or.inl (by decide +kernel)) (by decide +kernel) (by decide +kernel)
theorem v_shown_parts {X : Cx} {pos : Pos} (hN : X.N = N_shown) (hs : X.env.scope = defScope s_shown) : PE X (.Name "parts" pos) (tVar 1) := pe_var (by rw [hN]; rfl) (by rw [hs]; exact Or.inl (by decide +kernel)) (by decide +kernel) (by decide +kernel)
theorem v_shown_rest {X : Cx} {pos : Pos} (hN : X.N = N_shown) (hs : X.env.scope = defScope s_shown) : PE X (.Name "rest" pos) (tVar 2) := pe_var (by rw [hN]; rfl) (by rw [hs]; exact Or.inl (by decide +kernel)) (by decide +kernel) (by decide +kernel)
theorem ok_shown0 (B : Mg K mg) (D : Dn K mg "shown" s_shown ["number"]) : Cal P w K mg base "shown" 1 ["number"] (spR K R_shown0) := by
  have nd := sc_shown.nd
  refine mk_cal D sc_shown (fun ds d h => ?_) (fun cdv A outer s H f E ds d hr h => ?_)
  · obtain ⟨x, rfl, _⟩ := h
    rfl
  · obtain ⟨x, rfl, h0, h1, rfl⟩ := h
    refine ⟨_, (pss_cons (ps_if (pt_cmpR op_lt (v_shown_number rfl rfl) pe_int (nomark _)) pss_never pss_nil) (pss_cons (ps_set (i := 1) nd rfl (by first | exact Or.inl rfl | exact Or.inr rfl) (pe_lst pa_nil)) (pss_cons (ps_while PassesOwn.never (pt_cmpR op_ge (v_shown_number rfl rfl) (pe_gi B.BASE) (nomark _)) pss_never) (pss_one (ps_ret (w_join (K := K) pe_str (pe_op op_cat (pe_lst (pa_cons (pe_callTy call_str_int (by rfl) B.str (by decide +kernel) (pa_cons (v_shown_number rfl rfl) pa_nil)) pa_nil)) (w_rev (K := K) (v_shown_parts rfl rfl))))))))), ?_⟩
    show StE K _ [some (.val (.int x)), none, none] _ _
    refine q_when (b := false) (t_is (t_test (e_op (e_var rfl) e_int o_lt)) (decide_eq_false (by omega))) (fun z => nomatch z) fun _ => ?_
    refine q_own (ds := []) (o_lst a_nil (Nat.le_of_ble_eq_true rfl)) ?_
    refine q_while (fun m env => env = [some (.val (.int x)), some (.own []), none]) 0 rfl ?_
    rintro m e rfl
    refine ⟨false, t_is (t_test (e_op (e_var rfl) e_int o_ge)) (decide_eq_false (by omega)), fun z => (nomatch z), fun _ => ?_⟩
    refine st_frz 1 rfl ?_
    refine st_ret (e_m1 e_str (e_op (e_lst (a_cons (e_cb (a_cons (e_var rfl) a_nil) (c_str ?_)) a_nil) (Nat.le_of_ble_eq_true rfl)) (e_rev (e_var rfl)) (o_cat (Nat.le_of_ble_eq_true rfl))) (m_join (ys := [Str.ofString (toString x)]) ?_)) ?_
    · rcases Nat.eq_zero_or_pos x.natAbs with z | z
      · rw [z]
        decide
      · have := (Nat.log2_lt (n := x.natAbs) (k := 1920) (by omega)).mpr (Nat.lt_of_lt_of_le (show x.natAbs < 2 ^ 6 by omega) (Nat.pow_le_pow_right (by decide) (by decide)))
        exact this
    · rw [← sh_nat h0]
      refine join_fit (m := 4) (by decide +kernel) (fun p hp => ?_) (by show 1 * 5 ≤ _; decide)
      rw [List.mem_singleton.mp hp, TL.len_tl]
      exact (sh_of ⟨by omega, h1⟩).2.2.1
    · rw [← sh_nat h0, TL.join_eq]
      rfl
theorem ok_shown (B : Mg K mg) (C_shown : Cal P w K mg base "shown" 1 ["number"] (spR K R_shown0)) (D : Dn K mg "shown" s_shown ["number"]) : Cal P w K mg base "shown" 2 ["number"] (spR K R_shown) := by
  have nd := sc_shown.nd
  refine mk_cal D sc_shown (fun ds d h => ?_) (fun cdv A outer s H f E ds d hr h => ?_)
  · obtain ⟨x, rfl, _⟩ := h
    rfl
  · obtain ⟨x, rfl, ⟨h0, h1⟩, rfl⟩ := h
    refine ⟨_, (pss_cons (ps_if (pt_cmpR op_lt (v_shown_number rfl rfl) pe_int (nomark _)) (pss_one (ps_ret (pe_op op_add_str pe_str (pe_c C_shown (hr.mono (by decide)) (pa_cons (pe_un un_neg (v_shown_number rfl rfl)) pa_nil))))) pss_nil) (pss_cons (ps_set (i := 1) nd rfl (by first | exact Or.inl rfl | exact Or.inr rfl) (pe_lst pa_nil)) (pss_cons (ps_while PassesOwn.never (pt_cmpR op_ge (v_shown_number rfl rfl) (pe_gi B.BASE) (nomark _)) pss_never) (pss_one (ps_ret (w_join (K := K) pe_str (pe_op op_cat (pe_lst (pa_cons (pe_callTy call_str_int (by rfl) B.str (by decide +kernel) (pa_cons (v_shown_number rfl rfl) pa_nil)) pa_nil)) (w_rev (K := K) (v_shown_parts rfl rfl))))))))), ?_⟩
    show StE K _ [some (.val (.int x)), none, none] _ _
    refine q_when (t_test (e_op (e_var rfl) e_int o_lt)) (fun hb => ?_) fun hb => ?_
    · have hb := of_decide_eq_true hb
      refine st_ret (e_op e_str (e_call (a_cons (e_un (e_var rfl) u_neg) a_nil) ⟨-x, rfl, by omega, by omega, rfl⟩) (o_addS ?_)) ?_
      · rw [TL.len_tl, TL.len_tl]
        have := (sh_of (x := -x) ⟨by omega, by omega⟩).2.2.1
        have e : (TL.tl ("-" : Str)).length = 1 := by decide +kernel
        rw [e]
        show 1 + (shL (-x)).length ≤ _
        omega
      · unfold ss
        rw [sh_neg hb]
    · have h0 : 0 ≤ x := by
        have := of_decide_eq_false hb
        omega
      refine q_own (ds := []) (o_lst a_nil (Nat.le_of_ble_eq_true rfl)) ?_
      refine q_while (fun m env => env = [some (.val (.int x)), some (.own []), none]) 0 rfl ?_
      rintro m e rfl
      refine ⟨false, t_is (t_test (e_op (e_var rfl) e_int o_ge)) (decide_eq_false (by omega)), fun z => (nomatch z), fun _ => ?_⟩
      refine st_frz 1 rfl ?_
      refine st_ret (e_m1 e_str (e_op (e_lst (a_cons (e_cb (a_cons (e_var rfl) a_nil) (c_str ?_)) a_nil) (Nat.le_of_ble_eq_true rfl)) (e_rev (e_var rfl)) (o_cat (Nat.le_of_ble_eq_true rfl))) (m_join (ys := [Str.ofString (toString x)]) ?_)) ?_
      · rcases Nat.eq_zero_or_pos x.natAbs with z | z
        · rw [z]
          decide
        · have := (Nat.log2_lt (n := x.natAbs) (k := 1920) (by omega)).mpr (Nat.lt_of_lt_of_le (show x.natAbs < 2 ^ 6 by omega) (Nat.pow_le_pow_right (by decide) (by decide)))
          exact this
      · rw [← sh_nat h0]
        refine join_fit (m := 4) (by decide +kernel) (fun p hp => ?_) (by show 1 * 5 ≤ _; decide)
        rw [List.mem_singleton.mp hp, TL.len_tl]
        exact (sh_of ⟨by omega, h1⟩).2.2.1
      · rw [← sh_nat h0, TL.join_eq]
        rfl
abbrev N_is_integer : List Str := ["word", "digits", "char"]
theorem sc_is_integer : FnScope N_is_integer ["word"] (defScope s_is_integer) := ⟨rfl, rfl, rfl, by decide +kernel, rfl, by decide +kernel, by decide +kernel⟩
theorem v_is_integer_word {X : Cx} {pos : Pos} (hN : X.N = N_is_integer) (hs : X.env.scope = defScope s_is_integer) : PE X (.Name "word" pos) (tVar 0) := pe_var (by rw [hN]; rfl) (by rw [hs]; exact Or.inl (by decide +kernel)) (by decide +kernel) (by decide +kernel)
theorem v_is_integer_digits {X : Cx} {pos : Pos} (hN : X.N = N_is_integer) (hs : X.env.scope = defScope s_is_integer) : PE X (.Name "digits" pos) (tVar 1) := pe_var (by rw [hN]; rfl) (by rw [hs]; exact Or.inl (by decide +kernel)) (by decide +kernel) (by decide +kernel)
theorem ok_is_integer (B : Mg K mg) (D : Dn K mg "is_integer" s_is_integer ["word"]) : Cal P w K mg base "is_integer" 1 ["word"] (spR K R_is_integer) := by
  have nd := sc_is_integer.nd
  refine mk_cal D sc_is_integer (fun ds d h => ?_) (fun cdv A outer s H f E ds d hr h => ?_)
  · obtain ⟨x, rfl, _⟩ := h
    rfl
  · obtain ⟨x, rfl, hx, rfl⟩ := h
    refine ⟨_, (pss_cons (ps_set (i := 1) nd rfl (by first | exact Or.inl rfl | exact Or.inr rfl) (pe_ifExp (pt_cmpR op_eq (pe_slice sl_str (v_is_integer_word rfl rfl) po_none (po_some pe_int)) pe_str (nomark _)) (pe_slice sl_str (v_is_integer_word rfl rfl) (po_some pe_int) po_none) (v_is_integer_word rfl rfl))) (pss_cons (ps_if (PW.pt (pw_or (pt_not (pt_chain op_le op_le pe_int (pe_callB (w_len (K := K)) (by rfl) B.len PySem.boot_len (pa_cons (v_is_integer_digits rfl rfl) pa_nil)) (pe_gi B.MOST_DIGITS))) (pw_or1 (pt_not (pt_val (pe_callB (w_all (K := K) rfl) (by rfl) B.all (by decide +kernel) (pa_cons (pe_lc (own := [("char", 2)]) (g := (gName 2)) rfl nd (pi_str (v_is_integer_digits rfl rfl)) (blkOk_by (own := [("char", 2)]) (N := N_is_integer) (sc := defScope s_is_integer) (by decide +kernel)) (fun _ _ _ _ _ => (pg_name (i := 2) nd rfl (by first | exact Or.inl rfl | exact Or.inr rfl))) (fun _ _ _ _ _ => pts_nil) (fun _ _ _ _ _ => (pe_cmpR op_in_sign (pv 2) (w_gs B.DIGITS) (by rfl)))) pa_nil))))))) (pss_one (ps_ret pe_bl)) pss_nil) (pss_one (ps_ret (pe_or (pe_cmpR op_eq (v_is_integer_word rfl rfl) pe_str (nomark _)) (pe_one (pe_cmpR op_ne (pe_ix ix_str (v_is_integer_digits rfl rfl) pe_int (fun _ _ => rfl)) pe_str (nomark _)))))))), ?_⟩
    obtain ⟨_, _, hl, hi, _⟩ := sh_of hx
    have ht : (shS x).length ≤ 4 := by rw [TL.len_tl]; exact hl
    show StE K _ [some (.val (.str (shS x))), none, none] _ _
    generalize shS x = t at hi ht
    unfold isInt at hi
    rw [Bool.and_eq_true, Bool.and_eq_true] at hi
    obtain ⟨⟨h1, h2⟩, h3⟩ := hi
    have h1 := of_decide_eq_true h1
    refine q_asg (d := .str (digs t)) (e_if (t_test (e_op (e_sl (e_var rfl) p_none (p_some e_int) (s_str (by omega))) e_str o_eqS)) (fun hb => ?_) fun hb => ?_) ?_
    · unfold digs
      rw [if_pos (of_decide_eq_true hb)]
      exact e_sl (e_var rfl) (p_some e_int) p_none (s_str (by omega))
    · unfold digs
      rw [if_neg (of_decide_eq_false hb)]
      exact e_var rfl
    show StE K _ [some (.val (.str t)), some (.val (.str (digs t))), none] _ _
    refine q_when (b := false) ?_ (fun z => nomatch z) fun _ => ?_
    · refine t_is (t_or (t_not (t_b (e_chain e_int (e_cb (a_cons (e_var rfl) a_nil) (c_lenS (by omega))) o_le (fun _ => e_int) (fun _ => o_le)))) fun _ => t_not (t_b (e_cb (a_cons (e_own (c_map (digs t).cps.toList (fun n => .str ⟨#[n]⟩) (fun n => .bool (decide (n ∈ ("0123456789" : Str).cps.toList))) (i_str (e_var rfl)) ?_ fun i n hn => ⟨_, g_name, ?_⟩)) a_nil) (by rw [show ((digs t).cps.toList.map fun n => PyData.bool (decide (n ∈ ("0123456789" : Str).cps.toList))) = ((digs t).cps.toList.map fun n => decide (n ∈ ("0123456789" : Str).cps.toList)).map .bool by rw [List.map_map]; rfl]; exact c_all)))) ?_
      · show (TL.tl (digs t)).length ≤ _
        rw [← TL.len_tl]
        omega
      · exact e_op (e_var rfl) e_str o_inS
      · rw [List.all_map]
        have e : (((digs t).cps.toList).all (id ∘ fun n => decide (n ∈ ("0123456789" : Str).cps.toList))) = true := h2
        rw [e, decide_eq_true (show (1 : Int) ≤ ((digs t).length : Nat) by omega), decide_eq_true (show (((digs t).length : Nat) : Int) ≤ 200 by omega)]
        rfl
    · cases hc : (digs t).cps.toList with
      | nil =>
        have e : (digs t).length = (TL.tl (digs t)).length := TL.len_tl _
        unfold TL.tl at e
        rw [hc] at e
        have e : (digs t).length = 0 := e
        omega
      | cons n r =>
        rw [hc] at h3
        exact st_ret (e_or (e_op (e_var rfl) e_str o_eqS) fun _ => e_op (e_op (e_var rfl) e_int (o_ixS (n := n) (by omega) (by rw [hc]; exact at_zero))) e_str o_neS) (by rw [h3])
abbrev N_line_of : List Str := ["word", "number", "part"]
theorem sc_line_of : FnScope N_line_of ["word", "number"] (defScope s_line_of) := ⟨rfl, rfl, rfl, by decide +kernel, rfl, by decide +kernel, by decide +kernel⟩
theorem v_line_of_word {X : Cx} {pos : Pos} (hN : X.N = N_line_of) (hs : X.env.scope = defScope s_line_of) : PE X (.Name "word" pos) (tVar 0) := pe_var (by rw [hN]; rfl) (by rw [hs]; exact Or.inl (by decide +kernel)) (by decide +kernel) (by decide +kernel)
theorem v_line_of_number {X : Cx} {pos : Pos} (hN : X.N = N_line_of) (hs : X.env.scope = defScope s_line_of) : PE X (.Name "number" pos) (tVar 1) := pe_var (by rw [hN]; rfl) (by rw [hs]; exact Or.inl (by decide +kernel)) (by decide +kernel) (by decide +kernel)
theorem ok_line_of (B : Mg K mg) (C_shown : Cal P w K mg base "shown" 2 ["number"] (spR K R_shown)) (D : Dn K mg "line_of" s_line_of ["word", "number"]) : Cal P w K mg base "line_of" 3 ["word", "number"] (spR K R_line_of) := by
  have nd := sc_line_of.nd
  refine mk_cal D sc_line_of (fun ds d h => ?_) (fun cdv A outer s H f E ds d hr h => ?_)
  · obtain ⟨v, q, rfl, _⟩ := h
    rfl
  · obtain ⟨v, q, rfl, hv, hq, rfl⟩ := h
    refine ⟨_, (pss_one (ps_ret (w_join (K := K) pe_str (pe_op op_cat (pe_lst (pa_cons (v_line_of_word rfl rfl) pa_nil)) (pe_lc (own := [("part", 2)]) (g := (gName 2)) rfl nd (w_pit (K := K) (v_line_of_number rfl rfl)) (blkOk_by (own := [("part", 2)]) (N := N_line_of) (sc := defScope s_line_of) (by decide +kernel)) (fun _ _ _ _ _ => (pg_name (i := 2) nd rfl (by first | exact Or.inl rfl | exact Or.inr rfl))) (fun _ _ _ _ _ => pts_nil) (fun _ _ _ _ _ => (pe_c C_shown (hr.mono (by decide)) (pa_cons (pv 2) pa_nil)))))))), ?_⟩
    show StE K _ [some (.val (.str v)), some (.val (qd q)), none] _ _
    refine st_ret (e_m1 e_str (e_op (e_lst (a_cons (e_var rfl) a_nil) (Nat.le_of_ble_eq_true rfl)) (e_own (c_map q.l .int ss (i_tup (e_var (by rw [qd_l]; rfl))) (by show 4 ≤ 50000; decide) fun i a ha => ⟨_, g_name, e_call (a_cons (e_var rfl) a_nil) ⟨a, rfl, qmem hq ha, rfl⟩⟩)) (o_cat (by show 1 + 4 ≤ _; decide))) (m_join (ys := v :: q.l.map shS) ?_)) rfl
    refine join_fit (m := 10) (by decide +kernel) (fun p hp => ?_) (by show 5 * 11 ≤ _; decide)
    rw [TL.len_tl]
    rcases List.mem_cons.mp hp with rfl | hp
    · exact hv.len
    · obtain ⟨x, hx, rfl⟩ := List.mem_map.mp hp
      have := (sh_of (hq.mem x hx)).2.2.1
      exact Nat.le_trans this (by decide)
abbrev N_row_text : List Str := ["row", "unit", "number"]
theorem sc_row_text : FnScope N_row_text ["row", "unit"] (defScope s_row_text) := ⟨rfl, rfl, rfl, by decide +kernel, rfl, by decide +kernel, by decide +kernel⟩
theorem v_row_text_row {X : Cx} {pos : Pos} (hN : X.N = N_row_text) (hs : X.env.scope = defScope s_row_text) : PE X (.Name "row" pos) (tVar 0) := pe_var (by rw [hN]; rfl) (by rw [hs]; exact Or.inl (by decide +kernel)) (by decide +kernel) (by decide +kernel)
theorem v_row_text_unit {X : Cx} {pos : Pos} (hN : X.N = N_row_text) (hs : X.env.scope = defScope s_row_text) : PE X (.Name "unit" pos) (tVar 1) := pe_var (by rw [hN]; rfl) (by rw [hs]; exact Or.inl (by decide +kernel)) (by decide +kernel) (by decide +kernel)
theorem v_row_text_number {X : Cx} {pos : Pos} (hN : X.N = N_row_text) (hs : X.env.scope = defScope s_row_text) : PE X (.Name "number" pos) (tVar 2) := pe_var (by rw [hN]; rfl) (by rw [hs]; exact Or.inl (by decide +kernel)) (by decide +kernel) (by decide +kernel)
theorem ok_row_text (B : Mg K mg) (C_check_number : Cal P w K mg base "check_number" 2 ["number"] (spR K R_check_number)) (C_line_of : Cal P w K mg base "line_of" 3 ["word", "number"] (spR K R_line_of)) (D : Dn K mg "row_text" s_row_text ["row", "unit"]) : Cal P w K mg base "row_text" 4 ["row", "unit"] (spR K R_row_text) := by
  have nd := sc_row_text.nd
  refine mk_cal D sc_row_text (fun ds d h => ?_) (fun cdv A outer s H f E ds d hr h => ?_)
  · obtain ⟨v, q, rfl, _⟩ := h
    rfl
  · obtain ⟨row, u, rfl, hl, hr', hp, hu, rfl⟩ := h
    refine ⟨_, (pss_cons (ps_for PassesOwn.never rfl (w_pil (K := K) (v_row_text_row rfl rfl)) (pg_name (i := 2) nd rfl (by first | exact Or.inl rfl | exact Or.inr rfl)) (pss_one (ps_expr (pe_c C_check_number (hr.mono (by decide)) (pa_cons (v_row_text_number rfl rfl) pa_nil))))) (pss_cons (ps_expr (pe_c C_check_number (hr.mono (by decide)) (pa_cons (v_row_text_unit rfl rfl) pa_nil))) (pss_one (ps_ret (w_join (K := K) pe_str (pe_op op_cat (pe_op op_cat (pe_lst (pa_cons pe_str pa_nil)) (pe_lc (own := [("number", 2)]) (g := (gName 2)) rfl nd (w_pil (K := K) (v_row_text_row rfl rfl)) (blkOk_by (own := [("number", 2)]) (N := N_row_text) (sc := defScope s_row_text) (by decide +kernel)) (fun _ _ _ _ _ => (pg_name (i := 2) nd rfl (by first | exact Or.inl rfl | exact Or.inr rfl))) (fun _ _ _ _ _ => pts_nil) (fun _ _ _ _ _ => (pe_c C_line_of (hr.mono (by decide)) (pa_cons pe_str (pa_cons (pv 2) pa_nil)))))) (pe_lst (pa_cons (pe_c C_line_of (hr.mono (by decide)) (pa_cons pe_str (pa_cons (v_row_text_unit rfl rfl) pa_nil))) pa_nil)))))))), ?_⟩
    show StE K _ [some (.val (.list (row.map qd))), some (.val (qd u)), none] _ _
    refine q_for (vs := [2]) (i_list (e_var rfl)) (fun i env => ∃ x, env = [some (.val (.list (row.map qd))), some (.val (qd u)), x]) ⟨none, rfl⟩ ?_ ?_
    · rintro i d e hd ⟨x, rfl⟩
      obtain ⟨q, hq, rfl⟩ := map_at hd
      exact ⟨_, g_name, st_drop (e_call (a_cons (e_var rfl) a_nil) ⟨q, .inl rfl, (hr' q (List.mem_of_getElem? hq)).1, rfl⟩) ⟨some (.val (qd q)), rfl⟩⟩
    · rintro e ⟨x, rfl⟩
      refine q_drop (e_call (a_cons (e_var rfl) a_nil) ⟨u, .inl rfl, hp, rfl⟩) ?_
      refine st_ret (e_m1 e_str (e_op (e_op (e_lst (a_cons e_str a_nil) (Nat.le_of_ble_eq_true rfl)) (e_own (c_map row qd (fun q => .str (lineS "factor" q)) (i_list (e_var rfl)) (by omega) fun i a ha => ⟨_, g_name, e_call (a_cons e_str (a_cons (e_var rfl) a_nil)) ⟨"factor", a, rfl, wFactor, (hr' a (List.mem_of_getElem? ha)).2, rfl⟩⟩)) (o_cat ?_)) (e_lst (a_cons (e_call (a_cons e_str (a_cons (e_var rfl) a_nil)) ⟨"unit", u, rfl, wUnit, hu, rfl⟩) a_nil) (Nat.le_of_ble_eq_true rfl)) (o_cat ?_)) ?_) rfl
      · rw [List.length_map, List.length_singleton]
        omega
      · rw [List.length_append, List.length_map, List.length_singleton, List.length_singleton]
        omega
      · have e : ([PyData.str "row"] ++ row.map fun q => PyData.str (lineS "factor" q)) ++ [.str (lineS "unit" u)] = (linesS row u).map .str := by
          unfold linesS
          rw [List.map_cons, List.map_append, List.map_map]
          rfl
        rw [e]
        refine m_join (join_fit (m := 55) (by decide +kernel) (lines_len (fun q hq => (hr' q hq).2) hu) ?_)
        have e2 : (linesS row u).length = row.length + 2 := by
          unfold linesS
          simp
        rw [e2]
        have := Nat.mul_le_mul (show row.length + 2 ≤ 102 by omega) (Nat.le_refl 56)
        omega
abbrev N_is_line : List Str := ["words", "word", "part"]
theorem sc_is_line : FnScope N_is_line ["words", "word"] (defScope s_is_line) := ⟨rfl, rfl, rfl, by decide +kernel, rfl, by decide +kernel, by decide +kernel⟩
theorem v_is_line_words {X : Cx} {pos : Pos} (hN : X.N = N_is_line) (hs : X.env.scope = defScope s_is_line) : PE X (.Name "words" pos) (tVar 0) := pe_var (by rw [hN]; rfl) (by rw [hs]; exact Or.inl (by decide +kernel)) (by decide +kernel) (by decide +kernel)
theorem v_is_line_word {X : Cx} {pos : Pos} (hN : X.N = N_is_line) (hs : X.env.scope = defScope s_is_line) : PE X (.Name "word" pos) (tVar 1) := pe_var (by rw [hN]; rfl) (by rw [hs]; exact Or.inl (by decide +kernel)) (by decide +kernel) (by decide +kernel)
theorem ok_is_line (B : Mg K mg) (C_is_integer : Cal P w K mg base "is_integer" 1 ["word"] (spR K R_is_integer)) (C_is_number : Cal P w K mg base "is_number" 1 ["number"] (spR K R_is_number)) (D : Dn K mg "is_line" s_is_line ["words", "word"]) : Cal P w K mg base "is_line" 2 ["words", "word"] (spR K R_is_line) := by
  have nd := sc_is_line.nd
  refine mk_cal D sc_is_line (fun ds d h => ?_) (fun cdv A outer s H f E ds d hr h => ?_)
  · obtain ⟨h, v, q, rfl, _⟩ := h
    rfl
  · obtain ⟨h, v, q, rfl, hq, rfl⟩ := h
    refine ⟨_, (pss_cons (ps_if (PW.pt (pw_or (pt_cmpR op_ne (pe_callB (w_len (K := K)) (by rfl) B.len PySem.boot_len (pa_cons (v_is_line_words rfl rfl) pa_nil)) (pe_op op_add (pe_gi B.PARTS) pe_int) (nomark _)) (pw_or (pt_cmpR op_ne (pe_ix (w_ixL (K := K)) (v_is_line_words rfl rfl) pe_int (fun _ _ => rfl)) (v_is_line_word rfl rfl) (nomark _)) (pw_or1 (pt_not (pt_val (pe_callB (w_all (K := K) rfl) (by rfl) B.all (by decide +kernel) (pa_cons (pe_lc (own := [("part", 2)]) (g := (gName 2)) rfl nd (w_pil (K := K) (pe_slice (w_slL (K := K)) (v_is_line_words rfl rfl) (po_some pe_int) po_none)) (blkOk_by (own := [("part", 2)]) (N := N_is_line) (sc := defScope s_is_line) (by decide +kernel)) (fun _ _ _ _ _ => (pg_name (i := 2) nd rfl (by first | exact Or.inl rfl | exact Or.inr rfl))) (fun _ _ _ _ _ => pts_nil) (fun _ _ _ _ _ => (pe_c C_is_integer (hr.mono (by decide)) (pa_cons (pv 2) pa_nil)))) pa_nil)))))))) (pss_one (ps_ret pe_bl)) pss_nil) (pss_one (ps_ret (pe_c C_is_number (hr.mono (by decide)) (pa_cons (pe_lc (own := [("part", 2)]) (g := (gName 2)) rfl nd (w_pil (K := K) (pe_slice (w_slL (K := K)) (v_is_line_words rfl rfl) (po_some pe_int) po_none)) (blkOk_by (own := [("part", 2)]) (N := N_is_line) (sc := defScope s_is_line) (by decide +kernel)) (fun _ _ _ _ _ => (pg_name (i := 2) nd rfl (by first | exact Or.inl rfl | exact Or.inr rfl))) (fun _ _ _ _ _ => pts_nil) (fun _ _ _ _ _ => (pe_callTy call_int_str (by rfl) B.int (by decide +kernel) (pa_cons (pv 2) pa_nil)))) pa_nil))))), ?_⟩
    have hm : ∀ {i : Nat} {a : Int}, q.l[i]? = some a → intText? (shS a) = some a ∧ (shS a).length ≤ 640 := fun {i a} ha => by
      obtain ⟨_, _, hl, _, hi⟩ := sh_of (qmem hq ha)
      refine ⟨hi, ?_⟩
      rw [TL.len_tl]
      exact Nat.le_trans hl (by decide)
    have sl : ∀ env : En, env[0]? = some (some (.val (wds h q))) → EvE K (tSl (rSlL K) (tVar 0) (tPart (tC (.int 1))) tNoPart) env (.list (q.l.map ss)) := fun env e => e_is (e_sl (e_var e) (p_some e_int) p_none s_lst) (by rw [cut_tail])
    show StE K _ [some (.val (wds h q)), some (.val (.str v)), none] _ _
    refine q_when (b := !decide (h = v)) ?_ (fun hb => ?_) fun hb => ?_
    · refine t_is (t_or (t_test (e_op (e_cb (a_cons (e_var rfl) a_nil) c_lenL) (e_op e_int e_int o_add) o_neI)) fun _ => t_or (t_test (e_op (e_op (e_var rfl) e_int (o_ixL rfl)) (e_var rfl) o_neS)) fun _ => t_not (t_b (e_cb (a_cons (e_own (c_map q.l ss (fun _ => .bool true) (i_list (sl _ rfl)) (by show 4 ≤ 50000; decide) fun i a ha => ⟨_, g_name, e_call (a_cons (e_var rfl) a_nil) ⟨a, rfl, qmem hq ha, rfl⟩⟩)) a_nil) (c_all (bs := q.l.map fun _ => true))))) ?_
      show (!decide ((5 : Int) = 4 + 1) || (!decide (h = v) || !true)) = _
      rw [decide_eq_true (show (5 : Int) = 4 + 1 from rfl)]
      cases decide (h = v) <;> rfl
    · refine st_ret e_bl ?_
      rw [Bool.not_eq_true'] at hb
      rw [hb]
      rfl
    · rw [Bool.not_eq_false'] at hb
      refine st_ret (e_call (a_cons (e_own (c_map q.l ss .int (i_list (sl _ rfl)) (by show 4 ≤ 50000; decide) fun i a ha => ⟨_, g_name, e_cb (a_cons (e_var rfl) a_nil) (c_intS (hm ha).1 (hm ha).2)⟩)) a_nil) ⟨q, .inr rfl, rfl⟩) ?_
      rw [hb]
      rfl
abbrev N_part_of : List Str := ["words", "part"]
theorem sc_part_of : FnScope N_part_of ["words"] (defScope s_part_of) := ⟨rfl, rfl, rfl, by decide +kernel, rfl, by decide +kernel, by decide +kernel⟩
theorem v_part_of_words {X : Cx} {pos : Pos} (hN : X.N = N_part_of) (hs : X.env.scope = defScope s_part_of) : PE X (.Name "words" pos) (tVar 0) := pe_var (by rw [hN]; rfl) (by rw [hs]; exact Or.inl (by decide +kernel)) (by decide +kernel) (by decide +kernel)
theorem ok_part_of (B : Mg K mg) (D : Dn K mg "part_of" s_part_of ["words"]) : Cal P w K mg base "part_of" 1 ["words"] (spR K R_part_of) := by
  have nd := sc_part_of.nd
  refine mk_cal D sc_part_of (fun ds d h => ?_) (fun cdv A outer s H f E ds d hr h => ?_)
  · obtain ⟨h, q, rfl, _⟩ := h
    rfl
  · obtain ⟨h, q, rfl, hq, rfl⟩ := h
    refine ⟨_, (pss_one (ps_ret (pe_callTy (w_tuple (K := K)) (by rfl) B.tuple (by decide +kernel) (pa_cons (pe_lc (own := [("part", 1)]) (g := (gName 1)) rfl nd (w_pil (K := K) (pe_slice (w_slL (K := K)) (v_part_of_words rfl rfl) (po_some pe_int) po_none)) (blkOk_by (own := [("part", 1)]) (N := N_part_of) (sc := defScope s_part_of) (by decide +kernel)) (fun _ _ _ _ _ => (pg_name (i := 1) nd rfl (by first | exact Or.inl rfl | exact Or.inr rfl))) (fun _ _ _ _ _ => pts_nil) (fun _ _ _ _ _ => (pe_callTy call_int_str (by rfl) B.int (by decide +kernel) (pa_cons (pv 1) pa_nil)))) pa_nil)))), ?_⟩
    have hm : ∀ {i : Nat} {a : Int}, q.l[i]? = some a → intText? (shS a) = some a ∧ (shS a).length ≤ 640 := fun {i a} ha => by
      obtain ⟨_, _, hl, _, hi⟩ := sh_of (qmem hq ha)
      refine ⟨hi, ?_⟩
      rw [TL.len_tl]
      exact Nat.le_trans hl (by decide)
    have sl : ∀ env : En, env[0]? = some (some (.val (wds h q))) → EvE K (tSl (rSlL K) (tVar 0) (tPart (tC (.int 1))) tNoPart) env (.list (q.l.map ss)) := fun env e => e_is (e_sl (e_var e) (p_some e_int) p_none s_lst) (by rw [cut_tail])
    exact st_ret (e_cb (a_cons (e_own (c_map q.l ss .int (i_list (sl _ rfl)) (by show 4 ≤ 50000; decide) fun i a ha => ⟨_, g_name, e_cb (a_cons (e_var rfl) a_nil) (c_intS (hm ha).1 (hm ha).2)⟩)) a_nil) c_tupL) rfl
abbrev N_parse_row : List Str := ["text", "lines", "row", "unit", "number", "words", "line"]
theorem sc_parse_row : FnScope N_parse_row ["text"] (defScope s_parse_row) := ⟨rfl, rfl, rfl, by decide +kernel, rfl, by decide +kernel, by decide +kernel⟩
theorem v_parse_row_text {X : Cx} {pos : Pos} (hN : X.N = N_parse_row) (hs : X.env.scope = defScope s_parse_row) : PE X (.Name "text" pos) (tVar 0) := pe_var (by rw [hN]; rfl) (by rw [hs]; exact Or.inl (by decide +kernel)) (by decide +kernel) (by decide +kernel)
theorem v_parse_row_lines {X : Cx} {pos : Pos} (hN : X.N = N_parse_row) (hs : X.env.scope = defScope s_parse_row) : PE X (.Name "lines" pos) (tVar 1) := pe_var (by rw [hN]; rfl) (by rw [hs]; exact Or.inl (by decide +kernel)) (by decide +kernel) (by decide +kernel)
theorem v_parse_row_row {X : Cx} {pos : Pos} (hN : X.N = N_parse_row) (hs : X.env.scope = defScope s_parse_row) : PE X (.Name "row" pos) (tVar 2) := pe_var (by rw [hN]; rfl) (by rw [hs]; exact Or.inl (by decide +kernel)) (by decide +kernel) (by decide +kernel)
theorem v_parse_row_unit {X : Cx} {pos : Pos} (hN : X.N = N_parse_row) (hs : X.env.scope = defScope s_parse_row) : PE X (.Name "unit" pos) (tVar 3) := pe_var (by rw [hN]; rfl) (by rw [hs]; exact Or.inl (by decide +kernel)) (by decide +kernel) (by decide +kernel)
theorem v_parse_row_number {X : Cx} {pos : Pos} (hN : X.N = N_parse_row) (hs : X.env.scope = defScope s_parse_row) : PE X (.Name "number" pos) (tVar 4) := pe_var (by rw [hN]; rfl) (by rw [hs]; exact Or.inl (by decide +kernel)) (by decide +kernel) (by decide +kernel)
theorem v_parse_row_words {X : Cx} {pos : Pos} (hN : X.N = N_parse_row) (hs : X.env.scope = defScope s_parse_row) : PE X (.Name "words" pos) (tVar 5) := pe_var (by rw [hN]; rfl) (by rw [hs]; exact Or.inl (by decide +kernel)) (by decide +kernel) (by decide +kernel)
theorem ok_parse_row (B : Mg K mg) (C_is_line : Cal P w K mg base "is_line" 2 ["words", "word"] (spR K R_is_line)) (C_part_of : Cal P w K mg base "part_of" 1 ["words"] (spR K R_part_of)) (D : Dn K mg "parse_row" s_parse_row ["text"]) : Cal P w K mg base "parse_row" 3 ["text"] (spR K R_parse_row) := by
  have nd := sc_parse_row.nd
  refine mk_cal D sc_parse_row (fun ds d h => ?_) (fun cdv A outer s H f E ds d hr h => ?_)
  · obtain ⟨h, q, rfl, _⟩ := h
    rfl
  · obtain ⟨row, u, rfl, hl, hr', hp, hu, rfl⟩ := h
    refine ⟨_, (pss_cons (ps_setLc (i := 1) (own := [("line", 6)]) (g := (gName 6)) rfl nd rfl rfl (sw_true rfl rfl rfl (by decide +kernel)) (w_pil (K := K) (w_split (v_parse_row_text rfl rfl) pe_str)) (blkOk_by (own := [("line", 6)]) (N := N_parse_row) (sc := defScope s_parse_row) (by decide +kernel)) (fun _ _ _ _ _ => (pg_name (i := 6) nd rfl (by first | exact Or.inl rfl | exact Or.inr rfl))) (fun _ _ _ _ _ => pts_nil) (fun _ _ _ _ _ => (w_split (pv 6) pe_str))) (pss_cons (ps_if (pt_cmpR (w_neD (K := K) hr.units) (pe_ix (w_ixL (K := K)) (v_parse_row_lines rfl rfl) pe_int (fun _ _ => rfl)) (pe_lst (pa_cons pe_str pa_nil)) (nomark _)) (pss_one ps_never) pss_nil) (pss_cons (ps_set (i := 2) nd rfl (by first | exact Or.inl rfl | exact Or.inr rfl) (pe_lst pa_nil)) (pss_cons (ps_set (i := 3) nd rfl (by first | exact Or.inl rfl | exact Or.inr rfl) pe_non) (pss_cons (ps_for PassesOwn.never rfl (w_enum (K := K) (by rfl) B.enumerate (pa_cons (pe_slice (w_slL (K := K)) (v_parse_row_lines rfl rfl) (po_some pe_int) po_none) (pa_cons pe_int pa_nil))) (w_gtup (K := K) rfl (pgs_cons (pg_name (i := 4) nd rfl (by first | exact Or.inl rfl | exact Or.inr rfl)) (pgs_cons (pg_name (i := 5) nd rfl (by first | exact Or.inl rfl | exact Or.inr rfl)) pgs_nil))) (pss_one (ps_if (PW.pt (pw_and (pt_cmpR op_isN (v_parse_row_unit rfl rfl) pe_non (nomark _)) (pw_and1 (pt_val (pe_c C_is_line (hr.mono (by decide)) (pa_cons (v_parse_row_words rfl rfl) (pa_cons pe_str pa_nil))))))) (pss_one (ps_expr (pe_bm PySem.F.plainAttrs_list PySem.F.slot_list_append PySem.F.type_list_append mt_append (v_parse_row_row rfl rfl) (pa_cons (pe_c C_part_of (hr.mono (by decide)) (pa_cons (v_parse_row_words rfl rfl) pa_nil)) pa_nil)))) (pss_one (ps_if (PW.pt (pw_and (pt_cmpR op_isN (v_parse_row_unit rfl rfl) pe_non (nomark _)) (pw_and1 (pt_val (pe_c C_is_line (hr.mono (by decide)) (pa_cons (v_parse_row_words rfl rfl) (pa_cons pe_str pa_nil))))))) (pss_one (ps_set (i := 3) nd rfl (by first | exact Or.inl rfl | exact Or.inr rfl) (pe_c C_part_of (hr.mono (by decide)) (pa_cons (v_parse_row_words rfl rfl) pa_nil)))) (pss_one ps_never)))))) (pss_cons (ps_if (pt_cmpR op_isN (v_parse_row_unit rfl rfl) pe_non (nomark _)) (pss_one ps_never) pss_nil) (pss_one (ps_ret (pe_tup (pa_cons (v_parse_row_row rfl rfl) (pa_cons (v_parse_row_unit rfl rfl) pa_nil))))))))))), ?_⟩
    have hx : ∀ q ∈ row, q.tx := fun q hq => (hr' q hq).2
    have ld := lines_data hx hu
    generalize hLS : (linesS row u).map (fun p => PyData.list ((Txt.split p " ").map .str)) = LS at ld
    have ln2 : (linesS row u).length = row.length + 2 := by
      unfold linesS
      simp
    show StE K _ [some (.val (.str (rowT row u))), none, none, none, none, none, none] _ _
    refine q_asg (d := .list LS) (e_own (hLS ▸ c_map (linesS row u) .str (fun p => PyData.list ((Txt.split p " ").map .str)) (i_list (e_m1 (e_var rfl) e_str (m_split (rowT_split hx hu) (by decide +kernel) (rowT_len hx hu hl)))) (by rw [ln2]; omega) fun i a ha => ⟨_, g_name, e_m1 (e_var rfl) e_str (m_split rfl (by decide +kernel) ?_)⟩)) ?_
    · have := lines_len hx hu a (List.mem_of_getElem? ha)
      omega
    subst ld
    show StE K _ [some (.val (.str (rowT row u))), some (.val (.list (.list [.str "row"] :: (row.map (wds "factor") ++ [wds "unit" u])))), none, none, none, none, none] _ _
    have shr : SeqAt.shaped (.list [.str "row"]) = true := (Fl.list (n := 0) (ds := [.str "row"]) fun d hd => by rw [List.mem_singleton.mp hd]; exact Fl.str 0 _ (by decide +kernel)).sh (by decide)
    refine q_when (b := false) (t_is (t_test (e_op (e_op (e_var rfl) e_int (o_ixL at_zero)) (e_lst (a_cons e_str a_nil) (Nat.le_of_ble_eq_true rfl)) (o_neD shr shr))) (by simp [PyData.eqv, PyData.eqvAll])) (fun z => nomatch z) fun _ => ?_
    refine q_own (ds := []) (o_lst a_nil (Nat.le_of_ble_eq_true rfl)) ?_
    refine q_asg e_non ?_
    refine q_for (vs := [4, 5]) (i_enum (k := 2) (ds := row.map (wds "factor") ++ [wds "unit" u]) (a_cons (e_is (e_sl (e_var rfl) (p_some e_int) p_none s_lst) (by rw [cut_tail])) (a_cons e_int a_nil)) (by decide) (by decide)) (fun i env => ∃ x y, env = [some (.val (.str (rowT row u))), some (.val (.list (.list [.str "row"] :: (row.map (wds "factor") ++ [wds "unit" u])))), some (.own ((row.take i).map qd)), some (.val (if i ≤ row.length then .none else qd u)), x, y, none]) ⟨none, none, by rw [if_pos (Nat.zero_le _)]; rfl⟩ ?_ ?_
    · rintro i d e hd ⟨x, y, rfl⟩
      rw [enumK_at] at hd
      rcases Nat.lt_trichotomy i row.length with hi | hi | hi
      · rw [List.getElem?_append_left (by rw [List.length_map]; exact hi), List.getElem?_map, List.getElem?_eq_getElem hi] at hd
        cases hd
        obtain ⟨q1, q2⟩ := hr' row[i] (List.getElem_mem hi)
        rw [if_pos (Nat.le_of_lt hi)]
        refine ⟨_, g_tup rfl (gs_cons g_name (gs_cons g_name gs_nil)), ?_⟩
        show StE K _ [some (.val (.str (rowT row u))), some (.val (.list (.list [.str "row"] :: (row.map (wds "factor") ++ [wds "unit" u])))), some (.own ((row.take i).map qd)), some (.val .none), some (.val (.int (2 + (i : Nat)))), some (.val (wds "factor" row[i])), none] _ _
        refine st_if (b := true) (t_is (t_and (t_test (e_op (e_var rfl) e_non o_isN)) fun _ => t_b (e_call (a_cons (e_var rfl) (a_cons e_str a_nil)) ⟨"factor", "factor", row[i], rfl, q2, rfl⟩)) ?_) (fun _ => ?_) (fun z => nomatch z)
        · rw [decide_eq_true q1]
          rfl
        · refine st_app rfl (e_call (a_cons (e_var rfl) a_nil) ⟨"factor", row[i], rfl, q2, rfl⟩) (by rw [List.length_map, List.length_take]; omega) ⟨some (.val (.int (2 + (i : Nat)))), some (.val (wds "factor" row[i])), ?_⟩
          rw [take_snoc (List.getElem?_eq_getElem hi), List.map_append, if_pos (by omega)]
          rfl
      · subst hi
        rw [List.getElem?_append_right (by rw [List.length_map]; exact Nat.le_refl _), List.length_map, Nat.sub_self] at hd
        cases hd
        rw [if_pos (Nat.le_refl _)]
        refine ⟨_, g_tup rfl (gs_cons g_name (gs_cons g_name gs_nil)), ?_⟩
        show StE K _ [some (.val (.str (rowT row u))), some (.val (.list (.list [.str "row"] :: (row.map (wds "factor") ++ [wds "unit" u])))), some (.own ((row.take row.length).map qd)), some (.val .none), some (.val (.int (2 + (row.length : Nat)))), some (.val (wds "unit" u)), none] _ _
        refine st_if (b := false) (t_is (t_and (t_test (e_op (e_var rfl) e_non o_isN)) fun _ => t_b (e_call (a_cons (e_var rfl) (a_cons e_str a_nil)) ⟨"unit", "factor", u, rfl, hu, rfl⟩)) ?_) (fun z => nomatch z) fun _ => ?_
        · have : decide (("unit" : Str) = "factor") = false := by decide +kernel
          rw [this]
          rfl
        · refine st_if (b := true) (t_is (t_and (t_test (e_op (e_var rfl) e_non o_isN)) fun _ => t_b (e_call (a_cons (e_var rfl) (a_cons e_str a_nil)) ⟨"unit", "unit", u, rfl, hu, rfl⟩)) ?_) (fun _ => ?_) (fun z => nomatch z)
          · rw [decide_eq_true hp]
            rfl
          · refine st_asg (e_call (a_cons (e_var rfl) a_nil) ⟨"unit", u, rfl, hu, rfl⟩) ⟨some (.val (.int (2 + (row.length : Nat)))), some (.val (wds "unit" u)), ?_⟩
            rw [if_neg (by omega), List.take_length, List.take_of_length_le (Nat.le_succ _)]
            rfl
      · rw [List.getElem?_eq_none (by rw [List.length_append, List.length_map, List.length_singleton]; omega)] at hd
        cases hd
    · rintro e ⟨x, y, rfl⟩
      rw [enumK_len, List.length_append, List.length_map, List.length_singleton, if_neg (by omega), List.take_of_length_le (Nat.le_succ _)]
      refine q_when (b := false) (t_is (t_test (e_op (e_var rfl) e_non o_isN)) rfl) (fun z => nomatch z) fun _ => ?_
      refine st_frz 2 rfl ?_
      exact st_ret (e_tup (a_cons (e_var rfl) (a_cons (e_var rfl) a_nil)) (Nat.le_of_ble_eq_true rfl)) rfl
abbrev N_check_text : List Str := ["number", "text", "row", "unit", "factor"]
theorem sc_check_text : FnScope N_check_text ["number", "text"] (defScope s_check_text) := ⟨rfl, rfl, rfl, by decide +kernel, rfl, by decide +kernel, by decide +kernel⟩
theorem v_check_text_number {X : Cx} {pos : Pos} (hN : X.N = N_check_text) (hs : X.env.scope = defScope s_check_text) : PE X (.Name "number" pos) (tVar 0) := pe_var (by rw [hN]; rfl) (by rw [hs]; exact Or.inl (by decide +kernel)) (by decide +kernel) (by decide +kernel)
theorem v_check_text_text {X : Cx} {pos : Pos} (hN : X.N = N_check_text) (hs : X.env.scope = defScope s_check_text) : PE X (.Name "text" pos) (tVar 1) := pe_var (by rw [hN]; rfl) (by rw [hs]; exact Or.inl (by decide +kernel)) (by decide +kernel) (by decide +kernel)
theorem v_check_text_row {X : Cx} {pos : Pos} (hN : X.N = N_check_text) (hs : X.env.scope = defScope s_check_text) : PE X (.Name "row" pos) (tVar 2) := pe_var (by rw [hN]; rfl) (by rw [hs]; exact Or.inl (by decide +kernel)) (by decide +kernel) (by decide +kernel)
theorem v_check_text_unit {X : Cx} {pos : Pos} (hN : X.N = N_check_text) (hs : X.env.scope = defScope s_check_text) : PE X (.Name "unit" pos) (tVar 3) := pe_var (by rw [hN]; rfl) (by rw [hs]; exact Or.inl (by decide +kernel)) (by decide +kernel) (by decide +kernel)
theorem ok_check_text (B : Mg K mg) (C_check_not_zero : Cal P w K mg base "check_not_zero" 3 ["number"] (spR K R_check_not_zero)) (C_parse_row : Cal P w K mg base "parse_row" 3 ["text"] (spR K R_parse_row)) (C_is_unit : Cal P w K mg base "is_unit" 4 ["number"] (spR K R_is_unit)) (C_product_of : Cal P w K mg base "product_of" 4 ["numbers"] (spR K R_product_of)) (C_is_canonical_prime : Cal P w K mg base "is_canonical_prime" 6 ["number"] (spR K R_canon_prime)) (D : Dn K mg "check_text" s_check_text ["number", "text"]) : Cal P w K mg base "check_text" 7 ["number", "text"] (spR K R_check_text) := by
  have nd := sc_check_text.nd
  refine mk_cal D sc_check_text (fun ds d h => ?_) (fun cdv A outer s H f E ds d hr h => ?_)
  · obtain ⟨n, row, u, rfl | rfl, _⟩ := h <;> rfl
  · obtain ⟨n, row, u, hds, hn, h0, hl, hr', hp, hu, rfl⟩ := h
    refine ⟨_, (pss_cons (ps_expr (pe_c C_check_not_zero (hr.mono (by decide)) (pa_cons (v_check_text_number rfl rfl) pa_nil))) (pss_cons (ps_asg (pe_c C_parse_row (hr.mono (by decide)) (pa_cons (v_check_text_text rfl rfl) pa_nil)) (w_gtup (K := K) rfl (pgs_cons (pg_name (i := 2) nd rfl (by first | exact Or.inl rfl | exact Or.inr rfl)) (pgs_cons (pg_name (i := 3) nd rfl (by first | exact Or.inl rfl | exact Or.inr rfl)) pgs_nil)))) (pss_cons (ps_if (PW.pt (pw_or (pt_not (pt_val (pe_c C_is_unit (hr.mono (by decide)) (pa_cons (v_check_text_unit rfl rfl) pa_nil)))) (pw_or1 (pt_cmpR (w_neD (K := K) hr.units) (pe_c C_product_of (hr.mono (by decide)) (pa_cons (pe_op op_cat (v_check_text_row rfl rfl) (pe_lst (pa_cons (v_check_text_unit rfl rfl) pa_nil))) pa_nil)) (pe_callTy (w_tuple (K := K)) (by rfl) B.tuple (by decide +kernel) (pa_cons (v_check_text_number rfl rfl) pa_nil)) (nomark _))))) (pss_one (ps_ret pe_bl)) pss_nil) (pss_one (ps_ret (pe_callB (w_all (K := K) rfl) (by rfl) B.all (by decide +kernel) (pa_cons (pe_lc (own := [("factor", 4)]) (g := (gName 4)) rfl nd (w_pil (K := K) (v_check_text_row rfl rfl)) (blkOk_by (own := [("factor", 4)]) (N := N_check_text) (sc := defScope s_check_text) (by decide +kernel)) (fun _ _ _ _ _ => (pg_name (i := 4) nd rfl (by first | exact Or.inl rfl | exact Or.inr rfl))) (fun _ _ _ _ _ => pts_nil) (fun _ _ _ _ _ => (pe_c C_is_canonical_prime (hr.mono (by decide)) (pa_cons (pv 4) pa_nil)))) pa_nil))))))), ?_⟩
    obtain ⟨X, rfl, hX, hT⟩ : ∃ X : PyData, ds = [X, .str (rowT row u)] ∧ ([X] = [qd n] ∨ [X] = [qld n]) ∧ CbE K (fun xs H Q => ∃ p ys, xs = [.ref p] ∧ ((SqL K H p ys ∧ ∀ l, H l = none → Q (.ref l) (upd H l (.tup ys))) ∨ (SqT K H p ys ∧ Q (.ref p) H))) [X] (qd n) := by
      rcases hds with rfl | rfl
      · exact ⟨_, rfl, .inl rfl, c_tupT⟩
      · exact ⟨_, rfl, .inr rfl, c_tupL⟩
    show StE K _ [some (.val X), some (.val (.str (rowT row u))), none, none, none] _ _
    refine q_drop (e_call (a_cons (e_var rfl) a_nil) ⟨n, hX, hn, h0, rfl⟩) ?_
    refine q_asgG (vs := [2, 3]) (e_call (a_cons (e_var rfl) a_nil) ⟨row, u, rfl, hl, fun q hq => ⟨(hr' q hq).1, (hr' q hq).2.1⟩, hp, hu, rfl⟩) (g_tup rfl (gs_cons g_name (gs_cons g_name gs_nil))) ?_
    show StE K _ [some (.val X), some (.val (.str (rowT row u))), some (.val (.list (row.map qd))), some (.val (qd u)), none] _ _
    have hall : ∀ q ∈ row ++ [u], q.par ∧ q.sm (2 ^ 60) := fun q hq => by
      rcases List.mem_append.mp hq with hq | hq
      · exact ⟨(hr' q hq).1, tx_sm (hr' q hq).2.1⟩
      · rw [List.mem_singleton.mp hq]
        exact ⟨hp, tx_sm hu⟩
    refine q_when (b := !(decide (nrm u = 1) && decide (prodL (row ++ [u]) = n))) ?_ (fun hb => ?_) fun hb => ?_
    · refine t_is (t_or (t_not (t_b (e_call (a_cons (e_var rfl) a_nil) ⟨u, rfl, hp, tx_sm hu, rfl⟩))) fun _ => t_test (e_op (e_call (a_cons (e_op (e_var rfl) (e_lst (a_cons (e_var rfl) a_nil) (Nat.le_of_ble_eq_true rfl)) (o_cat ?_)) a_nil) ⟨row ++ [u], by rw [List.map_append]; rfl, hall, rfl⟩) (e_cb (a_cons (e_var rfl) a_nil) hT) (o_neD (sh_qd _) (sh_qd _)))) ?_
      · rw [List.length_map, List.length_singleton]
        omega
      · rw [eqv_qd]
        cases decide (nrm u = 1) <;> rfl
    · refine st_ret e_bl ?_
      rw [Bool.not_eq_true'] at hb
      rw [← Bool.and_assoc, hb]
      rfl
    · rw [Bool.not_eq_false'] at hb
      refine st_ret (e_cb (a_cons (e_own (c_map row qd (fun q => .bool (cpQ q)) (i_list (e_var rfl)) (by omega) fun i q hq => ⟨_, g_name, ?_⟩)) a_nil) (by rw [show (row.map fun q => PyData.bool (cpQ q)) = (row.map cpQ).map .bool by rw [List.map_map]; rfl]; exact c_all)) ?_
      · obtain ⟨k1, k2, k3, k4, k5, k6⟩ := hr' q (List.mem_of_getElem? hq)
        obtain ⟨l, hl⟩ := Option.isSome_iff_exists.mp k6
        refine e_call (a_cons (e_var rfl) a_nil) ⟨q, l, rfl, k1, tx_sm k2, k3, k4, k5, hl, ?_⟩
        unfold cpQ
        rw [hl]
        simp
      · rw [← Bool.and_assoc, hb, List.all_map]
        rfl
end
end TP

/-! The law's own mirrors, and the finite facts. -/
namespace TP
open PySem L2 PySem.Spec PyProof.Rows
/-- the canonical primes that the law's rows are made of -/
def PL0 : List Q4 := [⟨2, 2, 0, 0⟩, ⟨3, 1, -1, -1⟩, ⟨3, 1, -1, 1⟩, ⟨3, 1, 1, -1⟩, ⟨3, 1, 1, 1⟩]
def PL1 : List Q4 := [⟨4, -2, 0, 0⟩, ⟨4, 0, -2, 0⟩, ⟨4, 0, 0, -2⟩, ⟨4, 0, 0, 2⟩, ⟨4, 0, 2, 0⟩]
def PL2 : List Q4 := [⟨4, 2, 0, 0⟩, ⟨5, -1, -1, -1⟩, ⟨5, -1, -1, 1⟩, ⟨5, -1, 1, -1⟩, ⟨5, -1, 1, 1⟩]
def PL3 : List Q4 := [⟨5, 1, -1, -1⟩, ⟨5, 1, -1, 1⟩, ⟨5, 1, 1, -1⟩, ⟨5, 1, 1, 1⟩, ⟨6, -4, 0, 0⟩]
def PL4 : List Q4 := [⟨6, -2, -2, 0⟩, ⟨6, -2, 2, 0⟩, ⟨6, 0, -4, 0⟩, ⟨6, 0, -2, -2⟩, ⟨6, 0, -2, 2⟩]
def PL5 : List Q4 := [⟨6, 0, 0, -4⟩, ⟨6, 0, 0, 4⟩, ⟨6, 0, 2, -2⟩, ⟨6, 0, 2, 2⟩, ⟨6, 0, 4, 0⟩]
def PL6 : List Q4 := [⟨6, 2, -2, 0⟩, ⟨6, 2, 2, 0⟩, ⟨6, 4, 0, 0⟩, ⟨8, -2, -2, -2⟩, ⟨8, -2, -2, 2⟩]
def PL7 : List Q4 := [⟨8, -2, 0, 0⟩, ⟨8, -2, 2, -2⟩, ⟨8, -2, 2, 2⟩, ⟨8, 0, 0, -2⟩, ⟨8, 0, 0, 2⟩]
def PL8 : List Q4 := [⟨8, 2, -2, -2⟩, ⟨8, 2, -2, 2⟩, ⟨8, 2, 0, 0⟩, ⟨8, 2, 2, -2⟩, ⟨8, 2, 2, 2⟩]
def PL9 : List Q4 := [⟨9, -3, -1, -1⟩, ⟨9, -3, -1, 1⟩, ⟨9, -3, 1, -1⟩, ⟨9, -3, 1, 1⟩, ⟨9, -1, -1, -3⟩]
def PL10 : List Q4 := [⟨9, -1, -1, 3⟩, ⟨9, -1, 1, -3⟩, ⟨9, -1, 1, 3⟩, ⟨9, 1, -1, -3⟩, ⟨9, 1, -1, 3⟩]
def PL11 : List Q4 := [⟨9, 1, 1, -3⟩, ⟨9, 1, 1, 3⟩, ⟨9, 3, -1, -1⟩, ⟨9, 3, -1, 1⟩, ⟨9, 3, 1, -1⟩]
def PL12 : List Q4 := [⟨9, 3, 1, 1⟩]
def PL : List Q4 := PL0 ++ (PL1 ++ (PL2 ++ (PL3 ++ (PL4 ++ (PL5 ++ (PL6 ++ (PL7 ++ (PL8 ++ (PL9 ++ (PL10 ++ (PL11 ++ (PL12))))))))))))
/-- the law's written primes -/
def GV : List Q4 := [⟨2, 2, 0, 0⟩, ⟨2, 2, 2, 0⟩, ⟨4, 2, 0, 0⟩, ⟨4, 2, 2, 2⟩, ⟨6, 2, 2, 0⟩, ⟨6, 4, 0, 0⟩, ⟨8, 2, 0, 0⟩, ⟨3, 3, 1, 1⟩, ⟨5, 1, 1, 1⟩, ⟨5, 5, 1, 1⟩, ⟨8, 2, 2, 2⟩, ⟨9, 3, 1, 1⟩]
def gvL (i t : Nat) : List Int := ((GV.getD i ⟨0, 0, 0, 0⟩).l.drop t) ++ ((GV.getD i ⟨0, 0, 0, 0⟩).l.take t)
def lpQ (l : List Int) (s : List Int) : Q4 := ⟨l.getD 0 0 * s.getD 0 0, l.getD 1 0 * s.getD 1 0, l.getD 2 0 * s.getD 2 0, l.getD 3 0 * s.getD 3 0⟩
def sgs : List (List Int) := [1, -1].flatMap fun a => [1, -1].flatMap fun b => [1, -1].flatMap fun c => [1, -1].map fun d => [a, b, c, d]
def bpB (i : Nat) : Bool := (List.range 4).all fun t => sgs.all fun s => PL.contains (best (lpQ (gvL i t) s))
theorem bp0 : bpB 0 = true := by decide +kernel
theorem bp1 : bpB 1 = true := by decide +kernel
theorem bp2 : bpB 2 = true := by decide +kernel
theorem bp3 : bpB 3 = true := by decide +kernel
theorem bp4 : bpB 4 = true := by decide +kernel
theorem bp5 : bpB 5 = true := by decide +kernel
theorem bp6 : bpB 6 = true := by decide +kernel
theorem bp7 : bpB 7 = true := by decide +kernel
theorem bp8 : bpB 8 = true := by decide +kernel
theorem bp9 : bpB 9 = true := by decide +kernel
theorem bp10 : bpB 10 = true := by decide +kernel
theorem bp11 : bpB 11 = true := by decide +kernel
theorem best_PL : ((List.range 12).all fun i => (List.range 4).all fun t => sgs.all fun s => PL.contains (best (lpQ (gvL i t) s))) = true := by
  rw [List.all_eq_true]
  intro i hi
  have hi := List.mem_range.mp hi
  have k : i = 0 ∨ i = 1 ∨ i = 2 ∨ i = 3 ∨ i = 4 ∨ i = 5 ∨ i = 6 ∨ i = 7 ∨ i = 8 ∨ i = 9 ∨ i = 10 ∨ i = 11 := by omega
  rcases k with rfl | rfl | rfl | rfl | rfl | rfl | rfl | rfl | rfl | rfl | rfl | rfl
  · exact bp0
  · exact bp1
  · exact bp2
  · exact bp3
  · exact bp4
  · exact bp5
  · exact bp6
  · exact bp7
  · exact bp8
  · exact bp9
  · exact bp10
  · exact bp11
def isP (v : Int) : Bool := (rng 2 198).all (fun k => !(decide (k * k ≤ v) && decide (v % k = 0))) && decide (v > 1)
def wpOk (v : Int) : Bool := (wp v).isSome && (isP v == decide (wp v = some [(v, 1)]))
theorem wp_all : ((List.range 528).all fun i => wpOk ((i : Int) + 2)) = true := by decide +kernel
def txB (q : Q4) : Bool := decide (-64 < q.a ∧ q.a < 64) && decide (-64 < q.b ∧ q.b < 64) && decide (-64 < q.c ∧ q.c < 64) && decide (-64 < q.d ∧ q.d < 64)
def plOk (f : Q4) : Bool := decide f.par && txB f && decide (best f = f) && decide (1 < nrm f) && decide (nrm f ≤ 23) && decide (wp (nrm f) = some [(nrm f, 1)])
theorem pl_all : PL.all plOk = true := by decide +kernel
def chk (f u : Q4) : Bool := let n := mul f u
  decide (n.par) && txB n && decide (0 < gq n) && decide (gq n < 1073741824) && decide (contQ n = 1) && (match euc 20 n ⟨2 * nrm f, 0, 0, 0⟩ with
  | none => false
  | some g => decide g.par && decide (g ≠ ⟨0, 0, 0, 0⟩) && decide (best g = f)) && decide (dr n f = ⟨0, 0, 0, 0⟩) && decide (dq n f = u)
def chkF (f : Q4) : Bool := U.all fun u => chk f u
theorem ck0 : PL0.all chkF = true := by decide +kernel
theorem ck1 : PL1.all chkF = true := by decide +kernel
theorem ck2 : PL2.all chkF = true := by decide +kernel
theorem ck3 : PL3.all chkF = true := by decide +kernel
theorem ck4 : PL4.all chkF = true := by decide +kernel
theorem ck5 : PL5.all chkF = true := by decide +kernel
theorem ck6 : PL6.all chkF = true := by decide +kernel
theorem ck7 : PL7.all chkF = true := by decide +kernel
theorem ck8 : PL8.all chkF = true := by decide +kernel
theorem ck9 : PL9.all chkF = true := by decide +kernel
theorem ck10 : PL10.all chkF = true := by decide +kernel
theorem ck11 : PL11.all chkF = true := by decide +kernel
theorem ck12 : PL12.all chkF = true := by decide +kernel
theorem chk_all : (PL.all fun f => U.all fun u => chk f u) = true := by
  show PL.all chkF = true
  unfold PL
  rw [List.all_append, ck0, Bool.true_and]
  rw [List.all_append, ck1, Bool.true_and]
  rw [List.all_append, ck2, Bool.true_and]
  rw [List.all_append, ck3, Bool.true_and]
  rw [List.all_append, ck4, Bool.true_and]
  rw [List.all_append, ck5, Bool.true_and]
  rw [List.all_append, ck6, Bool.true_and]
  rw [List.all_append, ck7, Bool.true_and]
  rw [List.all_append, ck8, Bool.true_and]
  rw [List.all_append, ck9, Bool.true_and]
  rw [List.all_append, ck10, Bool.true_and]
  rw [List.all_append, ck11, Bool.true_and]
  exact ck12
def chkU (u : Q4) : Bool := decide u.par && txB u && decide (0 < gq u) && decide (gq u < 1073741824) && decide (contQ u = 1) && decide (wp (nrm u) = some []) && decide (nrm u = 1) && decide (u ≠ ⟨0, 0, 0, 0⟩)
theorem chkU_all : U.all chkU = true := by decide +kernel
end TP

/-! the law's own parts: rows of numbers, primes, what is right. -/
namespace TP
open PySem L2 PySem.Spec PyProof.Rows
local macro_rules | `(tactic| walk_at "ev1") => `(tactic| first
  | with_reducible exact e_int
  | with_reducible exact e_str
  | with_reducible exact e_bl
  | with_reducible exact e_non
  | ((with_reducible apply e_var); exact rfl)
  | with_reducible apply e_op
  | with_reducible apply e_un
  | with_reducible apply e_call
  | with_reducible apply e_cb
  | with_reducible apply e_tup
  | with_reducible apply e_sl
  | with_reducible apply e_chain
  | with_reducible apply e_and
  | with_reducible apply e_or
  | with_reducible apply e_rev
  | with_reducible apply e_lst
  | exact Nat.le_of_ble_eq_true rfl
  | with_reducible exact p_none
  | with_reducible apply p_some
  | with_reducible exact a_nil
  | with_reducible apply a_cons
  | with_reducible apply t_b
  | with_reducible apply t_test
  | with_reducible exact t_yes
  | with_reducible apply t_not
  | with_reducible apply t_and
  | with_reducible apply t_or
  | with_reducible exact o_add
  | with_reducible exact o_sub
  | with_reducible apply o_mul
  | with_reducible apply o_div
  | with_reducible apply o_mod
  | with_reducible apply o_pow
  | with_reducible exact o_lt
  | with_reducible exact o_le
  | with_reducible exact o_gt
  | with_reducible exact o_ge
  | with_reducible exact u_neg
  | with_reducible exact o_eqI
  | with_reducible exact o_neI
  | with_reducible exact o_eqS
  | with_reducible exact o_neS
  | with_reducible exact o_neB
  | with_reducible exact o_isN
  | with_reducible exact o_notN
  | with_reducible exact o_isB
  | with_reducible exact o_notB
  | with_reducible exact c_int
  | with_reducible exact c_abs
  | with_reducible exact c_gcd
  | with_reducible exact c_lenL
  | with_reducible exact c_lenT
  | with_reducible exact c_tupL
  | with_reducible exact c_tupT
  | with_reducible exact s_lst
  | with_reducible exact s_tup
  | (refine fun (_ : _ = true) => ?_)
  | (refine fun (_ : _ = false) => ?_))
/-! ### mirrors -/
def absI (c : Int) : Int := if c < 0 then -c else c
def lr (c : Int) : Nat → Int × Int × List Int
  | 0 => (absI c, (absI c * 48271 + 69621) % 2147483647, [])
  | k + 1 => let m := ((lr c k).2.1 * 16807 + 271 * ((k : Int) + 3)) % 2147483629
    if absI c ≥ 10 ^ 18 then ((lr c k).1 / 1009, m, (lr c k).2.2 ++ [(lr c k).1 % 1009]) else ((lr c k).1, m, (lr c k).2.2 ++ [m / 7 % 1009])
def lawRow (c : Int) (m : Nat) : List Int := (lr c m).2.2
theorem lr_len (c : Int) : ∀ k, (lr c k).2.2.length = k
  | 0 => rfl
  | k + 1 => by
    have ih := lr_len c k
    unfold lr
    simp only
    split <;> simp only [List.length_append, List.length_singleton] <;> omega
def eachN (ns : List Int) : Int := 1 + 60 / (if ((ns.length : Nat) : Int) > 1 then ((ns.length : Nat) : Int) else 1)
def nums0 (ns : List Int) : List Int := ns.flatMap fun c => lawRow c (eachN ns).toNat
def lawNums (ns : List Int) : List Int := (nums0 ns ++ List.replicate (60 - (nums0 ns).length) 0).take 60
theorem lawNums_len (ns : List Int) : (lawNums ns).length = 60 := by
  unfold lawNums
  rw [List.length_take, List.length_append, List.length_replicate]
  omega
theorem eachN_bd (ns : List Int) : 1 ≤ eachN ns ∧ eachN ns ≤ 61 := by
  unfold eachN
  split
  · rename_i h
    have h1 : 0 ≤ (60 : Int) / ((ns.length : Nat) : Int) := Int.ediv_nonneg (by decide) (by omega)
    have h2 : (60 : Int) / ((ns.length : Nat) : Int) ≤ 60 := Int.ediv_le_self _ (by decide)
    omega
  · omega
theorem flat_len {l : List Int} {f : Int → List Int} {m : Nat} (h : ∀ c, (f c).length ≤ m) : (l.flatMap f).length ≤ l.length * m := by
  induction l with
  | nil => simp
  | cons a l ih =>
    rw [List.flatMap_cons, List.length_append, List.length_cons, Nat.add_mul]
    have := h a
    omega
theorem nums0_len {ns : List Int} (h : ns.length ≤ 63) (i : Nat) : ((ns.take i).flatMap fun c => lawRow c (eachN ns).toNat).length ≤ 63 * 61 := by
  have := flat_len (l := ns.take i) (f := fun c => lawRow c (eachN ns).toNat) (m := 61) fun c => by
    show (lr c (eachN ns).toNat).2.2.length ≤ 61
    rw [lr_len]
    have := (eachN_bd ns).2
    omega
  have h2 : (ns.take i).length * 61 ≤ 63 * 61 := Nat.mul_le_mul_right _ (by rw [List.length_take]; omega)
  omega
def lawPrime (nums : List Int) (k : Nat) : Q4 := lpQ (gvL (nums.getD k 0 % 12).toNat (nums.getD (k + 1) 0 % 4).toNat) ([1, 2, 4, 8].map fun m => 1 - 2 * (nums.getD (k + 2) 0 / m % 2))
theorem sg_mem (x : Int) : ([1, 2, 4, 8].map fun m => 1 - 2 * (x / m % 2)) ∈ sgs := by
  have k : ∀ m : Int, 1 - 2 * (x / m % 2) = 1 ∨ 1 - 2 * (x / m % 2) = -1 := fun m => by omega
  simp only [List.map_cons, List.map_nil]
  rcases k 1 with a | a <;> rcases k 2 with b | b <;> rcases k 4 with c | c <;> rcases k 8 with d | d <;> rw [a, b, c, d] <;> decide
theorem prime_PL (nums : List Int) (k : Nat) : best (lawPrime nums k) ∈ PL := by
  have h := best_PL
  rw [List.all_eq_true] at h
  have h1 := h (nums.getD k 0 % 12).toNat (List.mem_range.mpr (by omega))
  rw [List.all_eq_true] at h1
  have h2 := h1 (nums.getD (k + 1) 0 % 4).toNat (List.mem_range.mpr (by omega))
  rw [List.all_eq_true] at h2
  have h3 := h2 _ (sg_mem (nums.getD (k + 2) 0))
  exact List.contains_iff_mem.mp h3
def rightB (n : Q4) (row : List Q4) (u : Q4) : Bool := decide (nrm u = 1) && (decide (prodL (row ++ [u]) = n) && row.all fun f => isP (nrm f) && decide (best f = f))
/-! ### promises -/
def R_lrow : List PyData → PyData → Prop := fun ds d => ∃ c m : Int, ds = [.int c, .int m] ∧ 0 ≤ m ∧ m ≤ 100 ∧ d = .list ((lawRow c m.toNat).map .int)
def R_isP : List PyData → PyData → Prop := fun ds d => ∃ v : Int, ds = [.int v] ∧ d = .bool (isP v)
def R_lprime : List PyData → PyData → Prop := fun ds d => ∃ (nums : List Int) (k : Nat), ds = [.list (nums.map .int), .int (k : Int)] ∧ k + 2 < nums.length ∧ d = qd (lawPrime nums k)
def R_right : List PyData → PyData → Prop := fun ds d => ∃ (n : Q4) (row : List Q4) (u : Q4), ds = [qd n, .list (row.map qd), qd u] ∧ row.length ≤ 100 ∧ (∀ f ∈ row, f.sm (2 ^ 60)) ∧ u.sm (2 ^ 60) ∧ d = .bool (rightB n row u)
def spNum (K : PySem.W.Frag) : Sp := fun vs H Q _ => ∃ (a : Addr) (ns : List Int) (F : Hp), vs = [.ref a, .int 60] ∧ SqL K H a (ns.map V.int) ∧ ns.length ≤ 63 ∧ Ex F H ∧ ∀ v F' H', Step F H F' H' → Rp K F' v (.list ((lawNums ns).map .int)) → Q v H'
theorem at_q {l : List Q4} {k : Nat} (h : k < l.length) : atI (l.map qd) (k : Int) = some (qd (l.getD k ⟨0, 0, 0, 0⟩)) := by
  rw [atI_nat (j := k) (v := qd (l.getD k ⟨0, 0, 0, 0⟩)) ?_]
  rw [List.getElem?_map, List.getD_eq_getElem?_getD, List.getElem?_eq_getElem h]
  rfl
theorem at_qi {l : List Q4} {i : Int} (h0 : 0 ≤ i) (h : i.toNat < l.length) : atI (l.map qd) i = some (qd (l.getD i.toNat ⟨0, 0, 0, 0⟩)) := by
  have := at_q h
  rw [Int.toNat_of_nonneg h0] at this
  exact this
theorem rng_get {lo : Int} {n i : Nat} {a : Int} (h : (rng lo n)[i]? = some a) : i < n ∧ a = lo + (i : Int) := by
  have := rng_at (lo := lo) (n := n) (i := i) (d := .int a) (by rw [List.getElem?_map, h]; rfl)
  exact ⟨this.1, by have := this.2; cases this; rfl⟩
theorem gvL_len (i t : Nat) (ht : t ≤ 4) : (gvL i t).length = 4 := by
  unfold gvL
  rw [List.length_append, List.length_drop, List.length_take]
  show 4 - t + min t 4 = 4
  omega
theorem cut_from {q : Q4} {t : Nat} (ht : t < 4) : cutD (q.l.map .int) (some (t : Int)) none = (q.l.drop t).map .int := by
  rcases lt4 ht with rfl | rfl | rfl | rfl <;> rfl
theorem cut_to {q : Q4} {t : Nat} (ht : t < 4) : cutD (q.l.map .int) none (some (t : Int)) = (q.l.take t).map .int := by
  rcases lt4 ht with rfl | rfl | rfl | rfl <;> rfl
theorem cut_upto {ds : List PyData} {k : Nat} : cutD ds none (some (k : Int)) = ds.take k := by
  unfold cutD
  rw [HT.sIx_none, HT.sIx_nat, Nat.sub_zero, List.drop_zero]
  rcases Nat.le_total k ds.length with h | h
  · rw [Nat.min_eq_left h]
  · rw [Nat.min_eq_right h, List.take_length, List.take_of_length_le h]
theorem cut_frm {ds : List PyData} {k : Nat} : cutD ds (some (k : Int)) none = ds.drop k := by
  unfold cutD
  rw [HT.sIx_none, HT.sIx_nat]
  rcases Nat.le_total k ds.length with h | h
  · rw [Nat.min_eq_left h, List.take_of_length_le (by rw [List.length_drop]; exact Nat.le_refl _)]
  · rw [Nat.min_eq_right h, Nat.sub_self, List.take_zero, List.drop_of_length_le h]
section
variable {P : Program} {w : World} {K : PySem.W.Frag} {mg : Str → Option Value} {base : Heap}
/-- the rule for a def with a promise of its own -/
theorem mk_calS {x : Str} {st : Stmt} {N ps : List Str} {k : Nat} {sp : Sp} (D : Dn K mg x st ps) (S : FnScope N ps (defScope st)) (len : ∀ vs H Q E, sp vs H Q E → vs.length = ps.length)
    (body : ∀ (cdv : Value) (A : Around) (outer : List Env) (s : Shared) (H : Hp) (f : Addr) (E : XK) (vs : List V) (Q : VK), Room k (A.deeper (envOfC x (defScope st) s.heap.objs.size f cdv)) → sp vs H Q E →
      ∃ t : TS, PSs (cxOf CX0 P w K mg base N x (defScope st) f cdv A outer s H E).nox (defBody st) t ∧ t { nx := fun _ H' => Q .non H', rt := Q } (L2.start N vs) H) : Cal P w K mg base x (k + 1) ps sp := by
  obtain ⟨f, fd, F, hm, hb⟩ := D
  refine ⟨f, fd, hm, F.kp, hb, F.ok S (fun vs H Q E h => len vs H Q E h) fun cdv A outer s H vs Q E hr h => ?_⟩
  obtain ⟨t, h1, h2⟩ := body cdv A outer s H f E vs Q hr h
  exact ⟨t, h1.nox, h2⟩
theorem env_none {H0 F H : Hp} {σ : L2.St} : EnvOk K H0 F H σ (List.replicate σ.length none) := by
  refine ⟨by rw [List.length_replicate], fun i b h => ?_, fun i j ds' es p h => ?_⟩
  · rw [List.getElem?_replicate] at h
    split at h <;> cases h
  · rw [List.getElem?_replicate] at h
    split at h <;> cases h
theorem start_asg {te : TE} {i : Nat} {u : TS} {D : Ends} {σ : L2.St} {H : Hp} (h : ∀ Q : VK, (∀ x H1, u D (σ.set i (some x)) H1 → Q x H1) → te σ H Q) : (tSeq (tAsg te (gName i)) u) D σ H := h _ fun _ _ z => z
theorem via_st {u : TS} {env : En} {N : En → Prop} {R : PyData → Prop} {D : Ends} {σ : L2.St} {F0 H0 F H : Hp} (hS : StE K u env N R) (s : Step F0 H0 F H) (ok : EnvOk K H0 F H σ env) (n : ∀ env' σ' F' H', Ex F F' → Step F0 H0 F' H' → EnvOk K H0 F' H' σ' env' → N env' → D.nx σ' H')
    (r : ∀ v d F' H', Step F0 H0 F' H' → Rp K F' v d → R d → D.rt v H') : u D σ H := hS F0 H0 F H σ D s ok n r
abbrev N_law_row : List Str := ["_law_cell", "_law_many", "_law_row_here", "_law_rest", "_law_mixed", "_law_k"]
theorem sc_law_row : FnScope N_law_row ["_law_cell", "_law_many"] (defScope s_law_row) := ⟨rfl, rfl, rfl, by decide +kernel, rfl, by decide +kernel, by decide +kernel⟩
theorem v_law_row_law_cell {X : Cx} {pos : Pos} (hN : X.N = N_law_row) (hs : X.env.scope = defScope s_law_row) : PE X (.Name "_law_cell" pos) (tVar 0) := pe_var (by rw [hN]; rfl) (by rw [hs]; exact Or.inl (by decide +kernel)) (by decide +kernel) (by decide +kernel)
theorem v_law_row_law_many {X : Cx} {pos : Pos} (hN : X.N = N_law_row) (hs : X.env.scope = defScope s_law_row) : PE X (.Name "_law_many" pos) (tVar 1) := pe_var (by rw [hN]; rfl) (by rw [hs]; exact Or.inl (by decide +kernel)) (by decide +kernel) (by decide +kernel)
theorem v_law_row_law_row_here {X : Cx} {pos : Pos} (hN : X.N = N_law_row) (hs : X.env.scope = defScope s_law_row) : PE X (.Name "_law_row_here" pos) (tVar 2) := pe_var (by rw [hN]; rfl) (by rw [hs]; exact Or.inl (by decide +kernel)) (by decide +kernel) (by decide +kernel)
theorem v_law_row_law_rest {X : Cx} {pos : Pos} (hN : X.N = N_law_row) (hs : X.env.scope = defScope s_law_row) : PE X (.Name "_law_rest" pos) (tVar 3) := pe_var (by rw [hN]; rfl) (by rw [hs]; exact Or.inl (by decide +kernel)) (by decide +kernel) (by decide +kernel)
theorem v_law_row_law_mixed {X : Cx} {pos : Pos} (hN : X.N = N_law_row) (hs : X.env.scope = defScope s_law_row) : PE X (.Name "_law_mixed" pos) (tVar 4) := pe_var (by rw [hN]; rfl) (by rw [hs]; exact Or.inl (by decide +kernel)) (by decide +kernel) (by decide +kernel)
theorem v_law_row_law_k {X : Cx} {pos : Pos} (hN : X.N = N_law_row) (hs : X.env.scope = defScope s_law_row) : PE X (.Name "_law_k" pos) (tVar 5) := pe_var (by rw [hN]; rfl) (by rw [hs]; exact Or.inl (by decide +kernel)) (by decide +kernel) (by decide +kernel)
theorem ok_law_row (B : Mg K mg) (D : Dn K mg "_law_row" s_law_row ["_law_cell", "_law_many"]) : Cal P w K mg base "_law_row" 1 ["_law_cell", "_law_many"] (spR K R_lrow) := by
  have nd := sc_law_row.nd
  refine mk_cal D sc_law_row (fun ds d h => ?_) (fun cdv A outer s H f E ds d hr h => ?_)
  · obtain ⟨c, m, rfl, _⟩ := h
    rfl
  · obtain ⟨c, m, rfl, m0, m1, rfl⟩ := h
    refine ⟨_, (pss_cons (ps_set (i := 2) nd rfl (by first | exact Or.inl rfl | exact Or.inr rfl) (pe_lst pa_nil)) (pss_cons (ps_set (i := 3) nd rfl (by first | exact Or.inl rfl | exact Or.inr rfl) (pe_callB call_abs (by rfl) B.abs (by decide +kernel) (pa_cons (v_law_row_law_cell rfl rfl) pa_nil))) (pss_cons (ps_set (i := 4) nd rfl (by first | exact Or.inl rfl | exact Or.inr rfl) (pe_op op_mod (pe_callTy call_int1 (by rfl) B.int (by decide +kernel) (pa_cons (pe_op op_add (pe_op op_mul (v_law_row_law_rest rfl rfl) pe_int) pe_int) pa_nil)) pe_int)) (pss_cons (ps_for PassesOwn.never rfl (pi_range1 rfl B.range (pa_cons (v_law_row_law_many rfl rfl) pa_nil)) (pg_name (i := 5) nd rfl (by first | exact Or.inl rfl | exact Or.inr rfl)) (pss_cons (ps_set (i := 4) nd rfl (by first | exact Or.inl rfl | exact Or.inr rfl) (pe_op op_mod (pe_callTy call_int1 (by rfl) B.int (by decide +kernel) (pa_cons (pe_op op_add (pe_op op_mul (v_law_row_law_mixed rfl rfl) pe_int) (pe_op op_mul pe_int (pe_op op_add (v_law_row_law_k rfl rfl) pe_int))) pa_nil)) pe_int)) (pss_one (ps_if (pt_cmpR op_ge (pe_callB call_abs (by rfl) B.abs (by decide +kernel) (pa_cons (v_law_row_law_cell rfl rfl) pa_nil)) (pe_op op_pow pe_int pe_int) (nomark _)) (pss_cons (ps_expr (pe_bm PySem.F.plainAttrs_list PySem.F.slot_list_append PySem.F.type_list_append mt_append (v_law_row_law_row_here rfl rfl) (pa_cons (pe_op op_mod (pe_callTy call_int1 (by rfl) B.int (by decide +kernel) (pa_cons (v_law_row_law_rest rfl rfl) pa_nil)) pe_int) pa_nil))) (pss_one (ps_set (i := 3) nd rfl (by first | exact Or.inl rfl | exact Or.inr rfl) (pe_op op_fdiv (v_law_row_law_rest rfl rfl) pe_int)))) (pss_one (ps_expr (pe_bm PySem.F.plainAttrs_list PySem.F.slot_list_append PySem.F.type_list_append mt_append (v_law_row_law_row_here rfl rfl) (pa_cons (pe_op op_mod (pe_callTy call_int1 (by rfl) B.int (by decide +kernel) (pa_cons (pe_op op_fdiv (v_law_row_law_mixed rfl rfl) pe_int) pa_nil)) pe_int) pa_nil)))))))) (pss_one (ps_ret (v_law_row_law_row_here rfl rfl))))))), ?_⟩
    show StE K _ [some (.val (.int c)), some (.val (.int m)), none, none, none, none] _ _
    refine q_own (ds := []) (o_lst a_nil (Nat.le_of_ble_eq_true rfl)) ?_
    refine q_asg (d := .int (absI c)) (e_cb (a_cons (e_var rfl) a_nil) c_abs) ?_
    refine q_asg (d := .int ((absI c * 48271 + 69621) % 2147483647)) (e_op (e_cb (a_cons (e_op (e_op (e_var rfl) e_int (o_mul (cmr ⟨by decide, by decide⟩))) e_int o_add) a_nil) c_int) e_int (o_mod (by decide))) ?_
    refine q_for (vs := [5]) (i_rng1 (n := m) (a_cons (e_var rfl) a_nil) (by omega) (by omega)) (fun i env => ∃ x, env = [some (.val (.int c)), some (.val (.int m)), some (.own ((lr c i).2.2.map .int)), some (.val (.int (lr c i).1)), some (.val (.int (lr c i).2.1)), x]) ⟨none, rfl⟩ ?_ ?_
    · rintro k d e hd ⟨x, rfl⟩
      obtain ⟨hk, rfl⟩ := rng_at hd
      rw [Int.zero_add]
      refine ⟨_, g_name, ?_⟩
      show StE K _ [some (.val (.int c)), some (.val (.int m)), some (.own ((lr c k).2.2.map .int)), some (.val (.int (lr c k).1)), some (.val (.int (lr c k).2.1)), some (.val (.int (k : Int)))] _ _
      refine q_asg (d := .int (((lr c k).2.1 * 16807 + 271 * ((k : Int) + 3)) % 2147483629)) (e_op (e_cb (a_cons (e_op (e_op (e_var rfl) e_int (o_mul (cmr ⟨by decide, by decide⟩))) (e_op e_int (e_op (e_var rfl) e_int o_add) (o_mul (cml ⟨by decide, by decide⟩))) o_add) a_nil) c_int) e_int (o_mod (by decide))) ?_
      have hl : ((lr c k).2.2.map PyData.int).length < 100000 := by
        rw [List.length_map, lr_len]
        omega
      refine st_if (b := decide (absI c ≥ 10 ^ 18)) (t_test (e_op (e_cb (a_cons (e_var rfl) a_nil) c_abs) (e_op e_int e_int (o_pow ⟨by decide, by decide, by decide⟩)) o_ge)) (fun hb => ?_) fun hb => ?_
      · refine q_app rfl (d := .int ((lr c k).1 % 1009)) (e_op (e_cb (a_cons (e_var rfl) a_nil) c_int) e_int (o_mod (by decide))) hl ?_
        refine st_asg (d := .int ((lr c k).1 / 1009)) (e_op (e_var rfl) e_int (o_div (cdiv (by decide) (by decide)))) ⟨some (.val (.int (k : Int))), ?_⟩
        have e : lr c (k + 1) = ((lr c k).1 / 1009, ((lr c k).2.1 * 16807 + 271 * ((k : Int) + 3)) % 2147483629, (lr c k).2.2 ++ [(lr c k).1 % 1009]) := by
          rw [lr]
          exact if_pos (of_decide_eq_true hb)
        rw [e, List.map_append]
        rfl
      · refine st_app rfl (d := .int (((lr c k).2.1 * 16807 + 271 * ((k : Int) + 3)) % 2147483629 / 7 % 1009)) (e_op (e_cb (a_cons (e_op (e_var rfl) e_int (o_div (cdiv (by decide) (by decide)))) a_nil) c_int) e_int (o_mod (by decide))) hl ⟨some (.val (.int (k : Int))), ?_⟩
        have e : lr c (k + 1) = ((lr c k).1, ((lr c k).2.1 * 16807 + 271 * ((k : Int) + 3)) % 2147483629, (lr c k).2.2 ++ [((lr c k).2.1 * 16807 + 271 * ((k : Int) + 3)) % 2147483629 / 7 % 1009]) := by
          rw [lr]
          exact if_neg (of_decide_eq_false hb)
        rw [e, List.map_append]
        rfl
    · rintro e ⟨x, rfl⟩
      refine st_frz 2 rfl ?_
      refine st_ret (e_var rfl) ?_
      have : ((rng 0 m.toNat).map PyData.int).length = m.toNat := by
        unfold rng
        rw [List.length_map, List.length_map, List.length_range]
      rw [this]
      rfl
abbrev N_law_numbers : List Str := ["_law_script", "_law_many", "_law_cells", "_law_each", "_law_numbers_here", "_law_cell", "_law_number_here"]
theorem sc_law_numbers : FnScope N_law_numbers ["_law_script", "_law_many"] (defScope s_law_numbers) := ⟨rfl, rfl, rfl, by decide +kernel, rfl, by decide +kernel, by decide +kernel⟩
theorem v_law_numbers_law_script {X : Cx} {pos : Pos} (hN : X.N = N_law_numbers) (hs : X.env.scope = defScope s_law_numbers) : PE X (.Name "_law_script" pos) (tVar 0) := pe_var (by rw [hN]; rfl) (by rw [hs]; exact Or.inl (by decide +kernel)) (by decide +kernel) (by decide +kernel)
theorem v_law_numbers_law_many {X : Cx} {pos : Pos} (hN : X.N = N_law_numbers) (hs : X.env.scope = defScope s_law_numbers) : PE X (.Name "_law_many" pos) (tVar 1) := pe_var (by rw [hN]; rfl) (by rw [hs]; exact Or.inl (by decide +kernel)) (by decide +kernel) (by decide +kernel)
theorem v_law_numbers_law_cells {X : Cx} {pos : Pos} (hN : X.N = N_law_numbers) (hs : X.env.scope = defScope s_law_numbers) : PE X (.Name "_law_cells" pos) (tVar 2) := pe_var (by rw [hN]; rfl) (by rw [hs]; exact Or.inl (by decide +kernel)) (by decide +kernel) (by decide +kernel)
theorem v_law_numbers_law_each {X : Cx} {pos : Pos} (hN : X.N = N_law_numbers) (hs : X.env.scope = defScope s_law_numbers) : PE X (.Name "_law_each" pos) (tVar 3) := pe_var (by rw [hN]; rfl) (by rw [hs]; exact Or.inl (by decide +kernel)) (by decide +kernel) (by decide +kernel)
theorem v_law_numbers_law_numbers_here {X : Cx} {pos : Pos} (hN : X.N = N_law_numbers) (hs : X.env.scope = defScope s_law_numbers) : PE X (.Name "_law_numbers_here" pos) (tVar 4) := pe_var (by rw [hN]; rfl) (by rw [hs]; exact Or.inl (by decide +kernel)) (by decide +kernel) (by decide +kernel)
theorem v_law_numbers_law_cell {X : Cx} {pos : Pos} (hN : X.N = N_law_numbers) (hs : X.env.scope = defScope s_law_numbers) : PE X (.Name "_law_cell" pos) (tVar 5) := pe_var (by rw [hN]; rfl) (by rw [hs]; exact Or.inl (by decide +kernel)) (by decide +kernel) (by decide +kernel)
theorem v_law_numbers_law_number_here {X : Cx} {pos : Pos} (hN : X.N = N_law_numbers) (hs : X.env.scope = defScope s_law_numbers) : PE X (.Name "_law_number_here" pos) (tVar 6) := pe_var (by rw [hN]; rfl) (by rw [hs]; exact Or.inl (by decide +kernel)) (by decide +kernel) (by decide +kernel)
theorem ok_law_numbers (B : Mg K mg) (C_law_row : Cal P w K mg base "_law_row" 1 ["_law_cell", "_law_many"] (spR K R_lrow)) (D : Dn K mg "_law_numbers" s_law_numbers ["_law_script", "_law_many"]) : Cal P w K mg base "_law_numbers" 2 ["_law_script", "_law_many"] (spNum K) := by
  have nd := sc_law_numbers.nd
  refine mk_calS D sc_law_numbers (fun vs H Q E h => ?_) (fun cdv A outer s H f E vs Q hr h => ?_)
  · obtain ⟨a, ns, F, rfl, _⟩ := h
    rfl
  · obtain ⟨a, ns, F, rfl, hS, hl, hF, hQ⟩ := h
    refine ⟨_, (pss_cons (ps_set (i := 2) nd rfl (by first | exact Or.inl rfl | exact Or.inr rfl) (pe_slice (w_slL (K := K)) (v_law_numbers_law_script rfl rfl) po_none (po_some pe_int))) (pss_cons (ps_set (i := 3) nd rfl (by first | exact Or.inl rfl | exact Or.inr rfl) (pe_op op_add pe_int (pe_op op_fdiv (v_law_numbers_law_many rfl rfl) (pe_callB (call_max2 rfl) (by rfl) B.max (by decide +kernel) (pa_cons pe_int (pa_cons (pe_callB (w_len (K := K)) (by rfl) B.len PySem.boot_len (pa_cons (v_law_numbers_law_cells rfl rfl) pa_nil)) pa_nil)))))) (pss_cons (ps_set (i := 4) nd rfl (by first | exact Or.inl rfl | exact Or.inr rfl) (pe_lst pa_nil)) (pss_cons (ps_for PassesOwn.never rfl (w_pil (K := K) (v_law_numbers_law_cells rfl rfl)) (pg_name (i := 5) nd rfl (by first | exact Or.inl rfl | exact Or.inr rfl)) (pss_one (ps_for PassesOwn.never rfl (w_pil (K := K) (pe_c C_law_row (hr.mono (by decide)) (pa_cons (v_law_numbers_law_cell rfl rfl) (pa_cons (v_law_numbers_law_each rfl rfl) pa_nil)))) (pg_name (i := 6) nd rfl (by first | exact Or.inl rfl | exact Or.inr rfl)) (pss_one (ps_expr (pe_bm PySem.F.plainAttrs_list PySem.F.slot_list_append PySem.F.type_list_append mt_append (v_law_numbers_law_numbers_here rfl rfl) (pa_cons (v_law_numbers_law_number_here rfl rfl) pa_nil))))))) (pss_cons (ps_while PassesOwn.never (pt_cmpR op_lt (pe_callB (w_len (K := K)) (by rfl) B.len PySem.boot_len (pa_cons (v_law_numbers_law_numbers_here rfl rfl) pa_nil)) (v_law_numbers_law_many rfl rfl) (nomark _)) (pss_one (ps_expr (pe_bm PySem.F.plainAttrs_list PySem.F.slot_list_append PySem.F.type_list_append mt_append (v_law_numbers_law_numbers_here rfl rfl) (pa_cons pe_int pa_nil))))) (pss_one (ps_ret (pe_slice (w_slL (K := K)) (v_law_numbers_law_numbers_here rfl rfl) po_none (po_some (v_law_numbers_law_many rfl rfl)))))))))), ?_⟩
    refine start_asg fun Q' hq => ?_
    refine ⟨V.ref a, rfl, ?_⟩
    refine ⟨63, rfl, ?_⟩
    refine ⟨a, ns.map V.int, rfl, hS, fun p hp => ?_⟩
    have ec : cutV (ns.map V.int) none (some 63) = ns.map V.int := by
      unfold cutV
      have e : HT.sIx (ns.map V.int).length (ns.map V.int).length (some 63) = (ns.map V.int).length := by
        rw [show ((63 : Int)) = ((63 : Nat) : Int) from rfl, HT.sIx_nat, Nat.min_eq_right (by rw [List.length_map]; exact hl)]
      rw [e, HT.sIx_none, Nat.sub_zero, List.drop_zero, List.take_length]
    rw [ec]
    have s1 := Step.new (o := .lst (ns.map V.int)) hF hp
    have ok0 : EnvOk K H (upd F p (.lst (ns.map V.int))) (upd H p (.lst (ns.map V.int))) (L2.start N_law_numbers [.ref a, .int 60]) [none, none, none, none, none, none, none] := env_none
    have ok1 := (ok0.set (i := 1) (v := .int 60) (d := .int 60) (.int _)).set (i := 2) (v := .ref p) (d := .list (ns.map .int)) (.lst upd_same (RpL.of_ints ns))
    refine hq _ _ ?_
    refine via_st (N := fun _ => False) (R := fun d => d = .list ((lawNums ns).map .int)) ?_ s1 ok1 (fun _ _ _ _ _ _ _ z => z.elim) fun v d F' H' s' r e => hQ v F' H' s' (e ▸ r)
    show StE K _ [none, some (.val (.int 60)), some (.val (.list (ns.map .int))), none, none, none, none] _ _
    have hmax : EvE K (tCB (fun xs H Q => ∃ i j, xs = [V.int i, V.int j] ∧ Q (V.int (if j > i then j else i)) H) (tCons (tC (.int 1)) (tCons (tCB (fun xs H Q => ∃ x n, xs = [x] ∧ LenV K x H n ∧ Q (.int n) H) (tCons (tVar 2) tNil)) tNil))) [none, some (.val (.int 60)), some (.val (.list (ns.map .int))), none, none, none, none] (.int (if ((ns.length : Nat) : Int) > 1 then ((ns.length : Nat) : Int) else 1)) := by
      have h := e_cb (K := K) (a_cons (e_int (i := 1)) (a_cons (e_cb (a_cons (e_var (env := [none, some (.val (.int 60)), some (.val (.list (ns.map .int))), none, none, none, none]) (i := 2) rfl) a_nil) (c_lenL (K := K))) a_nil)) c_max2
      rw [List.length_map] at h
      exact h
    refine q_asg (d := .int (eachN ns)) (e_op e_int (e_op (e_var rfl) hmax (o_div ?_)) o_add) ?_
    · constructor
      · split <;> omega
      · split <;> omega
    have hE := eachN_bd ns
    refine q_own (ds := []) (o_lst a_nil (Nat.le_of_ble_eq_true rfl)) ?_
    refine q_for (vs := [5]) (i_list (e_var rfl)) (fun i env => ∃ x y, env = [none, some (.val (.int 60)), some (.val (.list (ns.map .int))), some (.val (.int (eachN ns))), some (.own (((ns.take i).flatMap fun c => lawRow c (eachN ns).toNat).map .int)), x, y]) ⟨none, none, rfl⟩ ?_ ?_
    · rintro i d e hd ⟨x, y, rfl⟩
      obtain ⟨c, hc, rfl⟩ := map_at hd
      refine ⟨_, g_name, ?_⟩
      show StE K _ [none, some (.val (.int 60)), some (.val (.list (ns.map .int))), some (.val (.int (eachN ns))), some (.own (((ns.take i).flatMap fun c => lawRow c (eachN ns).toNat).map .int)), some (.val (.int c)), y] _ _
      refine st_for (vs := [6]) (i_list (e_call (a_cons (e_var rfl) (a_cons (e_var rfl) a_nil)) ⟨c, eachN ns, rfl, by omega, by omega, rfl⟩)) (fun j env => ∃ y, env = [none, some (.val (.int 60)), some (.val (.list (ns.map .int))), some (.val (.int (eachN ns))), some (.own ((((ns.take i).flatMap fun c => lawRow c (eachN ns).toNat) ++ (lawRow c (eachN ns).toNat).take j).map .int)), some (.val (.int c)), y]) ⟨y, by rw [List.take_zero, List.append_nil]⟩ ?_ ?_
      · rintro j d e hd ⟨y, rfl⟩
        obtain ⟨z, hz, rfl⟩ := map_at hd
        refine ⟨_, g_name, ?_⟩
        refine st_app rfl (d := .int z) (e_var rfl) ?_ ⟨some (.val (.int z)), ?_⟩
        · rw [List.length_map, List.length_append, List.length_take]
          have h1 := nums0_len hl i
          have h2 : (lawRow c (eachN ns).toNat).length = (eachN ns).toNat := lr_len c _
          omega
        · rw [take_snoc hz, ← List.append_assoc, List.map_append (l₂ := [z])]
          rfl
      · rintro e ⟨y, rfl⟩
        refine ⟨some (.val (.int c)), y, ?_⟩
        rw [List.length_map, List.take_length, take_snoc hc, List.flatMap_append, List.flatMap_cons, List.flatMap_nil, List.append_nil]
    · rintro e ⟨x, y, rfl⟩
      rw [List.length_map, List.take_length]
      have hn0 := nums0_len hl ns.length
      rw [List.take_length] at hn0
      have hn0 : (nums0 ns).length ≤ 63 * 61 := hn0
      refine q_while (fun m env => ∃ j, m = 60 - ((nums0 ns).length + j) ∧ j ≤ 60 - (nums0 ns).length ∧ env = [none, some (.val (.int 60)), some (.val (.list (ns.map .int))), some (.val (.int (eachN ns))), some (.own ((nums0 ns ++ List.replicate j 0).map .int)), x, y]) (60 - (nums0 ns).length) ⟨0, rfl, Nat.zero_le _, by rw [List.replicate_zero, List.append_nil]; rfl⟩ ?_
      rintro m e ⟨j, rfl, hj, rfl⟩
      have hlen : ((nums0 ns ++ List.replicate j 0).map PyData.int).length = (nums0 ns).length + j := by
        rw [List.length_map, List.length_append, List.length_replicate]
      refine ⟨_, t_test (e_op (e_lenO rfl) (e_var rfl) o_lt), fun hb => ?_, fun hb => ?_⟩
      · have hb := of_decide_eq_true hb
        rw [hlen] at hb
        refine st_app rfl (d := .int 0) e_int (by rw [hlen]; omega) ⟨_, ?_, j + 1, rfl, by omega, ?_⟩
        · omega
        · rw [List.replicate_succ', ← List.append_assoc, List.map_append (l₂ := [0])]
          rfl
      · have hb := of_decide_eq_false hb
        rw [hlen] at hb
        refine st_frz 4 rfl ?_
        refine st_ret (e_sl (e_var rfl) p_none (p_some (e_var rfl)) s_lst) ?_
        have ej : j = 60 - (nums0 ns).length := by omega
        rw [show ((60 : Int)) = ((60 : Nat) : Int) from rfl, cut_upto, ← List.map_take, ej]
        rfl
abbrev N_law_is_prime : List Str := ["_law_value", "_law_k"]
theorem sc_law_is_prime : FnScope N_law_is_prime ["_law_value"] (defScope s_law_is_prime) := ⟨rfl, rfl, rfl, by decide +kernel, rfl, by decide +kernel, by decide +kernel⟩
theorem v_law_is_prime_law_value {X : Cx} {pos : Pos} (hN : X.N = N_law_is_prime) (hs : X.env.scope = defScope s_law_is_prime) : PE X (.Name "_law_value" pos) (tVar 0) := pe_var (by rw [hN]; rfl) (by rw [hs]; exact Or.inl (by decide +kernel)) (by decide +kernel) (by decide +kernel)
theorem v_law_is_prime_law_k {X : Cx} {pos : Pos} (hN : X.N = N_law_is_prime) (hs : X.env.scope = defScope s_law_is_prime) : PE X (.Name "_law_k" pos) (tVar 1) := pe_var (by rw [hN]; rfl) (by rw [hs]; exact Or.inl (by decide +kernel)) (by decide +kernel) (by decide +kernel)
theorem ok_law_is_prime (B : Mg K mg) (D : Dn K mg "_law_is_prime" s_law_is_prime ["_law_value"]) : Cal P w K mg base "_law_is_prime" 1 ["_law_value"] (spR K R_isP) := by
  have nd := sc_law_is_prime.nd
  refine mk_cal D sc_law_is_prime (fun ds d h => ?_) (fun cdv A outer s H f E ds d hr h => ?_)
  · obtain ⟨v, rfl, _⟩ := h
    rfl
  · obtain ⟨v, rfl, rfl⟩ := h
    refine ⟨_, (pss_cons (ps_for PassesOwn.never rfl (pi_range2 rfl B.range (pa_cons pe_int (pa_cons pe_int pa_nil))) (pg_name (i := 1) nd rfl (by first | exact Or.inl rfl | exact Or.inr rfl)) (pss_one (ps_if (PW.pt (pw_and (pt_cmpR op_le (pe_op op_mul (v_law_is_prime_law_k rfl rfl) (v_law_is_prime_law_k rfl rfl)) (v_law_is_prime_law_value rfl rfl) (nomark _)) (pw_and1 (pt_cmpR op_eq (pe_op op_mod (pe_callTy call_int1 (by rfl) B.int (by decide +kernel) (pa_cons (v_law_is_prime_law_value rfl rfl) pa_nil)) (v_law_is_prime_law_k rfl rfl)) pe_int (nomark _))))) (pss_one (ps_ret pe_bl)) pss_nil))) (pss_one (ps_ret (pe_cmpR op_gt (v_law_is_prime_law_value rfl rfl) pe_int (nomark _))))), ?_⟩
    show StE K _ [some (.val (.int v)), none] _ _
    refine q_for (vs := [1]) (i_rng2 (m := 2) (n := 200) (a_cons e_int (a_cons e_int a_nil)) (by decide)) (fun i env => ∃ x, (∀ j < i, (!(decide ((2 + (j : Int)) * (2 + (j : Int)) ≤ v) && decide (v % (2 + (j : Int)) = 0))) = true) ∧ env = [some (.val (.int v)), x]) ⟨none, fun j hj => absurd hj (Nat.not_lt_zero j), rfl⟩ ?_ ?_
    · rintro k d e hd ⟨x, hj, rfl⟩
      obtain ⟨hk, rfl⟩ := rng_at hd
      have hk : k < 198 := hk
      refine ⟨_, g_name, ?_⟩
      show StE K _ [some (.val (.int v)), some (.val (.int (2 + (k : Int))))] _ _
      refine st_if (b := decide ((2 + (k : Int)) * (2 + (k : Int)) ≤ v) && decide (v % (2 + (k : Int)) = 0)) (t_and (t_test (e_op (e_op (e_var rfl) (e_var rfl) (o_mul (cml ⟨by omega, by omega⟩))) (e_var rfl) o_le)) fun _ => t_test (e_op (e_op (e_cb (a_cons (e_var rfl) a_nil) c_int) (e_var rfl) (o_mod (by omega))) e_int o_eqI)) (fun hb => ?_) fun hb => ?_
      · refine st_ret e_bl ?_
        have : isP v = false := by
          unfold isP
          have : (rng 2 198).all (fun k => !(decide (k * k ≤ v) && decide (v % k = 0))) = false := by
            rw [List.all_eq_false]
            refine ⟨2 + (k : Int), ?_, by rw [hb]; decide⟩
            unfold rng
            exact List.mem_map.mpr ⟨k, List.mem_range.mpr hk, rfl⟩
          rw [this]
          rfl
        rw [this]
      · refine st_next ⟨some (.val (.int (2 + (k : Int)))), fun j hj' => ?_, rfl⟩
        rcases Nat.lt_succ_iff_lt_or_eq.mp hj' with h | h
        · exact hj j h
        · subst h
          rw [hb]
          rfl
    · rintro e ⟨x, hj, rfl⟩
      refine st_ret (e_op (e_var rfl) e_int o_gt) ?_
      have : (rng 2 198).all (fun k => !(decide (k * k ≤ v) && decide (v % k = 0))) = true := by
        rw [List.all_eq_true]
        intro k hk
        unfold rng at hk
        obtain ⟨i, hi, rfl⟩ := List.mem_map.mp hk
        refine hj i ?_
        have := List.mem_range.mp hi
        show i < ((rng 2 198).map PyData.int).length
        unfold rng
        rw [List.length_map, List.length_map, List.length_range]
        exact this
      unfold isP
      rw [this]
      rfl
abbrev N_law_prime : List Str := ["_law_numbers_here", "_law_at", "_law_given", "_law_one", "_law_turn", "_law_signs", "_law_k"]
theorem sc_law_prime : FnScope N_law_prime ["_law_numbers_here", "_law_at"] (defScope s_law_prime) := ⟨rfl, rfl, rfl, by decide +kernel, rfl, by decide +kernel, by decide +kernel⟩
theorem v_law_prime_law_numbers_here {X : Cx} {pos : Pos} (hN : X.N = N_law_prime) (hs : X.env.scope = defScope s_law_prime) : PE X (.Name "_law_numbers_here" pos) (tVar 0) := pe_var (by rw [hN]; rfl) (by rw [hs]; exact Or.inr (Or.inl (by decide +kernel))) (by decide +kernel) (by decide +kernel)
theorem v_law_prime_law_at {X : Cx} {pos : Pos} (hN : X.N = N_law_prime) (hs : X.env.scope = defScope s_law_prime) : PE X (.Name "_law_at" pos) (tVar 1) := pe_var (by rw [hN]; rfl) (by rw [hs]; exact Or.inr (Or.inl (by decide +kernel))) (by decide +kernel) (by decide +kernel)
theorem v_law_prime_law_given {X : Cx} {pos : Pos} (hN : X.N = N_law_prime) (hs : X.env.scope = defScope s_law_prime) : PE X (.Name "_law_given" pos) (tVar 2) := pe_var (by rw [hN]; rfl) (by rw [hs]; exact Or.inl (by decide +kernel)) (by decide +kernel) (by decide +kernel)
theorem v_law_prime_law_one {X : Cx} {pos : Pos} (hN : X.N = N_law_prime) (hs : X.env.scope = defScope s_law_prime) : PE X (.Name "_law_one" pos) (tVar 3) := pe_var (by rw [hN]; rfl) (by rw [hs]; exact Or.inr (Or.inl (by decide +kernel))) (by decide +kernel) (by decide +kernel)
theorem v_law_prime_law_turn {X : Cx} {pos : Pos} (hN : X.N = N_law_prime) (hs : X.env.scope = defScope s_law_prime) : PE X (.Name "_law_turn" pos) (tVar 4) := pe_var (by rw [hN]; rfl) (by rw [hs]; exact Or.inl (by decide +kernel)) (by decide +kernel) (by decide +kernel)
theorem v_law_prime_law_signs {X : Cx} {pos : Pos} (hN : X.N = N_law_prime) (hs : X.env.scope = defScope s_law_prime) : PE X (.Name "_law_signs" pos) (tVar 5) := pe_var (by rw [hN]; rfl) (by rw [hs]; exact Or.inr (Or.inl (by decide +kernel))) (by decide +kernel) (by decide +kernel)
theorem ok_law_prime (B : Mg K mg) (D : Dn K mg "_law_prime" s_law_prime ["_law_numbers_here", "_law_at"]) : Cal P w K mg base "_law_prime" 1 ["_law_numbers_here", "_law_at"] (spR K R_lprime) := by
  have nd := sc_law_prime.nd
  refine mk_cal D sc_law_prime (fun ds d h => ?_) (fun cdv A outer s H f E ds d hr h => ?_)
  · obtain ⟨nums, k, rfl, _⟩ := h
    rfl
  · obtain ⟨nums, k, rfl, hk, rfl⟩ := h
    refine ⟨_, (pss_cons (ps_set (i := 2) nd rfl (by first | exact Or.inl rfl | exact Or.inr rfl) (pe_lst (pa_cons (pe_tup (pa_ints _ _ rfl)) (pa_cons (pe_tup (pa_ints _ _ rfl)) (pa_cons (pe_tup (pa_ints _ _ rfl)) (pa_cons (pe_tup (pa_ints _ _ rfl)) (pa_cons (pe_tup (pa_ints _ _ rfl)) (pa_cons (pe_tup (pa_ints _ _ rfl)) (pa_cons (pe_tup (pa_ints _ _ rfl)) (pa_cons (pe_tup (pa_ints _ _ rfl)) (pa_cons (pe_tup (pa_ints _ _ rfl)) (pa_cons (pe_tup (pa_ints _ _ rfl)) pa_nil)))))))))))) (pss_cons (ps_set (i := 2) nd rfl (by first | exact Or.inl rfl | exact Or.inr rfl) (pe_op op_cat (v_law_prime_law_given rfl rfl) (pe_lst (pa_cons (pe_tup (pa_ints _ _ rfl)) (pa_cons (pe_tup (pa_ints _ _ rfl)) pa_nil))))) (pss_cons (ps_set (i := 3) nd rfl (by first | exact Or.inl rfl | exact Or.inr rfl) (pe_ix (w_ixL (K := K)) (v_law_prime_law_given rfl rfl) (pe_op op_mod (pe_callTy call_int1 (by rfl) B.int (by decide +kernel) (pa_cons (pe_ix (w_ixL (K := K)) (v_law_prime_law_numbers_here rfl rfl) (v_law_prime_law_at rfl rfl) (fun _ _ => rfl)) pa_nil)) pe_int) (fun _ _ => rfl))) (pss_cons (ps_set (i := 4) nd rfl (by first | exact Or.inl rfl | exact Or.inr rfl) (pe_op op_mod (pe_callTy call_int1 (by rfl) B.int (by decide +kernel) (pa_cons (pe_ix (w_ixL (K := K)) (v_law_prime_law_numbers_here rfl rfl) (pe_op op_add (v_law_prime_law_at rfl rfl) pe_int) (fun _ _ => rfl)) pa_nil)) pe_int)) (pss_cons (ps_set (i := 3) nd rfl (by first | exact Or.inl rfl | exact Or.inr rfl) (pe_op (w_catA (K := K)) (pe_slice (w_slT (K := K)) (v_law_prime_law_one rfl rfl) (po_some (v_law_prime_law_turn rfl rfl)) po_none) (pe_slice (w_slT (K := K)) (v_law_prime_law_one rfl rfl) po_none (po_some (v_law_prime_law_turn rfl rfl))))) (pss_cons (ps_set (i := 5) nd rfl (by first | exact Or.inl rfl | exact Or.inr rfl) (pe_lc (own := [("_law_k", 6)]) (g := (gName 6)) rfl nd (pi_range1 rfl B.range (pa_cons pe_int pa_nil)) (blkOk_by (own := [("_law_k", 6)]) (N := N_law_prime) (sc := defScope s_law_prime) (by decide +kernel)) (fun _ _ _ _ _ => (pg_name (i := 6) nd rfl (by first | exact Or.inl rfl | exact Or.inr rfl))) (fun _ _ _ _ _ => pts_nil) (fun _ _ _ _ _ => (pe_op op_sub pe_int (pe_op op_mul pe_int (pe_op op_mod (pe_op op_fdiv (pe_callTy call_int1 (by rfl) B.int (by decide +kernel) (pa_cons (pe_ix (w_ixL (K := K)) (pv 0) (pe_op op_add (pv 1) pe_int) (fun _ _ => rfl)) pa_nil)) (pe_ix (w_ixL (K := K)) (pe_lst (pa_ints _ _ rfl)) (pv 6) (fun _ _ => rfl))) pe_int)))))) (pss_one (ps_ret (pe_callTy (w_tuple (K := K)) (by rfl) B.tuple (by decide +kernel) (pa_cons (pe_lc (own := [("_law_k", 6)]) (g := (gName 6)) rfl nd (pi_range1 rfl B.range (pa_cons pe_int pa_nil)) (blkOk_by (own := [("_law_k", 6)]) (N := N_law_prime) (sc := defScope s_law_prime) (by decide +kernel)) (fun _ _ _ _ _ => (pg_name (i := 6) nd rfl (by first | exact Or.inl rfl | exact Or.inr rfl))) (fun _ _ _ _ _ => pts_nil) (fun _ _ _ _ _ => (pe_op op_mul (pe_ix (w_ixT (K := K)) (pv 3) (pv 6) (fun _ _ => rfl)) (pe_ix (w_ixL (K := K)) (pv 5) (pv 6) (fun _ _ => rfl))))) pa_nil)))))))))), ?_⟩
    show StE K _ [some (.val (.list (nums.map .int))), some (.val (.int (k : Int))), none, none, none, none, none] _ _
    have tq : ∀ {a b c d : Int} {env : En}, EvE K (tTup (tInts [a, b, c, d])) env (qd ⟨a, b, c, d⟩) := fun {a b c d env} => e_tup a_ints (Nat.le_of_ble_eq_true rfl)
    refine q_asg (d := .list ((GV.take 10).map qd)) (e_lst (a_cons tq (a_cons tq (a_cons tq (a_cons tq (a_cons tq (a_cons tq (a_cons tq (a_cons tq (a_cons tq (a_cons tq a_nil)))))))))) (Nat.le_of_ble_eq_true rfl)) ?_
    refine q_asg (d := .list (GV.map qd)) (e_op (e_var rfl) (e_lst (a_cons tq (a_cons tq a_nil)) (Nat.le_of_ble_eq_true rfl)) (o_cat (Nat.le_of_ble_eq_true rfl))) ?_
    show StE K _ [some (.val (.list (nums.map .int))), some (.val (.int (k : Int))), some (.val (.list (GV.map qd))), none, none, none, none] _ _
    have n0 : EvE K (tOp (rIxL K) (tVar 0) (tVar 1)) [some (.val (.list (nums.map .int))), some (.val (.int (k : Int))), some (.val (.list (GV.map qd))), none, none, none, none] (.int (nums.getD k 0)) := e_op (e_var rfl) (e_var rfl) (o_ixL (at_int (by omega)))
    have hi : 0 ≤ nums.getD k 0 % 12 ∧ nums.getD k 0 % 12 < 12 := by omega
    refine q_asg (d := qd (GV.getD (nums.getD k 0 % 12).toNat ⟨0, 0, 0, 0⟩)) (e_op (e_var rfl) (e_op (e_cb (a_cons n0 a_nil) c_int) e_int (o_mod (by decide))) (o_ixL (at_qi hi.1 (by show _ < 12; omega)))) ?_
    generalize hq : GV.getD (nums.getD k 0 % 12).toNat ⟨0, 0, 0, 0⟩ = q
    show StE K _ [some (.val (.list (nums.map .int))), some (.val (.int (k : Int))), some (.val (.list (GV.map qd))), some (.val (qd q)), none, none, none] _ _
    have ht : 0 ≤ nums.getD (k + 1) 0 % 4 ∧ nums.getD (k + 1) 0 % 4 < 4 := by omega
    obtain ⟨t, et⟩ := Int.eq_ofNat_of_zero_le ht.1
    have htl : t < 4 := by omega
    refine q_asg (d := .int (t : Int)) (e_is (e_op (e_cb (a_cons (e_op (e_var rfl) (e_op (e_var rfl) e_int o_add) (o_ixL (at_int (k := k + 1) (by omega)))) a_nil) c_int) e_int (o_mod (by decide))) (by rw [et])) ?_
    show StE K _ [some (.val (.list (nums.map .int))), some (.val (.int (k : Int))), some (.val (.list (GV.map qd))), some (.val (qd q)), some (.val (.int (t : Int))), none, none] _ _
    have eg : gvL (nums.getD k 0 % 12).toNat (nums.getD (k + 1) 0 % 4).toNat = q.l.drop t ++ q.l.take t := by
      unfold gvL
      rw [hq, et, Int.toNat_natCast]
    have lg : (q.l.drop t ++ q.l.take t).length = 4 := by
      rw [List.length_append, List.length_drop, List.length_take]
      show 4 - t + min t 4 = 4
      omega
    refine q_asg (d := .tuple ((q.l.drop t ++ q.l.take t).map .int)) (e_is (e_op (e_sl (e_var (by rw [qd_l]; rfl)) (p_some (e_var rfl)) p_none s_tup) (e_sl (e_var (by rw [qd_l]; rfl)) p_none (p_some (e_var rfl)) s_tup) (o_catT ?_)) ?_) ?_
    · rw [cut_from htl, cut_to htl, List.length_map, List.length_map, List.length_drop, List.length_take]
      show 4 - t + min t 4 ≤ _
      omega
    · rw [cut_from htl, cut_to htl, List.map_append]
    generalize q.l.drop t ++ q.l.take t = L at eg lg
    show StE K _ [some (.val (.list (nums.map .int))), some (.val (.int (k : Int))), some (.val (.list (GV.map qd))), some (.val (.tuple (L.map .int))), some (.val (.int (t : Int))), none, none] _ _
    refine q_asg (d := .list (((rng 0 4).map fun j => 1 - 2 * (nums.getD (k + 2) 0 / ([1, 2, 4, 8] : List Int).getD j.toNat 0 % 2)).map .int)) (e_is (e_own (c_map (rng 0 4) .int (fun j => .int (1 - 2 * (nums.getD (k + 2) 0 / ([1, 2, 4, 8] : List Int).getD j.toNat 0 % 2))) (i_rng1 (n := 4) (a_cons e_int a_nil) (by decide) (by decide)) (by decide) fun i a ha => ⟨_, g_name, ?_⟩)) (by rw [List.map_map]; rfl)) ?_
    · obtain ⟨h1, rfl⟩ := rng_get ha
      rw [Int.zero_add, Int.toNat_natCast]
      refine e_op e_int (e_op e_int (e_op (e_op (e_cb (a_cons (e_op (e_var rfl) (e_op (e_var rfl) e_int o_add) (o_ixL (at_int (k := k + 2) (by omega)))) a_nil) c_int) (e_op (e_lst a_ints (Nat.le_of_ble_eq_true rfl)) (e_var rfl) (o_ixL (at_int (l := [1, 2, 4, 8]) h1))) (o_div ?_)) e_int (o_mod (by decide))) (o_mul (cml ⟨by decide, by decide⟩))) o_sub
      rcases lt4 h1 with rfl | rfl | rfl | rfl <;> exact ⟨by decide, by decide⟩
    have eS : ((rng 0 4).map fun j => 1 - 2 * (nums.getD (k + 2) 0 / ([1, 2, 4, 8] : List Int).getD j.toNat 0 % 2)) = ([1, 2, 4, 8].map fun m => 1 - 2 * (nums.getD (k + 2) 0 / m % 2)) := rfl
    rw [eS]
    have hS := sg_mem (nums.getD (k + 2) 0)
    unfold lawPrime
    rw [eg]
    generalize ([1, 2, 4, 8].map fun m => 1 - 2 * (nums.getD (k + 2) 0 / m % 2)) = S at hS
    have hS2 : S.length = 4 ∧ ∀ i < 4, -(2 ^ 60) < S.getD i 0 ∧ S.getD i 0 < 2 ^ 60 := by
      have h := List.all_eq_true.mp (show (sgs.all fun S => decide (S.length = 4 ∧ ∀ i < 4, -(2 ^ 60) < S.getD i 0 ∧ S.getD i 0 < 2 ^ 60)) = true by decide +kernel) S hS
      exact of_decide_eq_true h
    show StE K _ [some (.val (.list (nums.map .int))), some (.val (.int (k : Int))), some (.val (.list (GV.map qd))), some (.val (.tuple (L.map .int))), some (.val (.int (t : Int))), some (.val (.list (S.map .int))), none] _ _
    refine st_ret (e_cb (a_cons (e_own (c_map (rng 0 4) .int (fun j => .int (L.getD j.toNat 0 * S.getD j.toNat 0)) (i_rng1 (n := 4) (a_cons e_int a_nil) (by decide) (by decide)) (by decide) fun i a ha => ⟨_, g_name, ?_⟩)) a_nil) c_tupL) rfl
    obtain ⟨h1, rfl⟩ := rng_get ha
    rw [Int.zero_add, Int.toNat_natCast]
    exact e_op (e_op (e_var rfl) (e_var rfl) (o_ixT (at_int (by omega)))) (e_op (e_var rfl) (e_var rfl) (o_ixL (at_int (by omega)))) (o_mul (cmr (hS2.2 i h1)))
abbrev N_law_right : List Str := ["_law_number_here", "_law_row_here", "_law_unit", "_law_one"]
theorem sc_law_right : FnScope N_law_right ["_law_number_here", "_law_row_here", "_law_unit"] (defScope s_law_right) := ⟨rfl, rfl, rfl, by decide +kernel, rfl, by decide +kernel, by decide +kernel⟩
theorem v_law_right_law_number_here {X : Cx} {pos : Pos} (hN : X.N = N_law_right) (hs : X.env.scope = defScope s_law_right) : PE X (.Name "_law_number_here" pos) (tVar 0) := pe_var (by rw [hN]; rfl) (by rw [hs]; exact Or.inl (by decide +kernel)) (by decide +kernel) (by decide +kernel)
theorem v_law_right_law_row_here {X : Cx} {pos : Pos} (hN : X.N = N_law_right) (hs : X.env.scope = defScope s_law_right) : PE X (.Name "_law_row_here" pos) (tVar 1) := pe_var (by rw [hN]; rfl) (by rw [hs]; exact Or.inl (by decide +kernel)) (by decide +kernel) (by decide +kernel)
theorem v_law_right_law_unit {X : Cx} {pos : Pos} (hN : X.N = N_law_right) (hs : X.env.scope = defScope s_law_right) : PE X (.Name "_law_unit" pos) (tVar 2) := pe_var (by rw [hN]; rfl) (by rw [hs]; exact Or.inl (by decide +kernel)) (by decide +kernel) (by decide +kernel)
theorem v_law_right_law_one {X : Cx} {pos : Pos} (hN : X.N = N_law_right) (hs : X.env.scope = defScope s_law_right) : PE X (.Name "_law_one" pos) (tVar 3) := pe_var (by rw [hN]; rfl) (by rw [hs]; exact Or.inl (by decide +kernel)) (by decide +kernel) (by decide +kernel)
theorem ok_law_right (B : Mg K mg) (C_law_size : Cal P w K mg base "_law_size" 1 ["_law_one"] (spR K R_size)) (C_law_product : Cal P w K mg base "_law_product" 2 ["_law_row_here"] (spR K R_lproduct)) (C_law_is_prime : Cal P w K mg base "_law_is_prime" 1 ["_law_value"] (spR K R_isP)) (C_law_best : Cal P w K mg base "_law_best" 2 ["_law_one"] (spR K R_best)) (D : Dn K mg "_law_right" s_law_right ["_law_number_here", "_law_row_here", "_law_unit"]) : Cal P w K mg base "_law_right" 3 ["_law_number_here", "_law_row_here", "_law_unit"] (spR K R_right) := by
  have nd := sc_law_right.nd
  refine mk_cal D sc_law_right (fun ds d h => ?_) (fun cdv A outer s H f E ds d hr h => ?_)
  · obtain ⟨n, row, u, rfl, _⟩ := h
    rfl
  · obtain ⟨n, row, u, rfl, hl, hrow, hu, rfl⟩ := h
    refine ⟨_, (pss_cons (ps_if (PW.pt (pw_or (pt_cmpR op_ne (pe_c C_law_size (hr.mono (by decide)) (pa_cons (v_law_right_law_unit rfl rfl) pa_nil)) pe_int (nomark _)) (pw_or1 (pt_cmpR (w_neD (K := K) hr.units) (pe_c C_law_product (hr.mono (by decide)) (pa_cons (pe_op op_cat (v_law_right_law_row_here rfl rfl) (pe_lst (pa_cons (v_law_right_law_unit rfl rfl) pa_nil))) pa_nil)) (v_law_right_law_number_here rfl rfl) (nomark _))))) (pss_one (ps_ret pe_bl)) pss_nil) (pss_cons (ps_for PassesOwn.never rfl (w_pil (K := K) (v_law_right_law_row_here rfl rfl)) (pg_name (i := 3) nd rfl (by first | exact Or.inl rfl | exact Or.inr rfl)) (pss_one (ps_if (PW.pt (pw_or (pt_not (pt_val (pe_c C_law_is_prime (hr.mono (by decide)) (pa_cons (pe_c C_law_size (hr.mono (by decide)) (pa_cons (v_law_right_law_one rfl rfl) pa_nil)) pa_nil)))) (pw_or1 (pt_cmpR (w_neD (K := K) hr.units) (pe_c C_law_best (hr.mono (by decide)) (pa_cons (v_law_right_law_one rfl rfl) pa_nil)) (v_law_right_law_one rfl rfl) (nomark _))))) (pss_one (ps_ret pe_bl)) pss_nil))) (pss_one (ps_ret pe_bl)))), ?_⟩
    show StE K _ [some (.val (qd n)), some (.val (.list (row.map qd))), some (.val (qd u)), none] _ _
    have hall : ∀ q ∈ row ++ [u], q.sm (2 ^ 60) := fun q hq => by
      rcases List.mem_append.mp hq with hq | hq
      · exact hrow q hq
      · rw [List.mem_singleton.mp hq]
        exact hu
    refine q_when (b := !(decide (nrm u = 1) && decide (prodL (row ++ [u]) = n))) ?_ (fun hb => ?_) fun hb => ?_
    · refine t_is (t_or (t_test (e_op (e_call (a_cons (e_var rfl) a_nil) ⟨u, rfl, hu, rfl⟩) e_int o_neI)) fun _ => t_test (e_op (e_call (a_cons (e_op (e_var rfl) (e_lst (a_cons (e_var rfl) a_nil) (Nat.le_of_ble_eq_true rfl)) (o_cat ?_)) a_nil) ⟨row ++ [u], by rw [List.map_append]; rfl, hall, rfl⟩) (e_var rfl) (o_neD (sh_qd _) (sh_qd _)))) ?_
      · rw [List.length_map, List.length_singleton]
        omega
      · rw [eqv_qd]
        cases decide (nrm u = 1) <;> rfl
    · refine st_ret e_bl ?_
      rw [Bool.not_eq_true'] at hb
      unfold rightB
      rw [← Bool.and_assoc, hb]
      rfl
    · rw [Bool.not_eq_false'] at hb
      unfold rightB
      rw [← Bool.and_assoc, hb, Bool.true_and]
      refine q_for (vs := [3]) (i_list (e_var rfl)) (fun i env => ∃ x, (∀ j < i, ∀ f, row[j]? = some f → (isP (nrm f) && decide (best f = f)) = true) ∧ env = [some (.val (qd n)), some (.val (.list (row.map qd))), some (.val (qd u)), x]) ⟨none, fun j hj => absurd hj (Nat.not_lt_zero j), rfl⟩ ?_ ?_
      · rintro i d e hd ⟨x, hj, rfl⟩
        obtain ⟨f, hf, rfl⟩ := map_at hd
        refine ⟨_, g_name, ?_⟩
        show StE K _ [some (.val (qd n)), some (.val (.list (row.map qd))), some (.val (qd u)), some (.val (qd f))] _ _
        have hfm := List.mem_of_getElem? hf
        refine st_if (b := !(isP (nrm f) && decide (best f = f))) ?_ (fun hb => ?_) fun hb => ?_
        · refine t_is (t_or (t_not (t_b (e_call (a_cons (e_call (a_cons (e_var rfl) a_nil) ⟨f, rfl, hrow f hfm, rfl⟩) a_nil) ⟨nrm f, rfl, rfl⟩))) fun _ => t_test (e_op (e_call (a_cons (e_var rfl) a_nil) ⟨f, rfl, rfl⟩) (e_var rfl) (o_neD (sh_qd _) (sh_qd _)))) ?_
          rw [eqv_qd]
          cases isP (nrm f) <;> rfl
        · refine st_ret e_bl ?_
          rw [Bool.not_eq_true'] at hb
          have : (row.all fun f => isP (nrm f) && decide (best f = f)) = false := by
            rw [List.all_eq_false]
            exact ⟨f, hfm, by rw [hb]; decide⟩
          rw [this]
        · rw [Bool.not_eq_false'] at hb
          refine st_next ⟨some (.val (qd f)), fun j hj' g hg => ?_, rfl⟩
          rcases Nat.lt_succ_iff_lt_or_eq.mp hj' with h | h
          · exact hj j h g hg
          · subst h
            rw [hf] at hg
            cases hg
            exact hb
      · rintro e ⟨x, hj, rfl⟩
        refine st_ret e_bl ?_
        have : (row.all fun f => isP (nrm f) && decide (best f = f)) = true := by
          rw [List.all_eq_true]
          intro f hf
          obtain ⟨j, h1, h2⟩ := List.mem_iff_getElem.mp hf
          exact hj j (by rw [List.length_map]; exact h1) f (by rw [List.getElem?_eq_getElem h1, h2])
        rw [this]
end
end TP

/-! the law's changed row. -/
namespace TP
open PySem L2 PySem.Spec PyProof.Rows
local macro_rules | `(tactic| walk_at "ev1") => `(tactic| first
  | with_reducible exact e_int
  | with_reducible exact e_str
  | with_reducible exact e_bl
  | with_reducible exact e_non
  | ((with_reducible apply e_var); exact rfl)
  | with_reducible apply e_op
  | with_reducible apply e_un
  | with_reducible apply e_call
  | with_reducible apply e_cb
  | with_reducible apply e_tup
  | with_reducible apply e_sl
  | with_reducible apply e_chain
  | with_reducible apply e_and
  | with_reducible apply e_or
  | with_reducible apply e_rev
  | with_reducible apply e_lst
  | exact Nat.le_of_ble_eq_true rfl
  | with_reducible exact p_none
  | with_reducible apply p_some
  | with_reducible exact a_nil
  | with_reducible apply a_cons
  | with_reducible apply t_b
  | with_reducible apply t_test
  | with_reducible exact t_yes
  | with_reducible apply t_not
  | with_reducible apply t_and
  | with_reducible apply t_or
  | with_reducible exact o_add
  | with_reducible exact o_sub
  | with_reducible apply o_mul
  | with_reducible apply o_div
  | with_reducible apply o_mod
  | with_reducible apply o_pow
  | with_reducible exact o_lt
  | with_reducible exact o_le
  | with_reducible exact o_gt
  | with_reducible exact o_ge
  | with_reducible exact u_neg
  | with_reducible exact o_eqI
  | with_reducible exact o_neI
  | with_reducible exact o_eqS
  | with_reducible exact o_neS
  | with_reducible exact o_neB
  | with_reducible exact o_isN
  | with_reducible exact o_notN
  | with_reducible exact o_isB
  | with_reducible exact o_notB
  | with_reducible exact c_int
  | with_reducible exact c_abs
  | with_reducible exact c_gcd
  | with_reducible exact c_lenL
  | with_reducible exact c_lenT
  | with_reducible exact c_tupL
  | with_reducible exact c_tupT
  | with_reducible exact s_lst
  | with_reducible exact s_tup
  | (refine fun (_ : _ = true) => ?_)
  | (refine fun (_ : _ = false) => ?_))
abbrev z4 : Q4 := ⟨0, 0, 0, 0⟩
def BU : List Q4 := [⟨0, 0, 0, 0⟩, ⟨2, 2, 0, 0⟩, ⟨3, 1, 1, 1⟩]
def othr (nums : List Int) : Q4 := U.getD (nums.getD 41 0 % 24).toNat z4
def behd (w : Q4) : Q4 := (U.filter fun u => decide (mul (best w) u = w)).getD 0 z4
def chAt (row : List Q4) (nums : List Int) : Nat := (nums.getD 42 0 % ((row.length : Nat) : Int)).toNat
def changed (row : List Q4) (u : Q4) (nums : List Int) : List Q4 × Q4 :=
  if nums.getD 40 0 % 10 = 0 then (row, othr nums)
  else if nums.getD 40 0 % 10 = 1 then (row, BU.getD (nums.getD 41 0 % 3).toNat z4)
  else if row.length = 0 ∨ nums.getD 40 0 % 10 = 7 then (row, u)
  else if nums.getD 40 0 % 10 = 8 then (row.take (row.length - 1), mul (row.getD (row.length - 1) z4) u)
  else if nums.getD 40 0 % 10 = 9 ∧ row.length > 1 then (row.take (row.length - 2) ++ [best (mul (row.getD (row.length - 2) z4) (row.getD (row.length - 1) z4))], mul (behd (mul (row.getD (row.length - 2) z4) (row.getD (row.length - 1) z4))) u)
  else if nums.getD 40 0 % 10 = 2 then (row.take (chAt row nums) ++ row.drop (chAt row nums + 1), u)
  else if nums.getD 40 0 % 10 = 3 then (row.take (chAt row nums + 1) ++ row.drop (chAt row nums), u)
  else if nums.getD 40 0 % 10 = 4 then (row.take (chAt row nums) ++ ([mul (row.getD (chAt row nums) z4) (othr nums)] ++ ((row.drop (chAt row nums + 1)).take 1).map (mul (conj (othr nums)))) ++ row.drop (chAt row nums + 2), if chAt row nums = row.length - 1 then mul (conj (othr nums)) u else u)
  else if nums.getD 40 0 % 10 = 5 then (row.take (chAt row nums) ++ [prodL ((row.drop (chAt row nums)).take 2)] ++ row.drop (chAt row nums + 2), u)
  else (row.take (chAt row nums) ++ ((row.drop (chAt row nums)).take 2).reverse ++ row.drop (chAt row nums + 2), u)
def pr (x : List Q4 × Q4) : PyData := .tuple [.list (x.1.map qd), qd x.2]
def R_changed : List PyData → PyData → Prop := fun ds d => ∃ (row : List Q4) (u : Q4) (nums : List Int), ds = [.list (row.map qd), qd u, .list (nums.map .int)] ∧ row.length ≤ 7 ∧ (∀ f ∈ row, f.par ∧ f.sm (2 ^ 60)) ∧ u.sm (2 ^ 60) ∧ nums.length = 60 ∧ d = pr (changed row u nums)
theorem behd_ok {w : Q4} (h : w.par) : ∃ r, (U.filter fun u => decide (mul (best w) u = w)) = behd w :: r ∧ behd w ∈ U := by
  obtain ⟨u, hu, e⟩ := best_mem w
  have hb : mul (best w) (conj u) = w := by rw [e]; exact mul_back h u hu
  have hm : conj u ∈ U.filter fun u => decide (mul (best w) u = w) := List.mem_filter.mpr ⟨(U_par u hu).2.2.2, decide_eq_true hb⟩
  have hsub : ∀ x ∈ U.filter (fun u => decide (mul (best w) u = w)), x ∈ U := fun x hx => (List.mem_filter.mp hx).1
  unfold behd
  cases hf : U.filter fun u => decide (mul (best w) u = w) with
  | nil =>
    rw [hf] at hm
    cases hm
  | cons x r =>
    refine ⟨r, rfl, hsub x ?_⟩
    rw [hf]
    exact List.mem_cons_self
theorem U_sm {u : Q4} (h : u ∈ U) : u.sm (2 ^ 60) := sm_up (U_par u h).2.1 (by decide)
theorem othr_U (nums : List Int) : othr nums ∈ U := by
  have hl : U.length = 24 := rfl
  unfold othr
  rw [List.getD_eq_getElem?_getD, List.getElem?_eq_getElem (by rw [hl]; omega)]
  exact List.getElem_mem _
section
variable {K : PySem.W.Frag} {env : En} {te tk tj : TE} {row : List Q4}
theorem sl_to {k : Nat} (h : EvE K te env (.list (row.map qd))) (hk : EvE K tk env (.int (k : Int))) : EvE K (tSl (rSlL K) te tNoPart (tPart tk)) env (.list ((row.take k).map qd)) := e_is (e_sl h p_none (p_some hk) s_lst) (by rw [cut_upto, List.map_take])
theorem sl_from {k : Nat} (h : EvE K te env (.list (row.map qd))) (hk : EvE K tk env (.int (k : Int))) : EvE K (tSl (rSlL K) te (tPart tk) tNoPart) env (.list ((row.drop k).map qd)) := e_is (e_sl h (p_some hk) p_none s_lst) (by rw [cut_frm, List.map_drop])
theorem cut_mid {ds : List PyData} {a b m : Nat} (ha : a ≤ ds.length) (hm : b = a + m) : cutD ds (some (a : Int)) (some (b : Int)) = (ds.drop a).take m := by
  unfold cutD
  rw [HT.sIx_nat, HT.sIx_nat, Nat.min_eq_left ha]
  subst hm
  rcases Nat.le_total (a + m) ds.length with h | h
  · rw [Nat.min_eq_left h, Nat.add_sub_cancel_left]
  · rw [Nat.min_eq_right h, List.take_of_length_le (by rw [List.length_drop]; exact Nat.le_refl _), List.take_of_length_le (by rw [List.length_drop]; omega)]
theorem sl_mid {a b m : Nat} (h : EvE K te env (.list (row.map qd))) (hj : EvE K tj env (.int (a : Int))) (hk : EvE K tk env (.int (b : Int))) (ha : a ≤ row.length) (hm : b = a + m) : EvE K (tSl (rSlL K) te (tPart tj) (tPart tk)) env (.list (((row.drop a).take m).map qd)) := e_is (e_sl h (p_some hj) (p_some hk) s_lst) (by rw [cut_mid (by rw [List.length_map]; exact ha) hm, List.map_take, List.map_drop])
theorem e_len (h : EvE K te env (.list (row.map qd))) : EvE K (tCB (fun xs H Q => ∃ x n, xs = [x] ∧ LenV K x H n ∧ Q (.int n) H) (tCons te tNil)) env (.int ((row.length : Nat) : Int)) := e_is (e_cb (a_cons h a_nil) c_lenL) (by rw [List.length_map])
theorem e_lenS {j : Nat} (h : EvE K te env (.list (row.map qd))) (hj : j ≤ row.length) : EvE K (tOp (rI0 fun i j => .int (i - j)) (tCB (fun xs H Q => ∃ x n, xs = [x] ∧ LenV K x H n ∧ Q (.int n) H) (tCons te tNil)) (tC (.int (j : Int)))) env (.int ((row.length - j : Nat) : Int)) := e_is (e_op (e_len h) e_int o_sub) (by rw [Int.ofNat_sub hj])
theorem e_at {k : Nat} (h : EvE K te env (.list (row.map qd))) (hk : EvE K tk env (.int (k : Int))) (hl : k < row.length) : EvE K (tOp (rIxL K) te tk) env (qd (row.getD k z4)) := e_op h hk (o_ixL (at_q hl))
theorem e_catq {tb : TE} {row2 : List Q4} (h : EvE K te env (.list (row.map qd))) (h2 : EvE K tb env (.list (row2.map qd))) (hl : row.length + row2.length ≤ 100000) : EvE K (tOp rCat te tb) env (.list ((row ++ row2).map qd)) := e_is (e_op h h2 (o_cat (by rw [List.length_map, List.length_map]; exact hl))) (by rw [List.map_append])
theorem e_revq (h : EvE K te env (.list (row.map qd))) : EvE K (tRevL K te) env (.list (row.reverse.map qd)) := e_is (e_rev h) (by rw [List.map_reverse])
theorem e_sing {q : Q4} (h : EvE K te env (qd q)) : EvE K (tLst (tCons te tNil)) env (.list ([q].map qd)) := e_lst (a_cons h a_nil) (Nat.le_of_ble_eq_true rfl)
end
theorem getD_mem {l : List Q4} {k : Nat} (h : k < l.length) : l.getD k z4 ∈ l := by
  rw [List.getD_eq_getElem?_getD, List.getElem?_eq_getElem h]
  exact List.getElem_mem _
section
variable {P : Program} {w : World} {K : PySem.W.Frag} {mg : Str → Option Value} {base : Heap}
abbrev N_law_changed : List Str := ["_law_row_here", "_law_unit", "_law_numbers_here", "_law_choice", "_law_group", "_law_other", "_law_whole", "_law_joined", "_law_behind", "_law_at", "_law_moved", "_law_one"]
theorem sc_law_changed : FnScope N_law_changed ["_law_row_here", "_law_unit", "_law_numbers_here"] (defScope s_law_changed) := ⟨rfl, rfl, rfl, by decide +kernel, rfl, by decide +kernel, by decide +kernel⟩
theorem v_law_changed_law_row_here {X : Cx} {pos : Pos} (hN : X.N = N_law_changed) (hs : X.env.scope = defScope s_law_changed) : PE X (.Name "_law_row_here" pos) (tVar 0) := pe_var (by rw [hN]; rfl) (by rw [hs]; exact Or.inl (by decide +kernel)) (by decide +kernel) (by decide +kernel)
theorem v_law_changed_law_unit {X : Cx} {pos : Pos} (hN : X.N = N_law_changed) (hs : X.env.scope = defScope s_law_changed) : PE X (.Name "_law_unit" pos) (tVar 1) := pe_var (by rw [hN]; rfl) (by rw [hs]; exact Or.inl (by decide +kernel)) (by decide +kernel) (by decide +kernel)
theorem v_law_changed_law_numbers_here {X : Cx} {pos : Pos} (hN : X.N = N_law_changed) (hs : X.env.scope = defScope s_law_changed) : PE X (.Name "_law_numbers_here" pos) (tVar 2) := pe_var (by rw [hN]; rfl) (by rw [hs]; exact Or.inl (by decide +kernel)) (by decide +kernel) (by decide +kernel)
theorem v_law_changed_law_choice {X : Cx} {pos : Pos} (hN : X.N = N_law_changed) (hs : X.env.scope = defScope s_law_changed) : PE X (.Name "_law_choice" pos) (tVar 3) := pe_var (by rw [hN]; rfl) (by rw [hs]; exact Or.inl (by decide +kernel)) (by decide +kernel) (by decide +kernel)
theorem v_law_changed_law_group {X : Cx} {pos : Pos} (hN : X.N = N_law_changed) (hs : X.env.scope = defScope s_law_changed) : PE X (.Name "_law_group" pos) (tVar 4) := pe_var (by rw [hN]; rfl) (by rw [hs]; exact Or.inl (by decide +kernel)) (by decide +kernel) (by decide +kernel)
theorem v_law_changed_law_other {X : Cx} {pos : Pos} (hN : X.N = N_law_changed) (hs : X.env.scope = defScope s_law_changed) : PE X (.Name "_law_other" pos) (tVar 5) := pe_var (by rw [hN]; rfl) (by rw [hs]; exact Or.inr (Or.inl (by decide +kernel))) (by decide +kernel) (by decide +kernel)
theorem v_law_changed_law_whole {X : Cx} {pos : Pos} (hN : X.N = N_law_changed) (hs : X.env.scope = defScope s_law_changed) : PE X (.Name "_law_whole" pos) (tVar 6) := pe_var (by rw [hN]; rfl) (by rw [hs]; exact Or.inr (Or.inl (by decide +kernel))) (by decide +kernel) (by decide +kernel)
theorem v_law_changed_law_joined {X : Cx} {pos : Pos} (hN : X.N = N_law_changed) (hs : X.env.scope = defScope s_law_changed) : PE X (.Name "_law_joined" pos) (tVar 7) := pe_var (by rw [hN]; rfl) (by rw [hs]; exact Or.inr (Or.inl (by decide +kernel))) (by decide +kernel) (by decide +kernel)
theorem v_law_changed_law_behind {X : Cx} {pos : Pos} (hN : X.N = N_law_changed) (hs : X.env.scope = defScope s_law_changed) : PE X (.Name "_law_behind" pos) (tVar 8) := pe_var (by rw [hN]; rfl) (by rw [hs]; exact Or.inl (by decide +kernel)) (by decide +kernel) (by decide +kernel)
theorem v_law_changed_law_at {X : Cx} {pos : Pos} (hN : X.N = N_law_changed) (hs : X.env.scope = defScope s_law_changed) : PE X (.Name "_law_at" pos) (tVar 9) := pe_var (by rw [hN]; rfl) (by rw [hs]; exact Or.inl (by decide +kernel)) (by decide +kernel) (by decide +kernel)
theorem v_law_changed_law_moved {X : Cx} {pos : Pos} (hN : X.N = N_law_changed) (hs : X.env.scope = defScope s_law_changed) : PE X (.Name "_law_moved" pos) (tVar 10) := pe_var (by rw [hN]; rfl) (by rw [hs]; exact Or.inl (by decide +kernel)) (by decide +kernel) (by decide +kernel)
theorem ok_law_changed (B : Mg K mg) (C_law_units : Cal P w K mg base "_law_units" 1 [] (spR K R_units)) (C_law_times : Cal P w K mg base "_law_times" 1 ["_law_one", "_law_other"] (spR K R_times)) (C_law_best : Cal P w K mg base "_law_best" 2 ["_law_one"] (spR K R_best)) (C_law_conjugate : Cal P w K mg base "_law_conjugate" 1 ["_law_one"] (spR K R_lconj)) (C_law_product : Cal P w K mg base "_law_product" 2 ["_law_row_here"] (spR K R_lproduct)) (D : Dn K mg "_law_changed" s_law_changed ["_law_row_here", "_law_unit", "_law_numbers_here"]) : Cal P w K mg base "_law_changed" 3 ["_law_row_here", "_law_unit", "_law_numbers_here"] (spR K R_changed) := by
  have nd := sc_law_changed.nd
  refine mk_cal D sc_law_changed (fun ds d h => ?_) (fun cdv A outer s H f E ds d hr h => ?_)
  · obtain ⟨row, u, nums, rfl, _⟩ := h
    rfl
  · obtain ⟨row, u, nums, rfl, hl, hrow, hu, hn, rfl⟩ := h
    refine ⟨_, (pss_cons (ps_set (i := 3) nd rfl (by first | exact Or.inl rfl | exact Or.inr rfl) (pe_op op_mod (pe_callTy call_int1 (by rfl) B.int (by decide +kernel) (pa_cons (pe_ix (w_ixL (K := K)) (v_law_changed_law_numbers_here rfl rfl) pe_int (fun _ _ => rfl)) pa_nil)) pe_int)) (pss_cons (ps_set (i := 4) nd rfl (by first | exact Or.inl rfl | exact Or.inr rfl) (pe_c0 C_law_units (hr.mono (by decide)))) (pss_cons (ps_set (i := 5) nd rfl (by first | exact Or.inl rfl | exact Or.inr rfl) (pe_ix (w_ixL (K := K)) (v_law_changed_law_group rfl rfl) (pe_op op_mod (pe_callTy call_int1 (by rfl) B.int (by decide +kernel) (pa_cons (pe_ix (w_ixL (K := K)) (v_law_changed_law_numbers_here rfl rfl) pe_int (fun _ _ => rfl)) pa_nil)) pe_int) (fun _ _ => rfl))) (pss_cons (ps_if (pt_cmpR op_eq (v_law_changed_law_choice rfl rfl) pe_int (nomark _)) (pss_one (ps_ret (pe_tup (pa_cons (v_law_changed_law_row_here rfl rfl) (pa_cons (v_law_changed_law_other rfl rfl) pa_nil))))) pss_nil) (pss_cons (ps_if (pt_cmpR op_eq (v_law_changed_law_choice rfl rfl) pe_int (nomark _)) (pss_one (ps_ret (pe_tup (pa_cons (v_law_changed_law_row_here rfl rfl) (pa_cons (pe_ix (w_ixL (K := K)) (pe_lst (pa_cons (pe_tup (pa_ints _ _ rfl)) (pa_cons (pe_tup (pa_ints _ _ rfl)) (pa_cons (pe_tup (pa_ints _ _ rfl)) pa_nil)))) (pe_op op_mod (pe_callTy call_int1 (by rfl) B.int (by decide +kernel) (pa_cons (pe_ix (w_ixL (K := K)) (v_law_changed_law_numbers_here rfl rfl) pe_int (fun _ _ => rfl)) pa_nil)) pe_int) (fun _ _ => rfl)) pa_nil))))) pss_nil) (pss_cons (ps_if (PW.pt (pw_or (pt_cmpR op_eq (pe_callB (w_len (K := K)) (by rfl) B.len PySem.boot_len (pa_cons (v_law_changed_law_row_here rfl rfl) pa_nil)) pe_int (nomark _)) (pw_or1 (pt_cmpR op_eq (v_law_changed_law_choice rfl rfl) pe_int (nomark _))))) (pss_one (ps_ret (pe_tup (pa_cons (v_law_changed_law_row_here rfl rfl) (pa_cons (v_law_changed_law_unit rfl rfl) pa_nil))))) pss_nil) (pss_cons (ps_if (pt_cmpR op_eq (v_law_changed_law_choice rfl rfl) pe_int (nomark _)) (pss_one (ps_ret (pe_tup (pa_cons (pe_slice (w_slL (K := K)) (v_law_changed_law_row_here rfl rfl) po_none (po_some (pe_op op_sub (pe_callB (w_len (K := K)) (by rfl) B.len PySem.boot_len (pa_cons (v_law_changed_law_row_here rfl rfl) pa_nil)) pe_int))) (pa_cons (pe_c C_law_times (hr.mono (by decide)) (pa_cons (pe_ix (w_ixL (K := K)) (v_law_changed_law_row_here rfl rfl) (pe_op op_sub (pe_callB (w_len (K := K)) (by rfl) B.len PySem.boot_len (pa_cons (v_law_changed_law_row_here rfl rfl) pa_nil)) pe_int) (fun _ _ => rfl)) (pa_cons (v_law_changed_law_unit rfl rfl) pa_nil))) pa_nil))))) pss_nil) (pss_cons (ps_if (PW.pt (pw_and (pt_cmpR op_eq (v_law_changed_law_choice rfl rfl) pe_int (nomark _)) (pw_and1 (pt_cmpR op_gt (pe_callB (w_len (K := K)) (by rfl) B.len PySem.boot_len (pa_cons (v_law_changed_law_row_here rfl rfl) pa_nil)) pe_int (nomark _))))) (pss_cons (ps_set (i := 6) nd rfl (by first | exact Or.inl rfl | exact Or.inr rfl) (pe_c C_law_times (hr.mono (by decide)) (pa_cons (pe_ix (w_ixL (K := K)) (v_law_changed_law_row_here rfl rfl) (pe_op op_sub (pe_callB (w_len (K := K)) (by rfl) B.len PySem.boot_len (pa_cons (v_law_changed_law_row_here rfl rfl) pa_nil)) pe_int) (fun _ _ => rfl)) (pa_cons (pe_ix (w_ixL (K := K)) (v_law_changed_law_row_here rfl rfl) (pe_op op_sub (pe_callB (w_len (K := K)) (by rfl) B.len PySem.boot_len (pa_cons (v_law_changed_law_row_here rfl rfl) pa_nil)) pe_int) (fun _ _ => rfl)) pa_nil)))) (pss_cons (ps_set (i := 7) nd rfl (by first | exact Or.inl rfl | exact Or.inr rfl) (pe_c C_law_best (hr.mono (by decide)) (pa_cons (v_law_changed_law_whole rfl rfl) pa_nil))) (pss_cons (ps_set (i := 8) nd rfl (by first | exact Or.inl rfl | exact Or.inr rfl) (pe_ix (w_ixL (K := K)) (pe_lc (own := [("_law_one", 11)]) (g := (gName 11)) rfl nd (w_pil (K := K) (v_law_changed_law_group rfl rfl)) (blkOk_by (own := [("_law_one", 11)]) (N := N_law_changed) (sc := defScope s_law_changed) (by decide +kernel)) (fun _ _ _ _ _ => (pg_name (i := 11) nd rfl (by first | exact Or.inl rfl | exact Or.inr rfl))) (fun _ _ _ _ _ => (pts_one (pt_cmpR (w_eqD (K := K) hr.units) (pe_c C_law_times (hr.mono (by decide)) (pa_cons (pv 7) (pa_cons (pv 11) pa_nil))) (pv 6) (nomark _)))) (fun _ _ _ _ _ => (pv 11))) pe_int (fun _ _ => rfl))) (pss_one (ps_ret (pe_tup (pa_cons (pe_op op_cat (pe_slice (w_slL (K := K)) (v_law_changed_law_row_here rfl rfl) po_none (po_some (pe_op op_sub (pe_callB (w_len (K := K)) (by rfl) B.len PySem.boot_len (pa_cons (v_law_changed_law_row_here rfl rfl) pa_nil)) pe_int))) (pe_lst (pa_cons (v_law_changed_law_joined rfl rfl) pa_nil))) (pa_cons (pe_c C_law_times (hr.mono (by decide)) (pa_cons (v_law_changed_law_behind rfl rfl) (pa_cons (v_law_changed_law_unit rfl rfl) pa_nil))) pa_nil)))))))) pss_nil) (pss_cons (ps_set (i := 9) nd rfl (by first | exact Or.inl rfl | exact Or.inr rfl) (pe_op op_mod (pe_callTy call_int1 (by rfl) B.int (by decide +kernel) (pa_cons (pe_ix (w_ixL (K := K)) (v_law_changed_law_numbers_here rfl rfl) pe_int (fun _ _ => rfl)) pa_nil)) (pe_callB (w_len (K := K)) (by rfl) B.len PySem.boot_len (pa_cons (v_law_changed_law_row_here rfl rfl) pa_nil)))) (pss_cons (ps_if (pt_cmpR op_eq (v_law_changed_law_choice rfl rfl) pe_int (nomark _)) (pss_one (ps_ret (pe_tup (pa_cons (pe_op op_cat (pe_slice (w_slL (K := K)) (v_law_changed_law_row_here rfl rfl) po_none (po_some (v_law_changed_law_at rfl rfl))) (pe_slice (w_slL (K := K)) (v_law_changed_law_row_here rfl rfl) (po_some (pe_op op_add (v_law_changed_law_at rfl rfl) pe_int)) po_none)) (pa_cons (v_law_changed_law_unit rfl rfl) pa_nil))))) pss_nil) (pss_cons (ps_if (pt_cmpR op_eq (v_law_changed_law_choice rfl rfl) pe_int (nomark _)) (pss_one (ps_ret (pe_tup (pa_cons (pe_op op_cat (pe_slice (w_slL (K := K)) (v_law_changed_law_row_here rfl rfl) po_none (po_some (pe_op op_add (v_law_changed_law_at rfl rfl) pe_int))) (pe_slice (w_slL (K := K)) (v_law_changed_law_row_here rfl rfl) (po_some (v_law_changed_law_at rfl rfl)) po_none)) (pa_cons (v_law_changed_law_unit rfl rfl) pa_nil))))) pss_nil) (pss_cons (ps_if (pt_cmpR op_eq (v_law_changed_law_choice rfl rfl) pe_int (nomark _)) (pss_cons (ps_set (i := 10) nd rfl (by first | exact Or.inl rfl | exact Or.inr rfl) (pe_op op_cat (pe_lst (pa_cons (pe_c C_law_times (hr.mono (by decide)) (pa_cons (pe_ix (w_ixL (K := K)) (v_law_changed_law_row_here rfl rfl) (v_law_changed_law_at rfl rfl) (fun _ _ => rfl)) (pa_cons (v_law_changed_law_other rfl rfl) pa_nil))) pa_nil)) (pe_lc (own := [("_law_one", 11)]) (g := (gName 11)) rfl nd (w_pil (K := K) (pe_slice (w_slL (K := K)) (v_law_changed_law_row_here rfl rfl) (po_some (pe_op op_add (v_law_changed_law_at rfl rfl) pe_int)) (po_some (pe_op op_add (v_law_changed_law_at rfl rfl) pe_int)))) (blkOk_by (own := [("_law_one", 11)]) (N := N_law_changed) (sc := defScope s_law_changed) (by decide +kernel)) (fun _ _ _ _ _ => (pg_name (i := 11) nd rfl (by first | exact Or.inl rfl | exact Or.inr rfl))) (fun _ _ _ _ _ => pts_nil) (fun _ _ _ _ _ => (pe_c C_law_times (hr.mono (by decide)) (pa_cons (pe_c C_law_conjugate (hr.mono (by decide)) (pa_cons (pv 5) pa_nil)) (pa_cons (pv 11) pa_nil))))))) (pss_cons (ps_if (pt_cmpR op_eq (v_law_changed_law_at rfl rfl) (pe_op op_sub (pe_callB (w_len (K := K)) (by rfl) B.len PySem.boot_len (pa_cons (v_law_changed_law_row_here rfl rfl) pa_nil)) pe_int) (nomark _)) (pss_one (ps_set (i := 1) nd rfl (by first | exact Or.inl rfl | exact Or.inr rfl) (pe_c C_law_times (hr.mono (by decide)) (pa_cons (pe_c C_law_conjugate (hr.mono (by decide)) (pa_cons (v_law_changed_law_other rfl rfl) pa_nil)) (pa_cons (v_law_changed_law_unit rfl rfl) pa_nil))))) pss_nil) (pss_one (ps_ret (pe_tup (pa_cons (pe_op op_cat (pe_op op_cat (pe_slice (w_slL (K := K)) (v_law_changed_law_row_here rfl rfl) po_none (po_some (v_law_changed_law_at rfl rfl))) (v_law_changed_law_moved rfl rfl)) (pe_slice (w_slL (K := K)) (v_law_changed_law_row_here rfl rfl) (po_some (pe_op op_add (v_law_changed_law_at rfl rfl) pe_int)) po_none)) (pa_cons (v_law_changed_law_unit rfl rfl) pa_nil))))))) pss_nil) (pss_cons (ps_if (pt_cmpR op_eq (v_law_changed_law_choice rfl rfl) pe_int (nomark _)) (pss_one (ps_ret (pe_tup (pa_cons (pe_op op_cat (pe_op op_cat (pe_slice (w_slL (K := K)) (v_law_changed_law_row_here rfl rfl) po_none (po_some (v_law_changed_law_at rfl rfl))) (pe_lst (pa_cons (pe_c C_law_product (hr.mono (by decide)) (pa_cons (pe_slice (w_slL (K := K)) (v_law_changed_law_row_here rfl rfl) (po_some (v_law_changed_law_at rfl rfl)) (po_some (pe_op op_add (v_law_changed_law_at rfl rfl) pe_int))) pa_nil)) pa_nil))) (pe_slice (w_slL (K := K)) (v_law_changed_law_row_here rfl rfl) (po_some (pe_op op_add (v_law_changed_law_at rfl rfl) pe_int)) po_none)) (pa_cons (v_law_changed_law_unit rfl rfl) pa_nil))))) pss_nil) (pss_one (ps_ret (pe_tup (pa_cons (pe_op op_cat (pe_op op_cat (pe_slice (w_slL (K := K)) (v_law_changed_law_row_here rfl rfl) po_none (po_some (v_law_changed_law_at rfl rfl))) (w_rev (K := K) (pe_slice (w_slL (K := K)) (v_law_changed_law_row_here rfl rfl) (po_some (v_law_changed_law_at rfl rfl)) (po_some (pe_op op_add (v_law_changed_law_at rfl rfl) pe_int))))) (pe_slice (w_slL (K := K)) (v_law_changed_law_row_here rfl rfl) (po_some (pe_op op_add (v_law_changed_law_at rfl rfl) pe_int)) po_none)) (pa_cons (v_law_changed_law_unit rfl rfl) pa_nil)))))))))))))))))), ?_⟩
    show StE K _ [some (.val (.list (row.map qd))), some (.val (qd u)), some (.val (.list (nums.map .int))), none, none, none, none, none, none, none, none, none] _ _
    have tq : ∀ {a b c d : Int} {env : En}, EvE K (tTup (tInts [a, b, c, d])) env (qd ⟨a, b, c, d⟩) := fun {a b c d env} => e_tup a_ints (Nat.le_of_ble_eq_true rfl)
    have nm : ∀ {env : En} (k : Nat) (m : Int), env[2]? = some (some (.val (.list (nums.map .int)))) → k < 60 → 0 < m → EvE K (tOp (rI (fun _ j => 0 < j) fun i j => .int (i % j)) (tCB (fun xs H Q => (∃ i, xs = [.int i] ∧ Q (.int i) H) ∨ ∃ k, xs = [.bl k] ∧ Q (.int (if k then 1 else 0)) H) (tCons (tOp (rIxL K) (tVar 2) (tC (.int (k : Int)))) tNil)) (tC (.int m))) env (.int (nums.getD k 0 % m)) := fun {env} k m h hk hm => e_op (e_cb (a_cons (e_op (e_var h) e_int (o_ixL (at_int (by omega)))) a_nil) c_int) e_int (o_mod hm)
    generalize hch : nums.getD 40 0 % 10 = ch
    refine q_asg (d := .int ch) (e_is (nm 40 10 rfl (by decide) (by decide)) (by rw [hch])) ?_
    refine q_asg (e_call a_nil ⟨rfl, rfl⟩) ?_
    have h24 : 0 ≤ nums.getD 41 0 % 24 ∧ nums.getD 41 0 % 24 < 24 := by omega
    refine q_asg (d := qd (othr nums)) (e_op (e_var rfl) (nm 41 24 rfl (by decide) (by decide)) (o_ixL (at_qi h24.1 (by show _ < 24; omega)))) ?_
    show StE K _ [some (.val (.list (row.map qd))), some (.val (qd u)), some (.val (.list (nums.map .int))), some (.val (.int ch)), some (.val (.list (U.map qd))), some (.val (qd (othr nums))), none, none, none, none, none, none] _ _
    have fin : ∀ {env : En} {ta tb : TE} {x : List Q4 × Q4}, EvE K ta env (.list (x.1.map qd)) → EvE K tb env (qd x.2) → changed row u nums = x → StE K (tRet (tTup (tCons ta (tCons tb tNil)))) env (fun _ => False) (fun e => e = pr (changed row u nums)) := fun {env ta tb x} h1 h2 e => st_ret (e_tup (a_cons h1 (a_cons h2 a_nil)) (Nat.le_of_ble_eq_true rfl)) (by rw [e]; rfl)
    have hO := othr_U nums
    unfold changed at fin ⊢
    rw [hch] at fin ⊢
    refine q_when (t_test (e_op (e_var rfl) e_int o_eqI)) (fun hb => ?_) fun hb => ?_
    · exact fin (x := (row, othr nums)) (e_var rfl) (e_var rfl) (if_pos (of_decide_eq_true hb))
    have n0 := of_decide_eq_false hb
    rw [if_neg n0] at fin ⊢
    refine q_when (t_test (e_op (e_var rfl) e_int o_eqI)) (fun hb => ?_) fun hb => ?_
    · have h3 : 0 ≤ nums.getD 41 0 % 3 ∧ nums.getD 41 0 % 3 < 3 := by omega
      exact fin (x := (row, BU.getD (nums.getD 41 0 % 3).toNat z4)) (e_var rfl) (e_op (e_lst (ds := BU.map qd) (a_cons tq (a_cons tq (a_cons tq a_nil))) (Nat.le_of_ble_eq_true rfl)) (nm 41 3 rfl (by decide) (by decide)) (o_ixL (at_qi h3.1 (by show _ < 3; omega)))) (if_pos (of_decide_eq_true hb))
    have n1 := of_decide_eq_false hb
    rw [if_neg n1] at fin ⊢
    refine q_when (b := decide (row.length = 0 ∨ ch = 7)) (t_is (t_or (t_test (e_op (e_len (e_var rfl)) e_int o_eqI)) fun _ => t_test (e_op (e_var rfl) e_int o_eqI)) ?_) (fun hb => ?_) fun hb => ?_
    · rw [Bool.decide_or]
      congr 1
      exact decide_eq_decide.mpr (by omega)
    · exact fin (x := (row, u)) (e_var rfl) (e_var rfl) (if_pos (of_decide_eq_true hb))
    have n2 := of_decide_eq_false hb
    rw [if_neg n2] at fin ⊢
    have hpos : 0 < row.length := by omega
    refine q_when (t_test (e_op (e_var rfl) e_int o_eqI)) (fun hb => ?_) fun hb => ?_
    · exact fin (x := (row.take (row.length - 1), mul (row.getD (row.length - 1) z4) u)) (sl_to (e_var rfl) (e_lenS (j := 1) (e_var rfl) (by omega))) (e_call (a_cons (e_at (e_var rfl) (e_lenS (j := 1) (e_var rfl) (by omega)) (by omega)) (a_cons (e_var rfl) a_nil)) ⟨row.getD (row.length - 1) z4, u, rfl, .inr hu, rfl⟩) (if_pos (of_decide_eq_true hb))
    have n3 := of_decide_eq_false hb
    rw [if_neg n3] at fin ⊢
    refine q_if (b := decide (ch = 9 ∧ row.length > 1)) (t_is (t_and (t_test (e_op (e_var rfl) e_int o_eqI)) fun _ => t_test (e_op (e_len (e_var rfl)) e_int o_gt)) ?_) (fun hb => ?_) fun hb => ?_
    · rw [Bool.decide_and]
      congr 1
      exact decide_eq_decide.mpr (by omega)
    · have hc := of_decide_eq_true hb
      rw [if_pos hc] at fin ⊢
      have hm1 := hrow _ (getD_mem (l := row) (k := row.length - 2) (by omega))
      have hm2 := hrow _ (getD_mem (l := row) (k := row.length - 1) (by omega))
      generalize hw : mul (row.getD (row.length - 2) z4) (row.getD (row.length - 1) z4) = wh at fin ⊢
      have hwp : wh.par := by rw [← hw]; exact mul_par hm1.1 hm2.1
      refine st_seq (M := fun _ => False) ?_ fun _ z => z.elim
      refine q_asg (d := qd wh) (e_call (a_cons (e_at (e_var rfl) (e_lenS (j := 2) (e_var rfl) (by omega)) (by omega)) (a_cons (e_at (e_var rfl) (e_lenS (j := 1) (e_var rfl) (by omega)) (by omega)) a_nil)) ⟨_, _, rfl, .inl hm1.2, by rw [hw]⟩) ?_
      refine q_asg (e_call (a_cons (e_var rfl) a_nil) ⟨wh, rfl, rfl⟩) ?_
      show StE K _ [some (.val (.list (row.map qd))), some (.val (qd u)), some (.val (.list (nums.map .int))), some (.val (.int ch)), some (.val (.list (U.map qd))), some (.val (qd (othr nums))), some (.val (qd wh)), some (.val (qd (best wh))), none, none, none, none] _ _
      obtain ⟨r, hr1, hr2⟩ := behd_ok hwp
      refine q_asg (d := qd (behd wh)) (e_op (e_own (c_lc U qd (fun x => decide (mul (best wh) x = wh)) qd (i_list (e_var rfl)) (by decide) fun i x hx => ⟨_, g_name, ?_, fun _ => e_var rfl⟩)) e_int (o_ixL ?_)) ?_
      · refine t_is (t_test (e_op (e_call (a_cons (e_var rfl) (a_cons (e_var rfl) a_nil)) ⟨best wh, x, rfl, .inr (U_sm (List.mem_of_getElem? hx)), rfl⟩) (e_var rfl) (o_eqD (sh_qd _) (sh_qd _)))) (by rw [eqv_qd])
      · rw [hr1]
        exact at_zero
      · exact fin (x := (row.take (row.length - 2) ++ [best wh], mul (behd wh) u)) (e_catq (sl_to (e_var rfl) (e_lenS (j := 2) (e_var rfl) (by omega))) (e_sing (e_var rfl)) (by rw [List.length_take, List.length_singleton]; omega)) (e_call (a_cons (e_var rfl) (a_cons (e_var rfl) a_nil)) ⟨behd wh, u, rfl, .inr hu, rfl⟩) rfl
    have n4 := of_decide_eq_false hb
    rw [if_neg n4] at fin ⊢
    refine q_next ?_
    have hm0 := Int.emod_nonneg (nums.getD 42 0) (show ((row.length : Nat) : Int) ≠ 0 by omega)
    have hm1 := Int.emod_lt_of_pos (nums.getD 42 0) (show 0 < ((row.length : Nat) : Int) by omega)
    have hat : chAt row nums < row.length := by
      unfold chAt
      omega
    have hat2 : nums.getD 42 0 % ((row.length : Nat) : Int) = (chAt row nums : Int) := by
      unfold chAt
      rw [Int.toNat_of_nonneg hm0]
    refine q_asg (d := .int (chAt row nums : Int)) (e_is (e_op (e_cb (a_cons (e_op (e_var rfl) e_int (o_ixL (at_int (k := 42) (by omega)))) a_nil) c_int) (e_len (e_var rfl)) (o_mod (by omega))) (by rw [hat2])) ?_
    generalize chAt row nums = at' at hat fin ⊢
    show StE K _ [some (.val (.list (row.map qd))), some (.val (qd u)), some (.val (.list (nums.map .int))), some (.val (.int ch)), some (.val (.list (U.map qd))), some (.val (qd (othr nums))), none, none, none, some (.val (.int (at' : Int))), none, none] _ _
    have pl : ∀ {env : En} (k : Nat), env[9]? = some (some (.val (.int (at' : Int)))) → EvE K (tOp (rI0 fun i j => .int (i + j)) (tVar 9) (tC (.int (k : Int)))) env (.int ((at' + k : Nat) : Int)) := fun {env} k h => e_op (e_var h) e_int o_add
    refine q_when (t_test (e_op (e_var rfl) e_int o_eqI)) (fun hb => ?_) fun hb => ?_
    · exact fin (x := (row.take at' ++ row.drop (at' + 1), u)) (e_catq (sl_to (e_var rfl) (e_var rfl)) (sl_from (e_var rfl) (pl 1 rfl)) (by rw [List.length_take, List.length_drop]; omega)) (e_var rfl) (if_pos (of_decide_eq_true hb))
    have n5 := of_decide_eq_false hb
    rw [if_neg n5] at fin ⊢
    refine q_when (t_test (e_op (e_var rfl) e_int o_eqI)) (fun hb => ?_) fun hb => ?_
    · exact fin (x := (row.take (at' + 1) ++ row.drop at', u)) (e_catq (sl_to (e_var rfl) (pl 1 rfl)) (sl_from (e_var rfl) (e_var rfl)) (by rw [List.length_take, List.length_drop]; omega)) (e_var rfl) (if_pos (of_decide_eq_true hb))
    have n6 := of_decide_eq_false hb
    rw [if_neg n6] at fin ⊢
    refine q_when (t_test (e_op (e_var rfl) e_int o_eqI)) (fun hb => ?_) fun hb => ?_
    · rw [if_pos (of_decide_eq_true hb)] at fin ⊢
      have hcs := conj_sm (U_sm hO)
      have hlm : ([mul (row.getD at' z4) (othr nums)] ++ ((row.drop (at' + 1)).take 1).map (mul (conj (othr nums)))).length ≤ 2 := by
        rw [List.length_append, List.length_singleton, List.length_map, List.length_take]
        omega
      refine q_asg (d := .list (([mul (row.getD at' z4) (othr nums)] ++ ((row.drop (at' + 1)).take 1).map (mul (conj (othr nums)))).map qd)) (e_catq (e_sing (e_call (a_cons (e_at (e_var rfl) (e_var rfl) hat) (a_cons (e_var rfl) a_nil)) ⟨_, _, rfl, .inr (U_sm hO), rfl⟩)) (e_is (e_own (c_map ((row.drop (at' + 1)).take 1) qd (fun o => qd (mul (conj (othr nums)) o)) (i_list (sl_mid (e_var rfl) (pl 1 rfl) (pl 2 rfl) (by omega) (by omega))) (by rw [List.length_take]; omega) fun i o ho => ⟨_, g_name, e_call (a_cons (e_call (a_cons (e_var rfl) a_nil) ⟨othr nums, rfl, rfl⟩) (a_cons (e_var rfl) a_nil)) ⟨conj (othr nums), o, rfl, .inl hcs, rfl⟩⟩)) (by rw [List.map_map]; rfl)) (by rw [List.length_singleton, List.length_map, List.length_take]; omega)) ?_
      generalize [mul (row.getD at' z4) (othr nums)] ++ ((row.drop (at' + 1)).take 1).map (mul (conj (othr nums))) = mv at hlm fin ⊢
      show StE K _ [some (.val (.list (row.map qd))), some (.val (qd u)), some (.val (.list (nums.map .int))), some (.val (.int ch)), some (.val (.list (U.map qd))), some (.val (qd (othr nums))), none, none, none, some (.val (.int (at' : Int))), some (.val (.list (mv.map qd))), none] _ _
      have hll : (row.take at').length + mv.length ≤ 100000 := by
        rw [List.length_take]
        omega
      have hll2 : (row.take at' ++ mv).length + (row.drop (at' + 2)).length ≤ 100000 := by
        simp only [List.length_append, List.length_drop, List.length_take]
        omega
      refine q_if (b := decide (at' = row.length - 1)) (t_is (t_test (e_op (e_var rfl) (e_lenS (j := 1) (e_var rfl) (by omega)) o_eqI)) (decide_eq_decide.mpr (by omega))) (fun hc => ?_) fun hc => ?_
      · rw [if_pos (of_decide_eq_true hc)] at fin ⊢
        refine q_asg (e_call (a_cons (e_call (a_cons (e_var rfl) a_nil) ⟨othr nums, rfl, rfl⟩) (a_cons (e_var rfl) a_nil)) ⟨conj (othr nums), u, rfl, .inl hcs, rfl⟩) ?_
        exact fin (x := (row.take at' ++ mv ++ row.drop (at' + 2), mul (conj (othr nums)) u)) (e_catq (e_catq (sl_to (e_var rfl) (e_var rfl)) (e_var rfl) hll) (sl_from (e_var rfl) (pl 2 rfl)) hll2) (e_var rfl) rfl
      · rw [if_neg (of_decide_eq_false hc)] at fin ⊢
        refine q_next ?_
        exact fin (x := (row.take at' ++ mv ++ row.drop (at' + 2), u)) (e_catq (e_catq (sl_to (e_var rfl) (e_var rfl)) (e_var rfl) hll) (sl_from (e_var rfl) (pl 2 rfl)) hll2) (e_var rfl) rfl
    have n7 := of_decide_eq_false hb
    rw [if_neg n7] at fin ⊢
    refine q_when (t_test (e_op (e_var rfl) e_int o_eqI)) (fun hb => ?_) fun hb => ?_
    · exact fin (x := (row.take at' ++ [prodL ((row.drop at').take 2)] ++ row.drop (at' + 2), u)) (e_catq (e_catq (sl_to (e_var rfl) (e_var rfl)) (e_sing (e_call (a_cons (sl_mid (m := 2) (e_var rfl) (e_var rfl) (pl 2 rfl) (by omega) rfl) a_nil) ⟨(row.drop at').take 2, rfl, fun q hq => (hrow q (List.mem_of_mem_drop (List.mem_of_mem_take hq))).2, rfl⟩)) (by rw [List.length_take, List.length_singleton]; omega)) (sl_from (e_var rfl) (pl 2 rfl)) (by simp only [List.length_append, List.length_take, List.length_singleton, List.length_drop]; omega)) (e_var rfl) (if_pos (of_decide_eq_true hb))
    have n8 := of_decide_eq_false hb
    rw [if_neg n8] at fin ⊢
    exact st_mono (fin (x := (row.take at' ++ ((row.drop at').take 2).reverse ++ row.drop (at' + 2), u)) (e_catq (e_catq (sl_to (e_var rfl) (e_var rfl)) (e_revq (sl_mid (m := 2) (e_var rfl) (e_var rfl) (pl 2 rfl) (by omega) rfl)) (by rw [List.length_take, List.length_reverse, List.length_take]; omega)) (sl_from (e_var rfl) (pl 2 rfl)) (by simp only [List.length_append, List.length_take, List.length_reverse, List.length_drop]; omega)) (e_var rfl) rfl) fun _ z => z.elim
end
end TP

/-! What the law's rows and changed rows are. -/
namespace TP
open PySem L2 PySem.Spec PyProof.Rows
theorem tx_of_sm {q : Q4} (h : q.sm 64) : q.tx := h
theorem tx_of_nrm {q : Q4} (hp : q.par) (h : nrm q ≤ 529) : q.tx := tx_of_sm (sm_of_nrm hp (by decide) (by omega))
structure PLOk (f : Q4) : Prop where
  par : f.par
  tx : f.tx
  best : best f = f
  lo : 1 < nrm f
  hi : nrm f ≤ 23
  wp : wp (nrm f) = some [(nrm f, 1)]
theorem txB_of {q : Q4} (h : txB q = true) : q.tx := by
  unfold txB at h
  simp only [Bool.and_eq_true, decide_eq_true_eq] at h
  exact ⟨h.1.1.1, h.1.1.2, h.1.2, h.2⟩
theorem PL_ok {f : Q4} (h : f ∈ PL) : PLOk f := by
  have := List.all_eq_true.mp pl_all f h
  unfold plOk at this
  simp only [Bool.and_eq_true, decide_eq_true_eq] at this
  obtain ⟨⟨⟨⟨⟨a, b⟩, c⟩, d⟩, e⟩, g⟩ := this
  exact ⟨a, txB_of b, c, d, e, g⟩
/-- what a factor of a changed row is -/
structure GF (f : Q4) : Prop where
  par : f.par
  lo : 1 < nrm f
  hi : nrm f ≤ 529
theorem GF.tx {f : Q4} (h : GF f) : f.tx := tx_of_nrm h.par h.hi
theorem GF.nz {f : Q4} (h : GF f) : f ≠ ⟨0, 0, 0, 0⟩ := ne_zero (by have := h.lo; omega)
theorem GF.of_PL {f : Q4} (h : f ∈ PL) : GF f := ⟨(PL_ok h).par, (PL_ok h).lo, by have := (PL_ok h).hi; omega⟩
theorem wp_ok {v : Int} (h1 : 1 < v) (h2 : v ≤ 529) : (wp v).isSome = true ∧ isP v = decide (wp v = some [(v, 1)]) := by
  have := List.all_eq_true.mp wp_all (v - 2).toNat (List.mem_range.mpr (by omega))
  have e : (((v - 2).toNat : Nat) : Int) + 2 = v := by omega
  rw [e] at this
  unfold wpOk at this
  rw [Bool.and_eq_true, beq_iff_eq] at this
  exact this
theorem GF.unit {f u : Q4} (h : GF f) (hu : u ∈ U) : GF (mul f u) := by
  obtain ⟨up, _, un, _⟩ := U_par u hu
  have e := nrm_mul h.par up
  rw [un, Int.mul_one] at e
  exact ⟨mul_par h.par up, by rw [e]; exact h.lo, by rw [e]; exact h.hi⟩
theorem GF.unitL {f u : Q4} (h : GF f) (hu : u ∈ U) : GF (mul u f) := by
  obtain ⟨up, _, un, _⟩ := U_par u hu
  have e := nrm_mul up h.par
  rw [un, Int.one_mul] at e
  exact ⟨mul_par up h.par, by rw [e]; exact h.lo, by rw [e]; exact h.hi⟩
theorem two_bd {a b : Int} (h1 : 1 < a) (h2 : a ≤ 23) (h3 : 1 < b) (h4 : b ≤ 23) : 1 < a * b ∧ a * b ≤ 529 := by
  have k1 : a * b ≤ 23 * 23 := Int.mul_le_mul h2 h4 (by omega) (by omega)
  have k2 : 2 * 2 ≤ a * b := Int.mul_le_mul (by omega) (by omega) (by omega) (by omega)
  omega
theorem GF.two {f g : Q4} (h : f ∈ PL) (h2 : g ∈ PL) : GF (mul f g) := by
  have a := PL_ok h
  have b := PL_ok h2
  have e := nrm_mul a.par b.par
  have k := two_bd a.lo a.hi b.lo b.hi
  exact ⟨mul_par a.par b.par, by rw [e]; exact k.1, by rw [e]; exact k.2⟩
theorem GF.best {f : Q4} (h : GF f) : GF (best f) := ⟨best_par h.par, by rw [nrm_best h.par]; exact h.lo, by rw [nrm_best h.par]; exact h.hi⟩
theorem one_mul4 (q : Q4) : mul ⟨2, 0, 0, 0⟩ q = q := by
  obtain ⟨a, b, c, d⟩ := q
  unfold mul
  simp only [Q4.mk.injEq]
  refine ⟨?_, ?_, ?_, ?_⟩ <;> omega
structure UO (u : Q4) : Prop where
  par : u.par
  tx : u.tx
theorem UO.of_U {u : Q4} (h : u ∈ U) : UO u := by
  obtain ⟨up, us, _, _⟩ := U_par u h
  exact ⟨up, tx_of_sm (sm_up us (by decide))⟩
theorem UO.mul {u v : Q4} (h : u ∈ U) (h2 : v ∈ U) : UO (mul u v) := by
  obtain ⟨up, _, un, _⟩ := U_par u h
  obtain ⟨vp, _, vn, _⟩ := U_par v h2
  have e := nrm_mul up vp
  rw [un, vn] at e
  exact ⟨mul_par up vp, tx_of_nrm (mul_par up vp) (by rw [e]; decide)⟩
theorem GF.uo {f : Q4} (h : GF f) : UO f := ⟨h.par, h.tx⟩
theorem mem3 {a b c : List Q4} {x : Q4} (h : x ∈ a ++ b ++ c) : x ∈ a ∨ x ∈ b ∨ x ∈ c := by
  rcases List.mem_append.mp h with h | h
  · rcases List.mem_append.mp h with h | h
    · exact .inl h
    · exact .inr (.inl h)
  · exact .inr (.inr h)
structure CO (x : List Q4 × Q4) : Prop where
  len : x.1.length ≤ 20
  gf : ∀ f ∈ x.1, GF f
  uo : UO x.2
theorem CO_ite {c : Prop} [Decidable c] {a b : List Q4 × Q4} (h1 : c → CO a) (h2 : ¬ c → CO b) : CO (if c then a else b) := by
  by_cases h : c
  · rw [if_pos h]
    exact h1 h
  · rw [if_neg h]
    exact h2 h
/-- THE CHANGED ROW -/
theorem changed_ok {row : List Q4} {u : Q4} {nums : List Int} (hrow : ∀ f ∈ row, f ∈ PL) (hl : row.length ≤ 7) (hu : u ∈ U) : CO (changed row u nums) := by
  have hG : ∀ f ∈ row, GF f := fun f hf => GF.of_PL (hrow f hf)
  have hT : ∀ k, ∀ f ∈ row.take k, GF f := fun k f hf => hG f (List.mem_of_mem_take hf)
  have hD : ∀ k, ∀ f ∈ row.drop k, GF f := fun k f hf => hG f (List.mem_of_mem_drop hf)
  have hO := othr_U nums
  unfold changed
  refine CO_ite (fun _ => ?_) fun _ => ?_
  · exact ⟨by show row.length ≤ _; omega, hG, UO.of_U hO⟩
  refine CO_ite (fun _ => ?_) fun _ => ?_
  · refine ⟨by show row.length ≤ _; omega, hG, ?_⟩
    have h3 : 0 ≤ nums.getD 41 0 % 3 ∧ nums.getD 41 0 % 3 < 3 := by omega
    have k : ∀ i < 3, UO (BU.getD i z4) := fun i hi => by
      have : i = 0 ∨ i = 1 ∨ i = 2 := by omega
      rcases this with rfl | rfl | rfl
      · exact ⟨by decide, txB_of (by decide)⟩
      · exact ⟨by decide, txB_of (by decide)⟩
      · exact ⟨by decide, txB_of (by decide)⟩
    exact k _ (by omega)
  refine CO_ite (fun _ => ?_) fun h2 => ?_
  · exact ⟨by show row.length ≤ _; omega, hG, UO.of_U hu⟩
  have hpos : 0 < row.length := by omega
  refine CO_ite (fun _ => ?_) fun _ => ?_
  · refine ⟨by show (row.take _).length ≤ _; rw [List.length_take]; omega, hT _, ?_⟩
    exact ((hG _ (getD_mem (by omega))).unit hu).uo
  refine CO_ite (fun h9 => ?_) fun _ => ?_
  · have hg := GF.two (hrow _ (getD_mem (l := row) (k := row.length - 2) (by omega))) (hrow _ (getD_mem (l := row) (k := row.length - 1) (by omega)))
    refine ⟨by show (row.take _ ++ [_]).length ≤ _; rw [List.length_append, List.length_take, List.length_singleton]; omega, fun f hf => ?_, ?_⟩
    · rcases List.mem_append.mp hf with hf | hf
      · exact hT _ f hf
      · rw [List.mem_singleton.mp hf]
        exact hg.best
    · obtain ⟨r, _, hb⟩ := behd_ok hg.par
      exact UO.mul hb hu
  have hat : chAt row nums < row.length := by
    unfold chAt
    have hm0 := Int.emod_nonneg (nums.getD 42 0) (show ((row.length : Nat) : Int) ≠ 0 by omega)
    have hm1 := Int.emod_lt_of_pos (nums.getD 42 0) (show 0 < ((row.length : Nat) : Int) by omega)
    omega
  generalize chAt row nums = at' at hat
  refine CO_ite (fun _ => ?_) fun _ => ?_
  · refine ⟨by show (row.take _ ++ row.drop _).length ≤ _; rw [List.length_append, List.length_take, List.length_drop]; omega, fun f hf => ?_, UO.of_U hu⟩
    rcases List.mem_append.mp hf with hf | hf
    · exact hT _ f hf
    · exact hD _ f hf
  refine CO_ite (fun _ => ?_) fun _ => ?_
  · refine ⟨by show (row.take _ ++ row.drop _).length ≤ _; rw [List.length_append, List.length_take, List.length_drop]; omega, fun f hf => ?_, UO.of_U hu⟩
    rcases List.mem_append.mp hf with hf | hf
    · exact hT _ f hf
    · exact hD _ f hf
  refine CO_ite (fun _ => ?_) fun _ => ?_
  · have hc := (U_par _ hO).2.2.2
    refine ⟨?_, fun f hf => ?_, ?_⟩
    · simp only [List.length_append, List.length_take, List.length_drop, List.length_map, List.length_singleton]
      omega
    · rcases mem3 hf with hf | hf | hf
      · exact hT _ f hf
      · rcases List.mem_append.mp hf with hf | hf
        · rw [List.mem_singleton.mp hf]
          exact (hG _ (getD_mem hat)).unit hO
        · obtain ⟨g, hg, rfl⟩ := List.mem_map.mp hf
          exact (hD _ g (List.mem_of_mem_take hg)).unitL hc
      · exact hD _ f hf
    · by_cases ha : at' = row.length - 1
      · rw [if_pos ha]
        exact UO.mul hc hu
      · rw [if_neg ha]
        exact UO.of_U hu
  refine CO_ite (fun _ => ?_) fun _ => ?_
  · refine ⟨?_, fun f hf => ?_, UO.of_U hu⟩
    · simp only [List.length_append, List.length_take, List.length_drop, List.length_singleton]
      omega
    · rcases mem3 hf with hf | hf | hf
      · exact hT _ f hf
      · rw [List.mem_singleton.mp hf]
        have hm : ∀ g ∈ (row.drop at').take 2, g ∈ PL := fun g hg => hrow g (List.mem_of_mem_drop (List.mem_of_mem_take hg))
        have hlen : ((row.drop at').take 2).length = 1 ∨ ((row.drop at').take 2).length = 2 := by
          rw [List.length_take, List.length_drop]
          omega
        generalize (row.drop at').take 2 = l at hm hlen
        match l, hm, hlen with
        | [a], hm, _ =>
          show GF (mul ⟨2, 0, 0, 0⟩ a)
          rw [one_mul4]
          exact GF.of_PL (hm a List.mem_cons_self)
        | [a, b], hm, _ =>
          show GF (mul (mul ⟨2, 0, 0, 0⟩ a) b)
          rw [one_mul4]
          exact GF.two (hm a List.mem_cons_self) (hm b (List.mem_cons_of_mem _ List.mem_cons_self))
      · exact hD _ f hf
  · refine ⟨?_, fun f hf => ?_, UO.of_U hu⟩
    · simp only [List.length_append, List.length_take, List.length_drop, List.length_reverse]
      omega
    · rcases mem3 hf with hf | hf | hf
      · exact hT _ f hf
      · exact hD _ f (List.mem_of_mem_take (List.mem_reverse.mp hf))
      · exact hD _ f hf
theorem foldl_pos : ∀ (l : List Q4) (p : Q4), p.par → 0 < nrm p → (∀ q ∈ l, q.par ∧ 0 < nrm q) → 0 < nrm (l.foldl mul p)
  | [], p, _, h, _ => h
  | q :: l, p, hp, h, hq => by
    obtain ⟨q1, q2⟩ := hq q List.mem_cons_self
    refine foldl_pos l (mul p q) (mul_par hp q1) ?_ fun r hr => hq r (List.mem_cons_of_mem _ hr)
    rw [nrm_mul hp q1]
    exact Int.mul_pos h q2
theorem prodL_ne {row : List Q4} {u : Q4} (hrow : ∀ f ∈ row, f ∈ PL) (hu : u ∈ U) : (prodL (row ++ [u])).par ∧ prodL (row ++ [u]) ≠ ⟨0, 0, 0, 0⟩ := by
  have h : ∀ q ∈ row ++ [u], q.par ∧ 0 < nrm q := fun q hq => by
    rcases List.mem_append.mp hq with hq | hq
    · exact ⟨(PL_ok (hrow q hq)).par, by have := (PL_ok (hrow q hq)).lo; omega⟩
    · rw [List.mem_singleton.mp hq]
      obtain ⟨a, _, b, _⟩ := U_par u hu
      exact ⟨a, by rw [b]; decide⟩
  refine ⟨prodL_par fun q hq => (h q hq).1, ne_zero ?_⟩
  have := foldl_pos (row ++ [u]) ⟨2, 0, 0, 0⟩ (by decide) (by decide) h
  unfold prodL
  omega
/-- what check_text says is what the law says -/
theorem told_eq {n : Q4} {row : List Q4} {u : Q4} (hrow : ∀ f ∈ row, GF f) : (decide (nrm u = 1) && (decide (prodL (row ++ [u]) = n) && row.all cpQ)) = rightB n row u := by
  unfold rightB
  congr 2
  refine Bool.eq_iff_iff.mpr ?_
  rw [List.all_eq_true, List.all_eq_true]
  have k : ∀ f ∈ row, cpQ f = (isP (nrm f) && decide (best f = f)) := fun f hf => by
    unfold cpQ
    rw [(wp_ok (hrow f hf).lo (hrow f hf).hi).2, Bool.and_comm]
  constructor
  · intro h f hf
    rw [← k f hf]
    exact h f hf
  · intro h f hf
    rw [k f hf]
    exact h f hf
theorem right_yes {row : List Q4} {u : Q4} (hrow : ∀ f ∈ row, f ∈ PL) (hu : u ∈ U) : rightB (prodL (row ++ [u])) row u = true := by
  rw [← told_eq fun f hf => GF.of_PL (hrow f hf)]
  have e : row.all cpQ = true := by
    rw [List.all_eq_true]
    intro f hf
    have h := PL_ok (hrow f hf)
    unfold cpQ
    rw [h.best, h.wp]
    simp
  rw [e, (U_par u hu).2.2.1]
  simp
theorem R_check_of {n : Q4} {row : List Q4} {u : Q4} (hn : n.par) (h0 : n ≠ ⟨0, 0, 0, 0⟩) (hl : row.length ≤ 20) (hrow : ∀ f ∈ row, GF f) (hu : UO u) {X : PyData} (hX : X = qd n ∨ X = qld n) : R_check_text [X, .str (rowT row u)] (.bool (rightB n row u)) := by
  refine ⟨n, row, u, ?_, hn, h0, by omega, fun q hq => ?_, hu.par, hu.tx, ?_⟩
  · rcases hX with rfl | rfl
    · exact .inl rfl
    · exact .inr rfl
  · have h := hrow q hq
    exact ⟨h.par, h.tx, h.nz, h.lo, Int.le_trans h.hi (by decide), (wp_ok h.lo h.hi).1⟩
  · rw [told_eq hrow]
theorem R_text_of {row : List Q4} {u : Q4} (hl : row.length ≤ 20) (hrow : ∀ f ∈ row, GF f) (hu : UO u) : R_row_text [.list (row.map qd), qd u] (.str (rowT row u)) :=
  ⟨row, u, rfl, by omega, fun q hq => ⟨(hrow q hq).par, (hrow q hq).tx⟩, hu.par, hu.tx, rfl⟩
theorem R_right_of {n : Q4} {row : List Q4} {u : Q4} (hl : row.length ≤ 20) (hrow : ∀ f ∈ row, GF f) (hu : UO u) : R_right [qd n, .list (row.map qd), qd u] (.bool (rightB n row u)) :=
  ⟨n, row, u, rfl, by omega, fun q hq => tx_sm (hrow q hq).tx, tx_sm hu.tx, rfl⟩
theorem tx_sm9 {q : Q4} (h : q.tx) : q.sm (2 ^ 9) := sm_up (M := 64) h (by decide)
/-- THE ROW that row_of gives -/
theorem R_row_of {alone : List Q4} {u : Q4} (hl : alone.length ≤ 1) (hrow : ∀ f ∈ alone, f ∈ PL) (hu : u ∈ U) : R_row [qd (prodL (alone ++ [u])), .list ((alone.map nrm).map .int)] (.tuple [.list (alone.map qd), qd u]) := by
  match alone, hl with
  | [], _ =>
    have e : prodL ([] ++ [u]) = u := by
      show mul ⟨2, 0, 0, 0⟩ u = u
      rw [one_mul4]
    rw [e]
    have h := List.all_eq_true.mp chkU_all u hu
    unfold chkU at h
    simp only [Bool.and_eq_true, decide_eq_true_eq] at h
    obtain ⟨⟨⟨⟨⟨⟨⟨p, t⟩, g0⟩, g1⟩, c⟩, wpe⟩, n1⟩, nz⟩ := h
    have t := txB_of t
    refine ⟨u, [], rfl, ⟨u, [], [], rfl, p, nz, tx_sm t, by omega, by rw [n1]; decide, wpe, (fun z (hz : z ∈ ([] : List (Int × Int))) => nomatch hz), rfl, (by decide : ([] : List Int).length < 64), List.Pairwise.nil, rfl⟩, ⟨u, rfl, p, nz, g0, g1, by rw [c]; rfl⟩, (fun i t (h : ([] : List Stp)[i]? = some t) => nomatch h), rfl⟩
  | [f], _ =>
    have hf := hrow f List.mem_cons_self
    have e : prodL ([f] ++ [u]) = mul f u := by
      show mul (mul ⟨2, 0, 0, 0⟩ f) u = _
      rw [one_mul4]
    rw [e]
    have a := PL_ok hf
    obtain ⟨up, _, un, _⟩ := U_par u hu
    have hn : nrm (mul f u) = nrm f := by rw [nrm_mul a.par up, un, Int.mul_one]
    have h := List.all_eq_true.mp (List.all_eq_true.mp chk_all f hf) u hu
    unfold chk at h
    generalize hq : mul f u = n at h hn
    cases he : euc 20 n ⟨2 * nrm f, 0, 0, 0⟩ with
    | none =>
      simp only [he, Bool.and_false, Bool.false_and] at h
      cases h
    | some g =>
      simp only [he, Bool.and_eq_true, decide_eq_true_eq] at h
      obtain ⟨⟨⟨⟨⟨⟨⟨p, t⟩, g0⟩, g1⟩, c⟩, ⟨gp, gz⟩, gb⟩, rz⟩, qz⟩ := h
      have t := txB_of t
      have hlo := a.lo
      have hhi := a.hi
      have nz : n ≠ ⟨0, 0, 0, 0⟩ := ne_zero (by rw [hn]; omega)
      have fz : f ≠ ⟨0, 0, 0, 0⟩ := ne_zero (by omega)
      refine ⟨n, [(nrm f, f, u)], rfl, ⟨n, [nrm f], [(nrm f, 1)], rfl, p, nz, tx_sm t, by omega, by rw [hn]; exact Int.le_trans hhi (by decide), by rw [hn]; exact a.wp, fun z hz => by rw [List.mem_singleton.mp hz]; exact ⟨(by decide : (0 : Int) ≤ 1), (by decide : (1 : Int) < 64)⟩, rfl, (show 1 < 64 by decide), List.pairwise_singleton _ _, rfl⟩, ⟨n, rfl, p, nz, g0, g1, by rw [c]; rfl⟩, fun i t' h => ?_, rfl⟩
      cases i with
      | zero =>
        cases h
        exact ⟨⟨n, nrm f, 20, g, rfl, p, nz, he, gp, gz, by rw [gb]⟩, ⟨n, f, rfl, p, a.par, fz, tx_sm9 t, tx_sm9 a.tx, rz, by rw [qz]⟩⟩
      | succ i => cases h
end TP

/-! the law. -/
namespace TP
open PySem L2 PySem.Spec PyProof.Rows
local macro_rules | `(tactic| walk_at "ev1") => `(tactic| first
  | with_reducible exact e_int
  | with_reducible exact e_str
  | with_reducible exact e_bl
  | with_reducible exact e_non
  | ((with_reducible apply e_var); exact rfl)
  | with_reducible apply e_op
  | with_reducible apply e_un
  | with_reducible apply e_call
  | with_reducible apply e_cb
  | with_reducible apply e_tup
  | with_reducible apply e_sl
  | with_reducible apply e_chain
  | with_reducible apply e_and
  | with_reducible apply e_or
  | with_reducible apply e_rev
  | with_reducible apply e_lst
  | exact Nat.le_of_ble_eq_true rfl
  | with_reducible exact p_none
  | with_reducible apply p_some
  | with_reducible exact a_nil
  | with_reducible apply a_cons
  | with_reducible apply t_b
  | with_reducible apply t_test
  | with_reducible exact t_yes
  | with_reducible apply t_not
  | with_reducible apply t_and
  | with_reducible apply t_or
  | with_reducible exact o_add
  | with_reducible exact o_sub
  | with_reducible apply o_mul
  | with_reducible apply o_div
  | with_reducible apply o_mod
  | with_reducible apply o_pow
  | with_reducible exact o_lt
  | with_reducible exact o_le
  | with_reducible exact o_gt
  | with_reducible exact o_ge
  | with_reducible exact u_neg
  | with_reducible exact o_eqI
  | with_reducible exact o_neI
  | with_reducible exact o_eqS
  | with_reducible exact o_neS
  | with_reducible exact o_neB
  | with_reducible exact o_isN
  | with_reducible exact o_notN
  | with_reducible exact o_isB
  | with_reducible exact o_notB
  | with_reducible exact c_int
  | with_reducible exact c_abs
  | with_reducible exact c_gcd
  | with_reducible exact c_lenL
  | with_reducible exact c_lenT
  | with_reducible exact c_tupL
  | with_reducible exact c_tupT
  | with_reducible exact s_lst
  | with_reducible exact s_tup
  | (refine fun (_ : _ = true) => ?_)
  | (refine fun (_ : _ = false) => ?_))
def spLaw (K : PySem.W.Frag) : Sp := fun vs H Q _ => ∃ (a : Addr) (ns : List Int), vs = [.ref a] ∧ SqL K H a (ns.map V.int) ∧ ns.length ≤ 63 ∧ ∀ H', Q (.bl true) H'
theorem e_isbool {K : PySem.W.Frag} {env : En} {te : TE} {b : Bool} (h : EvE K te env (.bool b)) : EvE K (tCB (rIsi K) (tCons te (tCons (tC (.ty "bool")) tNil))) env (.bool true) := fun H0 F H σ Q i ok q =>
  h H0 F H σ _ i ok fun v F1 H1 s1 r1 => ⟨.bl b, .ty "bool", .type "bool", .type "bool", true, by rw [r1.of_bl], ClsV.ty _, .base (.bl b), kit_ty (by decide +kernel), q _ F1 H1 s1 (.bl _)⟩
section
variable {P : Program} {w : World} {K : PySem.W.Frag} {mg : Str → Option Value} {base : Heap}
theorem mk_fnS {x : Str} {st : Stmt} {N ps : List Str} {k : Nat} {sp : Sp} {fL : Addr} {fdL : FuncData} (F : FnP K x st fL fdL) (S : FnScope N ps (defScope st)) (len : ∀ vs H Q E, sp vs H Q E → vs.length = ps.length)
    (body : ∀ (cdv : Value) (A : Around) (outer : List Env) (s : Shared) (H : Hp) (f : Addr) (E : XK) (vs : List V) (Q : VK), Room k (A.deeper (envOfC x (defScope st) s.heap.objs.size f cdv)) → sp vs H Q E →
      ∃ t : TS, PSs (cxOf CX0 P w K mg base N x (defScope st) f cdv A outer s H E).nox (defBody st) t ∧ t { nx := fun _ H' => Q .non H', rt := Q } (L2.start N vs) H) : FnOk P w K mg base CX0 (k + 1) fL fdL ps sp := by
  refine F.ok S (fun vs H Q E h => len vs H Q E h) fun cdv A outer s H vs Q E hr h => ?_
  obtain ⟨t, h1, h2⟩ := body cdv A outer s H fL E vs Q hr h
  exact ⟨t, h1.nox, h2⟩
abbrev N_law : List Str := ["_law_script", "_law_numbers_here", "_law_row_here", "_law_unit", "_law_number_here", "_law_bad", "_law_behind", "_law_told", "_law_alone", "_law_primes", "_law_first", "_law_found", "_law_last", "_law_k", "_law_one"]
theorem sc_law : FnScope N_law ["_law_script"] (defScope s_law) := ⟨rfl, rfl, rfl, by decide +kernel, rfl, by decide +kernel, by decide +kernel⟩
theorem v_law_law_script {X : Cx} {pos : Pos} (hN : X.N = N_law) (hs : X.env.scope = defScope s_law) : PE X (.Name "_law_script" pos) (tVar 0) := pe_var (by rw [hN]; rfl) (by rw [hs]; exact Or.inl (by decide +kernel)) (by decide +kernel) (by decide +kernel)
theorem v_law_law_numbers_here {X : Cx} {pos : Pos} (hN : X.N = N_law) (hs : X.env.scope = defScope s_law) : PE X (.Name "_law_numbers_here" pos) (tVar 1) := pe_var (by rw [hN]; rfl) (by rw [hs]; exact Or.inr (Or.inl (by decide +kernel))) (by decide +kernel) (by decide +kernel)
theorem v_law_law_row_here {X : Cx} {pos : Pos} (hN : X.N = N_law) (hs : X.env.scope = defScope s_law) : PE X (.Name "_law_row_here" pos) (tVar 2) := pe_var (by rw [hN]; rfl) (by rw [hs]; exact Or.inl (by decide +kernel)) (by decide +kernel) (by decide +kernel)
theorem v_law_law_unit {X : Cx} {pos : Pos} (hN : X.N = N_law) (hs : X.env.scope = defScope s_law) : PE X (.Name "_law_unit" pos) (tVar 3) := pe_var (by rw [hN]; rfl) (by rw [hs]; exact Or.inl (by decide +kernel)) (by decide +kernel) (by decide +kernel)
theorem v_law_law_number_here {X : Cx} {pos : Pos} (hN : X.N = N_law) (hs : X.env.scope = defScope s_law) : PE X (.Name "_law_number_here" pos) (tVar 4) := pe_var (by rw [hN]; rfl) (by rw [hs]; exact Or.inl (by decide +kernel)) (by decide +kernel) (by decide +kernel)
theorem v_law_law_bad {X : Cx} {pos : Pos} (hN : X.N = N_law) (hs : X.env.scope = defScope s_law) : PE X (.Name "_law_bad" pos) (tVar 5) := pe_var (by rw [hN]; rfl) (by rw [hs]; exact Or.inl (by decide +kernel)) (by decide +kernel) (by decide +kernel)
theorem v_law_law_behind {X : Cx} {pos : Pos} (hN : X.N = N_law) (hs : X.env.scope = defScope s_law) : PE X (.Name "_law_behind" pos) (tVar 6) := pe_var (by rw [hN]; rfl) (by rw [hs]; exact Or.inl (by decide +kernel)) (by decide +kernel) (by decide +kernel)
theorem v_law_law_told {X : Cx} {pos : Pos} (hN : X.N = N_law) (hs : X.env.scope = defScope s_law) : PE X (.Name "_law_told" pos) (tVar 7) := pe_var (by rw [hN]; rfl) (by rw [hs]; exact Or.inl (by decide +kernel)) (by decide +kernel) (by decide +kernel)
theorem v_law_law_alone {X : Cx} {pos : Pos} (hN : X.N = N_law) (hs : X.env.scope = defScope s_law) : PE X (.Name "_law_alone" pos) (tVar 8) := pe_var (by rw [hN]; rfl) (by rw [hs]; exact Or.inl (by decide +kernel)) (by decide +kernel) (by decide +kernel)
theorem v_law_law_primes {X : Cx} {pos : Pos} (hN : X.N = N_law) (hs : X.env.scope = defScope s_law) : PE X (.Name "_law_primes" pos) (tVar 9) := pe_var (by rw [hN]; rfl) (by rw [hs]; exact Or.inl (by decide +kernel)) (by decide +kernel) (by decide +kernel)
theorem v_law_law_first {X : Cx} {pos : Pos} (hN : X.N = N_law) (hs : X.env.scope = defScope s_law) : PE X (.Name "_law_first" pos) (tVar 10) := pe_var (by rw [hN]; rfl) (by rw [hs]; exact Or.inl (by decide +kernel)) (by decide +kernel) (by decide +kernel)
theorem v_law_law_found {X : Cx} {pos : Pos} (hN : X.N = N_law) (hs : X.env.scope = defScope s_law) : PE X (.Name "_law_found" pos) (tVar 11) := pe_var (by rw [hN]; rfl) (by rw [hs]; exact Or.inl (by decide +kernel)) (by decide +kernel) (by decide +kernel)
theorem v_law_law_last {X : Cx} {pos : Pos} (hN : X.N = N_law) (hs : X.env.scope = defScope s_law) : PE X (.Name "_law_last" pos) (tVar 12) := pe_var (by rw [hN]; rfl) (by rw [hs]; exact Or.inl (by decide +kernel)) (by decide +kernel) (by decide +kernel)
theorem ok_law (B : Mg K mg) (C_law_numbers : Cal P w K mg base "_law_numbers" 2 ["_law_script", "_law_many"] (spNum K)) (C_law_best : Cal P w K mg base "_law_best" 2 ["_law_one"] (spR K R_best)) (C_law_prime : Cal P w K mg base "_law_prime" 1 ["_law_numbers_here", "_law_at"] (spR K R_lprime)) (C_law_units : Cal P w K mg base "_law_units" 1 [] (spR K R_units)) (C_law_product : Cal P w K mg base "_law_product" 2 ["_law_row_here"] (spR K R_lproduct)) (C_law_right : Cal P w K mg base "_law_right" 3 ["_law_number_here", "_law_row_here", "_law_unit"] (spR K R_right)) (C_check_text : Cal P w K mg base "check_text" 7 ["number", "text"] (spR K R_check_text)) (C_row_text : Cal P w K mg base "row_text" 4 ["row", "unit"] (spR K R_row_text)) (C_law_changed : Cal P w K mg base "_law_changed" 3 ["_law_row_here", "_law_unit", "_law_numbers_here"] (spR K R_changed)) (C_law_size : Cal P w K mg base "_law_size" 1 ["_law_one"] (spR K R_size)) (C_row_of : Cal P w K mg base "row_of" 9 ["number", "primes"] (spR K R_row)) {fL : Addr} {fdL : FuncData} (D : FnP K "law" s_law fL fdL) : FnOk P w K mg base CX0 10 fL fdL ["_law_script"] (spLaw K) := by
  have nd := sc_law.nd
  refine mk_fnS D sc_law (fun vs H Q E h => ?_) (fun cdv A outer s H f E vs Q hr h => ?_)
  · obtain ⟨a, ns, rfl, _⟩ := h
    rfl
  · obtain ⟨a, ns, rfl, hS, hl, hQ⟩ := h
    refine ⟨_, (pss_cons (ps_set (i := 1) nd rfl (by first | exact Or.inl rfl | exact Or.inr rfl) (pe_c C_law_numbers (hr.mono (by decide)) (pa_cons (v_law_law_script rfl rfl) (pa_cons pe_int pa_nil)))) (pss_cons (ps_setLc (i := 2) (own := [("_law_k", 13)]) (g := (gName 13)) rfl nd rfl rfl (sw_true rfl rfl rfl (by decide +kernel)) (pi_range1 rfl B.range (pa_cons (pe_op op_mod (pe_callTy call_int1 (by rfl) B.int (by decide +kernel) (pa_cons (pe_ix (w_ixL (K := K)) (v_law_law_numbers_here rfl rfl) pe_int (fun _ _ => rfl)) pa_nil)) pe_int) pa_nil)) (blkOk_by (own := [("_law_k", 13)]) (N := N_law) (sc := defScope s_law) (by decide +kernel)) (fun _ _ _ _ _ => (pg_name (i := 13) nd rfl (by first | exact Or.inl rfl | exact Or.inr rfl))) (fun _ _ _ _ _ => pts_nil) (fun _ _ _ _ _ => (pe_c C_law_best (hr.mono (by decide)) (pa_cons (pe_c C_law_prime (hr.mono (by decide)) (pa_cons (pv 1) (pa_cons (pe_op op_mul pe_int (pv 13)) pa_nil))) pa_nil)))) (pss_cons (ps_if (PW.pt (pw_and (pt_cmpR op_gt (pe_callB (w_len (K := K)) (by rfl) B.len PySem.boot_len (pa_cons (v_law_law_row_here rfl rfl) pa_nil)) pe_int (nomark _)) (pw_and1 (pt_cmpR op_eq (pe_op op_mod (pe_callTy call_int1 (by rfl) B.int (by decide +kernel) (pa_cons (pe_ix (w_ixL (K := K)) (v_law_law_numbers_here rfl rfl) pe_int (fun _ _ => rfl)) pa_nil)) pe_int) pe_int (nomark _))))) (pss_one (ps_set (i := 2) nd rfl (by first | exact Or.inl rfl | exact Or.inr rfl) (pe_op op_cat (pe_slice (w_slL (K := K)) (v_law_law_row_here rfl rfl) po_none (po_some (pe_op op_sub (pe_callB (w_len (K := K)) (by rfl) B.len PySem.boot_len (pa_cons (v_law_law_row_here rfl rfl) pa_nil)) pe_int))) (pe_lst (pa_cons (pe_ix (w_ixL (K := K)) (v_law_law_row_here rfl rfl) (pe_op op_sub (pe_callB (w_len (K := K)) (by rfl) B.len PySem.boot_len (pa_cons (v_law_law_row_here rfl rfl) pa_nil)) pe_int) (fun _ _ => rfl)) pa_nil))))) pss_nil) (pss_cons (ps_set (i := 3) nd rfl (by first | exact Or.inl rfl | exact Or.inr rfl) (pe_ix (w_ixL (K := K)) (pe_c0 C_law_units (hr.mono (by decide))) (pe_op op_mod (pe_callTy call_int1 (by rfl) B.int (by decide +kernel) (pa_cons (pe_ix (w_ixL (K := K)) (v_law_law_numbers_here rfl rfl) pe_int (fun _ _ => rfl)) pa_nil)) pe_int) (fun _ _ => rfl))) (pss_cons (ps_set (i := 4) nd rfl (by first | exact Or.inl rfl | exact Or.inr rfl) (pe_c C_law_product (hr.mono (by decide)) (pa_cons (pe_op op_cat (v_law_law_row_here rfl rfl) (pe_lst (pa_cons (v_law_law_unit rfl rfl) pa_nil))) pa_nil))) (pss_cons (ps_if (PW.pt (pw_or (pt_not (pt_val (pe_c C_law_right (hr.mono (by decide)) (pa_cons (v_law_law_number_here rfl rfl) (pa_cons (v_law_law_row_here rfl rfl) (pa_cons (v_law_law_unit rfl rfl) pa_nil)))))) (pw_or1 (pt_cmpR op_notBl (pe_c C_check_text (hr.mono (by decide)) (pa_cons (v_law_law_number_here rfl rfl) (pa_cons (pe_c C_row_text (hr.mono (by decide)) (pa_cons (v_law_law_row_here rfl rfl) (pa_cons (v_law_law_unit rfl rfl) pa_nil))) pa_nil))) pe_bl (nomark _))))) (pss_one (ps_ret pe_bl)) pss_nil) (pss_cons (ps_asg (pe_c C_law_changed (hr.mono (by decide)) (pa_cons (v_law_law_row_here rfl rfl) (pa_cons (v_law_law_unit rfl rfl) (pa_cons (v_law_law_numbers_here rfl rfl) pa_nil)))) (w_gtup (K := K) rfl (pgs_cons (pg_name (i := 5) nd rfl (by first | exact Or.inl rfl | exact Or.inr rfl)) (pgs_cons (pg_name (i := 6) nd rfl (by first | exact Or.inl rfl | exact Or.inr rfl)) pgs_nil)))) (pss_cons (ps_set (i := 7) nd rfl (by first | exact Or.inl rfl | exact Or.inr rfl) (pe_c C_check_text (hr.mono (by decide)) (pa_cons (pe_callTy (w_list (K := K)) (by rfl) B.list (by decide +kernel) (pa_cons (v_law_law_number_here rfl rfl) pa_nil)) (pa_cons (pe_c C_row_text (hr.mono (by decide)) (pa_cons (v_law_law_bad rfl rfl) (pa_cons (v_law_law_behind rfl rfl) pa_nil))) pa_nil)))) (pss_cons (ps_if (PW.pt (pw_or (pt_not (pt_val (pe_callB (w_isi (K := K)) (by rfl) B.isinstance (by decide +kernel) (pa_cons (v_law_law_told rfl rfl) (pa_cons (pe_bltn (v := .ty "bool") (by rfl) B.bool (by decide +kernel) rfl) pa_nil))))) (pw_or1 (pt_cmpR op_ne (v_law_law_told rfl rfl) (pe_c C_law_right (hr.mono (by decide)) (pa_cons (v_law_law_number_here rfl rfl) (pa_cons (v_law_law_bad rfl rfl) (pa_cons (v_law_law_behind rfl rfl) pa_nil)))) (nomark _))))) (pss_one (ps_ret pe_bl)) pss_nil) (pss_cons (ps_set (i := 8) nd rfl (by first | exact Or.inl rfl | exact Or.inr rfl) (pe_slice (w_slL (K := K)) (v_law_law_row_here rfl rfl) po_none (po_some pe_int))) (pss_cons (ps_setLc (i := 9) (own := [("_law_one", 14)]) (g := (gName 14)) rfl nd rfl rfl (sw_true rfl rfl rfl (by decide +kernel)) (w_pil (K := K) (v_law_law_alone rfl rfl)) (blkOk_by (own := [("_law_one", 14)]) (N := N_law) (sc := defScope s_law) (by decide +kernel)) (fun _ _ _ _ _ => (pg_name (i := 14) nd rfl (by first | exact Or.inl rfl | exact Or.inr rfl))) (fun _ _ _ _ _ => pts_nil) (fun _ _ _ _ _ => (pe_c C_law_size (hr.mono (by decide)) (pa_cons (pv 14) pa_nil)))) (pss_cons (ps_set (i := 10) nd rfl (by first | exact Or.inl rfl | exact Or.inr rfl) (pe_c C_law_product (hr.mono (by decide)) (pa_cons (pe_op op_cat (v_law_law_alone rfl rfl) (pe_lst (pa_cons (v_law_law_unit rfl rfl) pa_nil))) pa_nil))) (pss_cons (ps_asg (pe_c C_row_of (hr.mono (by decide)) (pa_cons (v_law_law_first rfl rfl) (pa_cons (v_law_law_primes rfl rfl) pa_nil))) (w_gtup (K := K) rfl (pgs_cons (pg_name (i := 11) nd rfl (by first | exact Or.inl rfl | exact Or.inr rfl)) (pgs_cons (pg_name (i := 12) nd rfl (by first | exact Or.inl rfl | exact Or.inr rfl)) pgs_nil)))) (pss_one (ps_ret (pe_and (pe_cmpR op_isBl (pe_c C_check_text (hr.mono (by decide)) (pa_cons (v_law_law_first rfl rfl) (pa_cons (pe_c C_row_text (hr.mono (by decide)) (pa_cons (v_law_law_found rfl rfl) (pa_cons (v_law_law_last rfl rfl) pa_nil))) pa_nil))) pe_bl (nomark _)) (pe_one (pe_cmpR (w_eqD (K := K) hr.units) (pe_lst (pa_cons (pe_callTy (w_list (K := K)) (by rfl) B.list (by decide +kernel) (pa_cons (v_law_law_found rfl rfl) pa_nil)) (pa_cons (v_law_law_last rfl rfl) pa_nil))) (pe_lst (pa_cons (v_law_law_alone rfl rfl) (pa_cons (v_law_law_unit rfl rfl) pa_nil))) (nomark _))))))))))))))))))), ?_⟩
    refine start_asg fun Q' hq => ?_
    refine ⟨V.ref a, rfl, ?_⟩
    refine ⟨a, ns, fun _ => none, rfl, hS, hl, (fun _ _ z => by cases z), fun v F' H' s1 r => hq _ _ ?_⟩
    have ok0 : EnvOk K H F' H' (L2.start N_law [.ref a]) (List.replicate 15 none) := env_none
    have ok1 := ok0.set (i := 1) r
    refine via_st (N := fun _ => False) (R := fun d => d = .bool true) ?_ s1 ok1 (fun _ _ _ _ _ _ _ z => z.elim) fun v d F' H' s' r e => (by
      subst e
      rw [r.of_bl]
      exact hQ H')
    have hn := lawNums_len ns
    generalize lawNums ns = nums at hn
    show StE K _ [none, some (.val (.list (nums.map .int))), none, none, none, none, none, none, none, none, none, none, none, none, none] _ _
    have nm : ∀ {env : En} (k : Nat) (m : Int), env[1]? = some (some (.val (.list (nums.map .int)))) → k < 60 → 0 < m → EvE K (tOp (rI (fun _ j => 0 < j) fun i j => .int (i % j)) (tCB (fun xs H Q => (∃ i, xs = [.int i] ∧ Q (.int i) H) ∨ ∃ k, xs = [.bl k] ∧ Q (.int (if k then 1 else 0)) H) (tCons (tOp (rIxL K) (tVar 1) (tC (.int (k : Int)))) tNil)) (tC (.int m))) env (.int (nums.getD k 0 % m)) := fun {env} k m h hk hm => e_op (e_cb (a_cons (e_op (e_var h) e_int (o_ixL (at_int (by omega)))) a_nil) c_int) e_int (o_mod hm)
    have h7 : 0 ≤ nums.getD 30 0 % 7 ∧ nums.getD 30 0 % 7 < 7 := by omega
    obtain ⟨m, em⟩ := Int.eq_ofNat_of_zero_le h7.1
    refine q_asg (d := .list (((rng 0 m).map fun k => best (lawPrime nums (4 * k).toNat)).map qd)) (e_is (e_own (c_map (rng 0 m) .int (fun k => qd (best (lawPrime nums (4 * k).toNat))) (by
      have h := i_rng1 (K := K) (n := nums.getD 30 0 % 7) (a_cons (nm (env := [none, some (.val (.list (nums.map .int))), none, none, none, none, none, none, none, none, none, none, none, none, none]) 30 7 rfl (by decide) (by decide)) a_nil) (by omega) (by omega)
      rw [em, Int.toNat_natCast] at h
      exact h) (by unfold rng; rw [List.length_map, List.length_range]; omega) fun i k hk => ⟨_, g_name, ?_⟩)) (by rw [List.map_map]; rfl)) ?_
    · obtain ⟨h1, rfl⟩ := rng_get hk
      rw [Int.zero_add]
      have e4 : (4 : Int) * (i : Int) = ((4 * i : Nat) : Int) := by omega
      refine e_call (a_cons (e_call (a_cons (e_var rfl) (a_cons (e_op e_int (e_var rfl) (o_mul (cml ⟨by decide, by decide⟩))) a_nil)) ⟨nums, 4 * i, by rw [e4], by omega, rfl⟩) a_nil) ⟨lawPrime nums (4 * i), rfl, ?_⟩
      rw [e4, Int.toNat_natCast]
    have hrow0 : ∀ f ∈ (rng 0 m).map fun k => best (lawPrime nums (4 * k).toNat), f ∈ PL := fun f hf => by
      obtain ⟨k, _, rfl⟩ := List.mem_map.mp hf
      exact prime_PL nums _
    have hlen0 : ((rng 0 m).map fun k => best (lawPrime nums (4 * k).toNat)).length ≤ 7 := by
      unfold rng
      rw [List.length_map, List.length_map, List.length_range]
      omega
    generalize ((rng 0 m).map fun k => best (lawPrime nums (4 * k).toNat)) = row0 at hrow0 hlen0
    show StE K _ [none, some (.val (.list (nums.map .int))), some (.val (.list (row0.map qd))), none, none, none, none, none, none, none, none, none, none, none, none] _ _
    refine st_seq (M := fun env => ∃ row : List Q4, (∀ f ∈ row, f ∈ PL) ∧ row.length ≤ 7 ∧ env = [none, some (.val (.list (nums.map .int))), some (.val (.list (row.map qd))), none, none, none, none, none, none, none, none, none, none, none, none]) ?_ ?_
    · refine st_if (b := decide (row0.length > 1) && decide (nums.getD 43 0 % 2 = 0)) (t_is (t_and (t_test (e_op (e_len (e_var rfl)) e_int o_gt)) fun _ => t_test (e_op (nm 43 2 rfl (by decide) (by decide)) e_int o_eqI)) ?_) (fun hb => ?_) fun hb => ?_
      · congr 1
        exact decide_eq_decide.mpr (by omega)
      · have hc := of_decide_eq_true (Bool.and_eq_true_iff.mp hb).1
        refine st_asg (d := .list ((row0.take (row0.length - 1) ++ [row0.getD (row0.length - 2) z4]).map qd)) (e_catq (sl_to (e_var rfl) (e_lenS (j := 1) (e_var rfl) (by omega))) (e_sing (e_at (e_var rfl) (e_lenS (j := 2) (e_var rfl) (by omega)) (by omega))) (by rw [List.length_take, List.length_singleton]; omega)) ⟨row0.take (row0.length - 1) ++ [row0.getD (row0.length - 2) z4], fun f hf => ?_, by rw [List.length_append, List.length_take, List.length_singleton]; omega, rfl⟩
        rcases List.mem_append.mp hf with hf | hf
        · exact hrow0 f (List.mem_of_mem_take hf)
        · rw [List.mem_singleton.mp hf]
          exact hrow0 _ (getD_mem (by omega))
      · exact st_next ⟨row0, hrow0, hlen0, rfl⟩
    rintro env ⟨row, hrow, hlen, rfl⟩
    clear hrow0 hlen0
    have h24 : 0 ≤ nums.getD 31 0 % 24 ∧ nums.getD 31 0 % 24 < 24 := by omega
    have huU : U.getD (nums.getD 31 0 % 24).toNat z4 ∈ U := getD_mem (by show _ < 24; omega)
    refine q_asg (d := qd (U.getD (nums.getD 31 0 % 24).toNat z4)) (e_op (e_call a_nil ⟨rfl, rfl⟩) (nm 31 24 rfl (by decide) (by decide)) (o_ixL (at_qi h24.1 (by show _ < 24; omega)))) ?_
    generalize U.getD (nums.getD 31 0 % 24).toNat z4 = u at huU
    show StE K _ [none, some (.val (.list (nums.map .int))), some (.val (.list (row.map qd))), some (.val (qd u)), none, none, none, none, none, none, none, none, none, none, none] _ _
    have hG : ∀ f ∈ row, GF f := fun f hf => GF.of_PL (hrow f hf)
    have hUO := UO.of_U huU
    have sms : ∀ {l : List Q4}, (∀ f ∈ l, f ∈ PL) → ∀ q ∈ l ++ [u], q.sm (2 ^ 60) := fun {l} h q hq => by
      rcases List.mem_append.mp hq with hq | hq
      · exact tx_sm (GF.of_PL (h q hq)).tx
      · rw [List.mem_singleton.mp hq]
        exact U_sm huU
    refine q_asg (e_call (a_cons (e_catq (e_var rfl) (e_sing (e_var rfl)) (by rw [List.length_singleton]; omega)) a_nil) ⟨row ++ [u], rfl, sms hrow, rfl⟩) ?_
    have hyes := right_yes hrow huU
    obtain ⟨np, nz⟩ := prodL_ne hrow huU
    generalize hN : prodL (row ++ [u]) = n at hyes np nz
    show StE K _ [none, some (.val (.list (nums.map .int))), some (.val (.list (row.map qd))), some (.val (qd u)), some (.val (qd n)), none, none, none, none, none, none, none, none, none, none] _ _
    refine q_when (b := false) (t_is (t_or (t_not (t_b (e_call (a_cons (e_var rfl) (a_cons (e_var rfl) (a_cons (e_var rfl) a_nil))) (R_right_of (n := n) (by omega) hG hUO)))) fun _ => t_test (e_op (e_call (a_cons (e_var rfl) (a_cons (e_call (a_cons (e_var rfl) (a_cons (e_var rfl) a_nil)) (R_text_of (by omega) hG hUO)) a_nil)) (R_check_of np nz (by omega) hG hUO (.inl rfl))) e_bl o_notB)) (by rw [hyes]; rfl)) (fun z => nomatch z) fun _ => ?_
    have hC := changed_ok (nums := nums) hrow hlen huU
    refine q_asgG (vs := [5, 6]) (e_call (a_cons (e_var rfl) (a_cons (e_var rfl) (a_cons (e_var rfl) a_nil))) ⟨row, u, nums, rfl, hlen, fun f hf => ⟨(hG f hf).par, tx_sm (hG f hf).tx⟩, U_sm huU, hn, rfl⟩) (g_tup rfl (gs_cons g_name (gs_cons g_name gs_nil))) ?_
    generalize changed row u nums = cx at hC
    obtain ⟨bad, beh⟩ := cx
    obtain ⟨bl, bg, bu⟩ := hC
    show StE K _ [none, some (.val (.list (nums.map .int))), some (.val (.list (row.map qd))), some (.val (qd u)), some (.val (qd n)), some (.val (.list (bad.map qd))), some (.val (qd beh)), none, none, none, none, none, none, none, none] _ _
    refine q_asg (d := .bool (rightB n bad beh)) (e_call (a_cons (e_cb (a_cons (e_var rfl) a_nil) c_lstT) (a_cons (e_call (a_cons (e_var rfl) (a_cons (e_var rfl) a_nil)) (R_text_of bl bg bu)) a_nil)) (R_check_of np nz bl bg bu (.inr rfl))) ?_
    show StE K _ [none, some (.val (.list (nums.map .int))), some (.val (.list (row.map qd))), some (.val (qd u)), some (.val (qd n)), some (.val (.list (bad.map qd))), some (.val (qd beh)), some (.val (.bool (rightB n bad beh))), none, none, none, none, none, none, none] _ _
    refine q_when (b := false) (t_is (t_or (b := false) (t_is (t_not (t_b (b := true) (e_isbool (e_var rfl)))) rfl) fun _ => t_test (e_op (e_var rfl) (e_call (a_cons (e_var rfl) (a_cons (e_var rfl) (a_cons (e_var rfl) a_nil))) (R_right_of (n := n) bl bg bu)) o_neB)) (by rw [decide_eq_true rfl]; rfl)) (fun z => nomatch z) fun _ => ?_
    have ha : ∀ f ∈ row.take 1, f ∈ PL := fun f hf => hrow f (List.mem_of_mem_take hf)
    have hal : (row.take 1).length ≤ 1 := by
      rw [List.length_take]
      omega
    refine q_asg (d := .list ((row.take 1).map qd)) (sl_to (k := 1) (e_var rfl) e_int) ?_
    generalize row.take 1 = alone at ha hal
    show StE K _ [none, some (.val (.list (nums.map .int))), some (.val (.list (row.map qd))), some (.val (qd u)), some (.val (qd n)), some (.val (.list (bad.map qd))), some (.val (qd beh)), some (.val (.bool (rightB n bad beh))), some (.val (.list (alone.map qd))), none, none, none, none, none, none] _ _
    have hGa : ∀ f ∈ alone, GF f := fun f hf => GF.of_PL (ha f hf)
    refine q_asg (d := .list ((alone.map nrm).map .int)) (e_is (e_own (c_map alone qd (fun f => .int (nrm f)) (i_list (e_var rfl)) (by omega) fun i f hf => ⟨_, g_name, e_call (a_cons (e_var rfl) a_nil) ⟨f, rfl, tx_sm (hGa f (List.mem_of_getElem? hf)).tx, rfl⟩⟩)) (by rw [List.map_map]; rfl)) ?_
    refine q_asg (e_call (a_cons (e_catq (e_var rfl) (e_sing (e_var rfl)) (by rw [List.length_singleton]; omega)) a_nil) ⟨alone ++ [u], rfl, sms ha, rfl⟩) ?_
    have hR := R_row_of hal ha huU
    have hyes2 := right_yes ha huU
    obtain ⟨fp, fz⟩ := prodL_ne ha huU
    generalize prodL (alone ++ [u]) = fst at hR hyes2 fp fz
    show StE K _ [none, some (.val (.list (nums.map .int))), some (.val (.list (row.map qd))), some (.val (qd u)), some (.val (qd n)), some (.val (.list (bad.map qd))), some (.val (qd beh)), some (.val (.bool (rightB n bad beh))), some (.val (.list (alone.map qd))), some (.val (.list ((alone.map nrm).map .int))), some (.val (qd fst)), none, none, none, none] _ _
    refine q_asgG (vs := [11, 12]) (e_call (a_cons (e_var rfl) (a_cons (e_var rfl) a_nil)) hR) (g_tup rfl (gs_cons g_name (gs_cons g_name gs_nil))) ?_
    show StE K _ [none, some (.val (.list (nums.map .int))), some (.val (.list (row.map qd))), some (.val (qd u)), some (.val (qd n)), some (.val (.list (bad.map qd))), some (.val (qd beh)), some (.val (.bool (rightB n bad beh))), some (.val (.list (alone.map qd))), some (.val (.list ((alone.map nrm).map .int))), some (.val (qd fst)), some (.val (.list (alone.map qd))), some (.val (qd u)), none, none] _ _
    have shL : SeqAt.shaped (.list [.list (alone.map qd), qd u]) = true := (Fl.list (n := 2) (ds := [.list (alone.map qd), qd u]) fun d hd => by
      rcases List.mem_cons.mp hd with rfl | hd
      · exact Fl.list (Fl.map Fl.qd alone)
      · rw [List.mem_singleton.mp hd]
        exact ⟨(Fl.qd u).1, Nat.le_trans (Fl.qd u).2 (by decide)⟩).sh (by decide)
    have eqL : PyData.eqv (.list [.list (alone.map qd), qd u]) (.list [.list (alone.map qd), qd u]) = true := by
      rw [PyData.eqv, PyData.eqvAll, PyData.eqvAll, PyData.eqvAll, eqv_list eqv_qd, eqv_qd]
      simp
    refine st_ret (e_and (e_op (e_call (a_cons (e_var rfl) (a_cons (e_call (a_cons (e_var rfl) (a_cons (e_var rfl) a_nil)) (R_text_of (by omega) hGa hUO)) a_nil)) (R_check_of fp fz (by omega) hGa hUO (.inl rfl))) e_bl o_isB) fun _ => e_op (e_lst (a_cons (e_cb (a_cons (e_var rfl) a_nil) c_lstL) (a_cons (e_var rfl) a_nil)) (Nat.le_of_ble_eq_true rfl)) (e_lst (a_cons (e_var rfl) (a_cons (e_var rfl) a_nil)) (Nat.le_of_ble_eq_true rfl)) (o_eqD shL shL)) ?_
    rw [hyes2, eqL]
    rfl
end
end TP

/-! The facts of the head, the chain, the law. -/
namespace TP
open PySem PySem.Spec PyProof.Rows L2
section
variable {P : Program} {w : World} {K : PySem.W.Frag} {h base : Heap} {mg : Str → Option Value}
theorem tu_of {x : Str} {q : Q4} (X : K.In h) (G : h.Ns mainGlobals mg) (e : tupB K x q.l = true) : Tu K mg x (qd q) := by
  unfold tupB at e
  cases h1 : PySem.W.nsIn K mainGlobals x with
  | none =>
    rw [h1] at e
    cases e
  | some o =>
    rw [h1] at e
    cases o with
    | none => cases e
    | some v =>
      cases v with
      | ref a =>
        have eg : He.ga K x = a := by
          unfold He.ga
          rw [h1]
        have e : (match K.lookup a with
          | some ⟨.type "tuple", _, .seq its _, _⟩ => decide (its.size ≤ 100) && He.relAll (q.l.map V.int) its.toList
          | _ => false) = true := e
        refine ⟨by rw [eg]; exact PySem.W.mg_of X G h1, fun F => ?_⟩
        rw [eg]
        split at e
        · rename_i od its n sl hk
          rw [Bool.and_eq_true] at e
          obtain ⟨e1, e2⟩ := e
          exact .tup (xs := q.l.map V.int) (.inr ⟨_, its, n, hk, rfl, rfl, Nat.le_trans (of_decide_eq_true e1) (by decide), He.relAll_ok e2⟩) (RpL.of_ints q.l)
        · cases e
      | _ => cases e
theorem defs (X : K.In h) (G : h.Ns mainGlobals mg) (c : He.SaysD fa fn K) :
    Dn K mg "is_number" s_is_number ["number"] ∧
    Dn K mg "check_number" s_check_number ["number"] ∧
    Dn K mg "check_not_zero" s_check_not_zero ["number"] ∧
    Dn K mg "conjugate" s_conjugate ["number"] ∧
    Dn K mg "norm" s_norm ["number"] ∧
    Dn K mg "less" s_less ["one", "other"] ∧
    Dn K mg "product" s_product ["one", "other"] ∧
    Dn K mg "product_of" s_product_of ["numbers"] ∧
    Dn K mg "is_unit" s_is_unit ["number"] ∧
    Dn K mg "associates" s_associates ["number"] ∧
    Dn K mg "canonical" s_canonical ["number"] ∧
    Dn K mg "_law_times" s_law_times ["_law_one", "_law_other"] ∧
    Dn K mg "_law_conjugate" s_law_conjugate ["_law_one"] ∧
    Dn K mg "_law_size" s_law_size ["_law_one"] ∧
    Dn K mg "_law_product" s_law_product ["_law_row_here"] ∧
    Dn K mg "_law_best" s_law_best ["_law_one"] ∧
    Dn K mg "units" s_units [] ∧
    Dn K mg "_law_units" s_law_units [] ∧
    Dn K mg "content" s_content ["number"] ∧
    Dn K mg "is_primitive" s_is_primitive ["number"] ∧
    Dn K mg "distance_of" s_distance_of ["parts", "size", "number"] ∧
    Dn K mg "nearest" s_nearest ["parts", "size"] ∧
    Dn K mg "check_pair" s_check_pair ["number", "divisor"] ∧
    Dn K mg "divided_left" s_divided_left ["number", "divisor"] ∧
    Dn K mg "left_quotient" s_left_quotient ["number", "divisor"] ∧
    Dn K mg "steps_of" s_steps_of ["one", "other"] ∧
    Dn K mg "check_some" s_check_some ["numbers"] ∧
    Dn K mg "left_common" s_left_common ["one", "other"] ∧
    Dn K mg "left_prime" s_left_prime ["number", "prime"] ∧
    Dn K mg "whole_primes" s_whole_primes ["value"] ∧
    Dn K mg "prime_list" s_prime_list ["value"] ∧
    Dn K mg "check_order" s_check_order ["number", "primes"] ∧
    Dn K mg "row_of" s_row_of ["number", "primes"] ∧
    Dn K mg "is_canonical_prime" s_is_canonical_prime ["number"] ∧
    Dn K mg "shown" s_shown ["number"] ∧
    Dn K mg "is_integer" s_is_integer ["word"] ∧
    Dn K mg "line_of" s_line_of ["word", "number"] ∧
    Dn K mg "row_text" s_row_text ["row", "unit"] ∧
    Dn K mg "is_line" s_is_line ["words", "word"] ∧
    Dn K mg "part_of" s_part_of ["words"] ∧
    Dn K mg "parse_row" s_parse_row ["text"] ∧
    Dn K mg "check_text" s_check_text ["number", "text"] ∧
    Dn K mg "_law_row" s_law_row ["_law_cell", "_law_many"] ∧
    Dn K mg "_law_numbers" s_law_numbers ["_law_script", "_law_many"] ∧
    Dn K mg "_law_is_prime" s_law_is_prime ["_law_value"] ∧
    Dn K mg "_law_prime" s_law_prime ["_law_numbers_here", "_law_at"] ∧
    Dn K mg "_law_right" s_law_right ["_law_number_here", "_law_row_here", "_law_unit"] ∧
    Dn K mg "_law_changed" s_law_changed ["_law_row_here", "_law_unit", "_law_numbers_here"] := by
  refine ⟨?_, ?_, ?_, ?_, ?_, ?_, ?_, ?_, ?_, ?_, ?_, ?_, ?_, ?_, ?_, ?_, ?_, ?_, ?_, ?_, ?_, ?_, ?_, ?_, ?_, ?_, ?_, ?_, ?_, ?_, ?_, ?_, ?_, ?_, ?_, ?_, ?_, ?_, ?_, ?_, ?_, ?_, ?_, ?_, ?_, ?_, ?_, ?_⟩
  · obtain ⟨fd, F⟩ := c.def_ 0 (d := d_is_number) rfl
    exact ⟨_, fd, F, He.glo_ok X G (c.fact 0 (f := .glo "is_number") rfl), F.bindsN fun _ _ _ _ _ _ us hl => match us, hl with | [_], _ => rfl⟩
  · obtain ⟨fd, F⟩ := c.def_ 1 (d := d_check_number) rfl
    exact ⟨_, fd, F, He.glo_ok X G (c.fact 1 (f := .glo "check_number") rfl), F.bindsN fun _ _ _ _ _ _ us hl => match us, hl with | [_], _ => rfl⟩
  · obtain ⟨fd, F⟩ := c.def_ 2 (d := d_check_not_zero) rfl
    exact ⟨_, fd, F, He.glo_ok X G (c.fact 2 (f := .glo "check_not_zero") rfl), F.bindsN fun _ _ _ _ _ _ us hl => match us, hl with | [_], _ => rfl⟩
  · obtain ⟨fd, F⟩ := c.def_ 3 (d := d_conjugate) rfl
    exact ⟨_, fd, F, He.glo_ok X G (c.fact 3 (f := .glo "conjugate") rfl), F.bindsN fun _ _ _ _ _ _ us hl => match us, hl with | [_], _ => rfl⟩
  · obtain ⟨fd, F⟩ := c.def_ 4 (d := d_norm) rfl
    exact ⟨_, fd, F, He.glo_ok X G (c.fact 4 (f := .glo "norm") rfl), F.bindsN fun _ _ _ _ _ _ us hl => match us, hl with | [_], _ => rfl⟩
  · obtain ⟨fd, F⟩ := c.def_ 5 (d := d_less) rfl
    exact ⟨_, fd, F, He.glo_ok X G (c.fact 5 (f := .glo "less") rfl), F.bindsN fun _ _ _ _ _ _ us hl => match us, hl with | [_, _], _ => rfl⟩
  · obtain ⟨fd, F⟩ := c.def_ 6 (d := d_product) rfl
    exact ⟨_, fd, F, He.glo_ok X G (c.fact 6 (f := .glo "product") rfl), F.bindsN fun _ _ _ _ _ _ us hl => match us, hl with | [_, _], _ => rfl⟩
  · obtain ⟨fd, F⟩ := c.def_ 7 (d := d_product_of) rfl
    exact ⟨_, fd, F, He.glo_ok X G (c.fact 7 (f := .glo "product_of") rfl), F.bindsN fun _ _ _ _ _ _ us hl => match us, hl with | [_], _ => rfl⟩
  · obtain ⟨fd, F⟩ := c.def_ 9 (d := d_is_unit) rfl
    exact ⟨_, fd, F, He.glo_ok X G (c.fact 9 (f := .glo "is_unit") rfl), F.bindsN fun _ _ _ _ _ _ us hl => match us, hl with | [_], _ => rfl⟩
  · obtain ⟨fd, F⟩ := c.def_ 10 (d := d_associates) rfl
    exact ⟨_, fd, F, He.glo_ok X G (c.fact 10 (f := .glo "associates") rfl), F.bindsN fun _ _ _ _ _ _ us hl => match us, hl with | [_], _ => rfl⟩
  · obtain ⟨fd, F⟩ := c.def_ 11 (d := d_canonical) rfl
    exact ⟨_, fd, F, He.glo_ok X G (c.fact 11 (f := .glo "canonical") rfl), F.bindsN fun _ _ _ _ _ _ us hl => match us, hl with | [_], _ => rfl⟩
  · obtain ⟨fd, F⟩ := c.def_ 38 (d := d_law_times) rfl
    exact ⟨_, fd, F, He.glo_ok X G (c.fact 38 (f := .glo "_law_times") rfl), F.bindsN fun _ _ _ _ _ _ us hl => match us, hl with | [_, _], _ => rfl⟩
  · obtain ⟨fd, F⟩ := c.def_ 39 (d := d_law_conjugate) rfl
    exact ⟨_, fd, F, He.glo_ok X G (c.fact 39 (f := .glo "_law_conjugate") rfl), F.bindsN fun _ _ _ _ _ _ us hl => match us, hl with | [_], _ => rfl⟩
  · obtain ⟨fd, F⟩ := c.def_ 40 (d := d_law_size) rfl
    exact ⟨_, fd, F, He.glo_ok X G (c.fact 40 (f := .glo "_law_size") rfl), F.bindsN fun _ _ _ _ _ _ us hl => match us, hl with | [_], _ => rfl⟩
  · obtain ⟨fd, F⟩ := c.def_ 45 (d := d_law_product) rfl
    exact ⟨_, fd, F, He.glo_ok X G (c.fact 45 (f := .glo "_law_product") rfl), F.bindsN fun _ _ _ _ _ _ us hl => match us, hl with | [_], _ => rfl⟩
  · obtain ⟨fd, F⟩ := c.def_ 42 (d := d_law_best) rfl
    exact ⟨_, fd, F, He.glo_ok X G (c.fact 42 (f := .glo "_law_best") rfl), F.bindsN fun _ _ _ _ _ _ us hl => match us, hl with | [_], _ => rfl⟩
  · obtain ⟨fd, F⟩ := c.def_ 8 (d := d_units) rfl
    exact ⟨_, fd, F, He.glo_ok X G (c.fact 8 (f := .glo "units") rfl), F.bindsN fun _ _ _ _ _ _ us hl => match us, hl with | [], _ => rfl⟩
  · obtain ⟨fd, F⟩ := c.def_ 41 (d := d_law_units) rfl
    exact ⟨_, fd, F, He.glo_ok X G (c.fact 41 (f := .glo "_law_units") rfl), F.bindsN fun _ _ _ _ _ _ us hl => match us, hl with | [], _ => rfl⟩
  · obtain ⟨fd, F⟩ := c.def_ 12 (d := d_content) rfl
    exact ⟨_, fd, F, He.glo_ok X G (c.fact 12 (f := .glo "content") rfl), F.bindsN fun _ _ _ _ _ _ us hl => match us, hl with | [_], _ => rfl⟩
  · obtain ⟨fd, F⟩ := c.def_ 13 (d := d_is_primitive) rfl
    exact ⟨_, fd, F, He.glo_ok X G (c.fact 13 (f := .glo "is_primitive") rfl), F.bindsN fun _ _ _ _ _ _ us hl => match us, hl with | [_], _ => rfl⟩
  · obtain ⟨fd, F⟩ := c.def_ 14 (d := d_distance_of) rfl
    exact ⟨_, fd, F, He.glo_ok X G (c.fact 14 (f := .glo "distance_of") rfl), F.bindsN fun _ _ _ _ _ _ us hl => match us, hl with | [_, _, _], _ => rfl⟩
  · obtain ⟨fd, F⟩ := c.def_ 15 (d := d_nearest) rfl
    exact ⟨_, fd, F, He.glo_ok X G (c.fact 15 (f := .glo "nearest") rfl), F.bindsN fun _ _ _ _ _ _ us hl => match us, hl with | [_, _], _ => rfl⟩
  · obtain ⟨fd, F⟩ := c.def_ 16 (d := d_check_pair) rfl
    exact ⟨_, fd, F, He.glo_ok X G (c.fact 16 (f := .glo "check_pair") rfl), F.bindsN fun _ _ _ _ _ _ us hl => match us, hl with | [_, _], _ => rfl⟩
  · obtain ⟨fd, F⟩ := c.def_ 17 (d := d_divided_left) rfl
    exact ⟨_, fd, F, He.glo_ok X G (c.fact 17 (f := .glo "divided_left") rfl), F.bindsN fun _ _ _ _ _ _ us hl => match us, hl with | [_, _], _ => rfl⟩
  · obtain ⟨fd, F⟩ := c.def_ 18 (d := d_left_quotient) rfl
    exact ⟨_, fd, F, He.glo_ok X G (c.fact 18 (f := .glo "left_quotient") rfl), F.bindsN fun _ _ _ _ _ _ us hl => match us, hl with | [_, _], _ => rfl⟩
  · obtain ⟨fd, F⟩ := c.def_ 19 (d := d_steps_of) rfl
    exact ⟨_, fd, F, He.glo_ok X G (c.fact 19 (f := .glo "steps_of") rfl), F.bindsN fun _ _ _ _ _ _ us hl => match us, hl with | [_, _], _ => rfl⟩
  · obtain ⟨fd, F⟩ := c.def_ 20 (d := d_check_some) rfl
    exact ⟨_, fd, F, He.glo_ok X G (c.fact 20 (f := .glo "check_some") rfl), F.bindsN fun _ _ _ _ _ _ us hl => match us, hl with | [_], _ => rfl⟩
  · obtain ⟨fd, F⟩ := c.def_ 21 (d := d_left_common) rfl
    exact ⟨_, fd, F, He.glo_ok X G (c.fact 21 (f := .glo "left_common") rfl), F.bindsN fun _ _ _ _ _ _ us hl => match us, hl with | [_, _], _ => rfl⟩
  · obtain ⟨fd, F⟩ := c.def_ 25 (d := d_left_prime) rfl
    exact ⟨_, fd, F, He.glo_ok X G (c.fact 25 (f := .glo "left_prime") rfl), F.bindsN fun _ _ _ _ _ _ us hl => match us, hl with | [_, _], _ => rfl⟩
  · obtain ⟨fd, F⟩ := c.def_ 22 (d := d_whole_primes) rfl
    exact ⟨_, fd, F, He.glo_ok X G (c.fact 22 (f := .glo "whole_primes") rfl), F.bindsN fun _ _ _ _ _ _ us hl => match us, hl with | [_], _ => rfl⟩
  · obtain ⟨fd, F⟩ := c.def_ 23 (d := d_prime_list) rfl
    exact ⟨_, fd, F, He.glo_ok X G (c.fact 23 (f := .glo "prime_list") rfl), F.bindsN fun _ _ _ _ _ _ us hl => match us, hl with | [_], _ => rfl⟩
  · obtain ⟨fd, F⟩ := c.def_ 24 (d := d_check_order) rfl
    exact ⟨_, fd, F, He.glo_ok X G (c.fact 24 (f := .glo "check_order") rfl), F.bindsN fun _ _ _ _ _ _ us hl => match us, hl with | [_, _], _ => rfl⟩
  · obtain ⟨fd, F⟩ := c.def_ 26 (d := d_row_of) rfl
    exact ⟨_, fd, F, He.glo_ok X G (c.fact 26 (f := .glo "row_of") rfl), F.bindsN fun _ _ _ _ _ _ us hl => match us, hl with | [_, _], _ => rfl⟩
  · obtain ⟨fd, F⟩ := c.def_ 34 (d := d_is_canonical_prime) rfl
    exact ⟨_, fd, F, He.glo_ok X G (c.fact 34 (f := .glo "is_canonical_prime") rfl), F.bindsN fun _ _ _ _ _ _ us hl => match us, hl with | [_], _ => rfl⟩
  · obtain ⟨fd, F⟩ := c.def_ 27 (d := d_shown) rfl
    exact ⟨_, fd, F, He.glo_ok X G (c.fact 27 (f := .glo "shown") rfl), F.bindsN fun _ _ _ _ _ _ us hl => match us, hl with | [_], _ => rfl⟩
  · obtain ⟨fd, F⟩ := c.def_ 28 (d := d_is_integer) rfl
    exact ⟨_, fd, F, He.glo_ok X G (c.fact 28 (f := .glo "is_integer") rfl), F.bindsN fun _ _ _ _ _ _ us hl => match us, hl with | [_], _ => rfl⟩
  · obtain ⟨fd, F⟩ := c.def_ 29 (d := d_line_of) rfl
    exact ⟨_, fd, F, He.glo_ok X G (c.fact 29 (f := .glo "line_of") rfl), F.bindsN fun _ _ _ _ _ _ us hl => match us, hl with | [_, _], _ => rfl⟩
  · obtain ⟨fd, F⟩ := c.def_ 30 (d := d_row_text) rfl
    exact ⟨_, fd, F, He.glo_ok X G (c.fact 30 (f := .glo "row_text") rfl), F.bindsN fun _ _ _ _ _ _ us hl => match us, hl with | [_, _], _ => rfl⟩
  · obtain ⟨fd, F⟩ := c.def_ 31 (d := d_is_line) rfl
    exact ⟨_, fd, F, He.glo_ok X G (c.fact 31 (f := .glo "is_line") rfl), F.bindsN fun _ _ _ _ _ _ us hl => match us, hl with | [_, _], _ => rfl⟩
  · obtain ⟨fd, F⟩ := c.def_ 32 (d := d_part_of) rfl
    exact ⟨_, fd, F, He.glo_ok X G (c.fact 32 (f := .glo "part_of") rfl), F.bindsN fun _ _ _ _ _ _ us hl => match us, hl with | [_], _ => rfl⟩
  · obtain ⟨fd, F⟩ := c.def_ 33 (d := d_parse_row) rfl
    exact ⟨_, fd, F, He.glo_ok X G (c.fact 33 (f := .glo "parse_row") rfl), F.bindsN fun _ _ _ _ _ _ us hl => match us, hl with | [_], _ => rfl⟩
  · obtain ⟨fd, F⟩ := c.def_ 35 (d := d_check_text) rfl
    exact ⟨_, fd, F, He.glo_ok X G (c.fact 35 (f := .glo "check_text") rfl), F.bindsN fun _ _ _ _ _ _ us hl => match us, hl with | [_, _], _ => rfl⟩
  · obtain ⟨fd, F⟩ := c.def_ 36 (d := d_law_row) rfl
    exact ⟨_, fd, F, He.glo_ok X G (c.fact 36 (f := .glo "_law_row") rfl), F.bindsN fun _ _ _ _ _ _ us hl => match us, hl with | [_, _], _ => rfl⟩
  · obtain ⟨fd, F⟩ := c.def_ 37 (d := d_law_numbers) rfl
    exact ⟨_, fd, F, He.glo_ok X G (c.fact 37 (f := .glo "_law_numbers") rfl), F.bindsN fun _ _ _ _ _ _ us hl => match us, hl with | [_, _], _ => rfl⟩
  · obtain ⟨fd, F⟩ := c.def_ 43 (d := d_law_is_prime) rfl
    exact ⟨_, fd, F, He.glo_ok X G (c.fact 43 (f := .glo "_law_is_prime") rfl), F.bindsN fun _ _ _ _ _ _ us hl => match us, hl with | [_], _ => rfl⟩
  · obtain ⟨fd, F⟩ := c.def_ 44 (d := d_law_prime) rfl
    exact ⟨_, fd, F, He.glo_ok X G (c.fact 44 (f := .glo "_law_prime") rfl), F.bindsN fun _ _ _ _ _ _ us hl => match us, hl with | [_, _], _ => rfl⟩
  · obtain ⟨fd, F⟩ := c.def_ 46 (d := d_law_right) rfl
    exact ⟨_, fd, F, He.glo_ok X G (c.fact 46 (f := .glo "_law_right") rfl), F.bindsN fun _ _ _ _ _ _ us hl => match us, hl with | [_, _, _], _ => rfl⟩
  · obtain ⟨fd, F⟩ := c.def_ 47 (d := d_law_changed) rfl
    exact ⟨_, fd, F, He.glo_ok X G (c.fact 47 (f := .glo "_law_changed") rfl), F.bindsN fun _ _ _ _ _ _ us hl => match us, hl with | [_, _, _], _ => rfl⟩
theorem mg_ok (X : K.In h) (G : h.Ns mainGlobals mg) (c : He.SaysD fa fn K) (e : exB K = true) : Mg K mg := by
  obtain ⟨⟨⟨e1, e2⟩, e3⟩, e4⟩ := (show ((tupB K "ZERO_numbers" [0, 0, 0, 0] = true ∧ tupB K "ONE" [2, 0, 0, 0] = true) ∧ tupB K "ZERO_dividing" [0, 0, 0, 0] = true) ∧ He.eqO (PySem.W.nsIn K mainGlobals "gcd") (some (some (.builtin "math.gcd"))) = true by unfold exB at e; simpa only [Bool.and_eq_true] using e)
  exact ⟨He.free_ok X G (c.fact 56 (f := .free "len") rfl),
    He.free_ok X G (c.fact 63 (f := .free "tuple") rfl),
    He.free_ok X G (c.fact 62 (f := .free "sum") rfl),
    He.free_ok X G (c.fact 50 (f := .free "all") rfl),
    He.free_ok X G (c.fact 60 (f := .free "sorted") rfl),
    He.free_ok X G (c.fact 59 (f := .free "range") rfl),
    He.free_ok X G (c.fact 64 (f := .free "zip") rfl),
    He.free_ok X G (c.fact 58 (f := .free "max") rfl),
    He.free_ok X G (c.fact 54 (f := .free "int") rfl),
    He.free_ok X G (c.fact 61 (f := .free "str") rfl),
    He.free_ok X G (c.fact 49 (f := .free "abs") rfl),
    He.free_ok X G (c.fact 57 (f := .free "list") rfl),
    He.free_ok X G (c.fact 55 (f := .free "isinstance") rfl),
    He.free_ok X G (c.fact 53 (f := .free "enumerate") rfl),
    He.free_ok X G (c.fact 51 (f := .free "bool") rfl),
    PySem.W.mg_of X G (He.eqO_ok e4),
    He.int_ok X G (c.fact 65 (f := .int "PARTS" 4) rfl),
    He.int_ok X G (c.fact 66 (f := .int "MOST_VALUE" (10 ^ 12)) rfl),
    He.int_ok X G (c.fact 67 (f := .int "MOST_NORM" (10 ^ 12)) rfl),
    He.int_ok X G (c.fact 68 (f := .int "BASE" (10 ^ 60)) rfl),
    He.int_ok X G (c.fact 69 (f := .int "MOST_DIGITS" 200) rfl),
    He.str_ok X G (c.fact 70 (f := .str "DIGITS" "0123456789") rfl),
    tu_of X G (q := ⟨0, 0, 0, 0⟩) e1,
    tu_of X G (q := ⟨2, 0, 0, 0⟩) e2,
    tu_of X G (q := ⟨0, 0, 0, 0⟩) e3⟩
theorem law_ok (X : K.In h) (G : h.Ns mainGlobals mg) (c : He.SaysD fa fn K) (e : exB K = true) {fL : Addr} {fdL : FuncData} (F : FnP K "law" s_law fL fdL) : FnOk P w K mg base CX0 10 fL fdL ["_law_script"] (spLaw K) := by
  have B := mg_ok X G c e
  obtain ⟨D_is_number, D_check_number, D_check_not_zero, D_conjugate, D_norm, D_less, D_product, D_product_of, D_is_unit, D_associates, D_canonical, D_law_times, D_law_conjugate, D_law_size, D_law_product, D_law_best, D_units, D_law_units, D_content, D_is_primitive, D_distance_of, D_nearest, D_check_pair, D_divided_left, D_left_quotient, D_steps_of, D_check_some, D_left_common, D_left_prime, D_whole_primes, D_prime_list, D_check_order, D_row_of, D_is_canonical_prime, D_shown, D_is_integer, D_line_of, D_row_text, D_is_line, D_part_of, D_parse_row, D_check_text, D_law_row, D_law_numbers, D_law_is_prime, D_law_prime, D_law_right, D_law_changed⟩ := defs X G c
  have c_is_number := ok_is_number (P := P) (w := w) (base := base) B D_is_number
  have c_check_number := ok_check_number (P := P) (w := w) (base := base) B c_is_number D_check_number
  have c_check_not_zero := ok_check_not_zero (P := P) (w := w) (base := base) B c_check_number D_check_not_zero
  have c_conjugate := ok_conjugate (P := P) (w := w) (base := base) B c_check_number D_conjugate
  have c_norm := ok_norm (P := P) (w := w) (base := base) B c_check_number D_norm
  have c_less := ok_less (P := P) (w := w) (base := base) B c_check_number D_less
  have c_product := ok_product (P := P) (w := w) (base := base) B c_check_number D_product
  have c_product_of := ok_product_of (P := P) (w := w) (base := base) B c_product D_product_of
  have c_is_unit := ok_is_unit (P := P) (w := w) (base := base) B c_norm D_is_unit
  have c_law_times := ok_law_times (P := P) (w := w) (base := base) B D_law_times
  have c_law_conjugate := ok_law_conjugate (P := P) (w := w) (base := base) B D_law_conjugate
  have c_law_size := ok_law_size (P := P) (w := w) (base := base) B D_law_size
  have c_law_product := ok_law_product (P := P) (w := w) (base := base) B c_law_times D_law_product
  have c_units := ok_units (P := P) (w := w) (base := base) B D_units
  have c_associates := ok_associates (P := P) (w := w) (base := base) B c_check_not_zero c_product c_units D_associates
  have c_canonical := ok_canonical (P := P) (w := w) (base := base) B c_associates D_canonical
  have c_law_units := ok_law_units (P := P) (w := w) (base := base) B D_law_units
  have c_law_best := ok_law_best (P := P) (w := w) (base := base) B c_law_times c_law_units D_law_best
  have c_content := ok_content (P := P) (w := w) (base := base) B c_is_number c_check_not_zero D_content
  have c_is_primitive := ok_is_primitive (P := P) (w := w) (base := base) B c_content D_is_primitive
  have c_distance_of := ok_distance_of (P := P) (w := w) (base := base) B D_distance_of
  have c_nearest := ok_nearest (P := P) (w := w) (base := base) B c_distance_of D_nearest
  have c_check_pair := ok_check_pair (P := P) (w := w) (base := base) B c_check_number c_check_not_zero D_check_pair
  have c_divided_left := ok_divided_left (P := P) (w := w) (base := base) B c_check_pair c_nearest c_product c_conjugate c_norm c_less D_divided_left
  have c_left_quotient := ok_left_quotient (P := P) (w := w) (base := base) B c_divided_left D_left_quotient
  have c_steps_of := ok_steps_of (P := P) (w := w) (base := base) B c_divided_left c_product c_less D_steps_of
  have c_check_some := ok_check_some (P := P) (w := w) (base := base) B c_check_number D_check_some
  have c_left_common := ok_left_common (P := P) (w := w) (base := base) B c_check_some c_canonical c_steps_of D_left_common
  have c_left_prime := ok_left_prime (P := P) (w := w) (base := base) B c_left_common D_left_prime
  have c_whole_primes := ok_whole_primes (P := P) (w := w) (base := base) B D_whole_primes
  have c_prime_list := ok_prime_list (P := P) (w := w) (base := base) B c_whole_primes D_prime_list
  have c_check_order := ok_check_order (P := P) (w := w) (base := base) B c_check_not_zero c_norm c_prime_list D_check_order
  have c_row_of := ok_row_of (P := P) (w := w) (base := base) B c_check_order c_is_primitive c_left_prime c_left_quotient D_row_of
  have c_is_canonical_prime := ok_is_canonical_prime (P := P) (w := w) (base := base) B c_norm c_canonical c_whole_primes D_is_canonical_prime
  have c_shown0 := ok_shown0 (P := P) (w := w) (base := base) B D_shown
  have c_shown := ok_shown (P := P) (w := w) (base := base) B c_shown0 D_shown
  have c_is_integer := ok_is_integer (P := P) (w := w) (base := base) B D_is_integer
  have c_line_of := ok_line_of (P := P) (w := w) (base := base) B c_shown D_line_of
  have c_row_text := ok_row_text (P := P) (w := w) (base := base) B c_check_number c_line_of D_row_text
  have c_is_line := ok_is_line (P := P) (w := w) (base := base) B c_is_integer c_is_number D_is_line
  have c_part_of := ok_part_of (P := P) (w := w) (base := base) B D_part_of
  have c_parse_row := ok_parse_row (P := P) (w := w) (base := base) B c_is_line c_part_of D_parse_row
  have c_check_text := ok_check_text (P := P) (w := w) (base := base) B c_check_not_zero c_parse_row c_is_unit c_product_of c_is_canonical_prime D_check_text
  have c_law_row := ok_law_row (P := P) (w := w) (base := base) B D_law_row
  have c_law_numbers := ok_law_numbers (P := P) (w := w) (base := base) B c_law_row D_law_numbers
  have c_law_is_prime := ok_law_is_prime (P := P) (w := w) (base := base) B D_law_is_prime
  have c_law_prime := ok_law_prime (P := P) (w := w) (base := base) B D_law_prime
  have c_law_right := ok_law_right (P := P) (w := w) (base := base) B c_law_size c_law_product c_law_is_prime c_law_best D_law_right
  have c_law_changed := ok_law_changed (P := P) (w := w) (base := base) B c_law_units c_law_times c_law_best c_law_conjugate c_law_product D_law_changed
  exact ok_law B c_law_numbers c_law_best c_law_prime c_law_units c_law_product c_law_right c_check_text c_row_text c_law_changed c_law_size c_row_of F
end
theorem facts {P : Program} {w w2 : World} {K : PySem.W.Frag} {h : Heap} {mg : Str → Option Value} {f : Addr} (X : K.In h) (G : h.Ns mainGlobals mg) (hfa : mg ("law" : Str) = some (.ref f)) (c : He.SaysX fa fn [] [] exB w2 h K) :
    ∃ fd : FuncData, (∀ (s : Shared) (v : Value), BindsTo s fd ⟨[v], []⟩ [("_law_script", v)]) ∧ ∀ base : Heap, K.In base → base.Ns mainGlobals mg → FnOk P w K mg base CX0 10 f fd ["_law_script"] (spLaw K) := by
  obtain ⟨fd, F⟩ := c.t.d.def_ 48 (d := d_law) rfl
  have e := hfa.symm.trans (He.glo_ok X G (c.t.d.fact 48 (f := .glo "law") rfl))
  cases e
  have b := FunD.bindsA (ps := ["_law_script"]) F fun _ _ _ _ _ _ us hl => match us, hl with | [_], _ => rfl
  exact ⟨fd, fun s v => b s [v] rfl, fun base _ _ => law_ok X G c.t.d c.more F⟩
end TP
open PySem PySem.W PySem.Calls PyProof.Rows
theorem PySem.Challenge.cw_turnprimes_k63_whole_checked_rows_holds : PySem.Challenge.rw_turnprimes_k63_whole_checked_rows.Holds := by
  w_on; o_law
  refine HandSHeadRun.head_imp (r := TP.R) (q := TP.qv) (H := TP.hk) (ob := TP.ob) (M := 8000) (loose := TP.lo) (d := HandSHeadRun.topDef TP.R.prog 73) (kwd := []) TP.ob_eq TP.run
    (by kernel_rfl) (by kernel_rfl) (by kernel_rfl) (by rfl) (by first | assumption | decide +kernel) (by decide +kernel) ⟨rfl, rfl, rfl, rfl, rfl, by decide +kernel⟩ ?hw ?hc
  case hw => w_witness2
  case hc =>
    refine L2.walk_ofE (l := PySem.Challenge.rw_turnprimes_k63_whole_checked_rows) (n := 63) (k := 10) (x := "_law_script") (CX := L2.CX0) rfl (by decide) (by kernel_rfl) ⟨rfl, by decide, by decide⟩ ?F (fun _ _ _ _ z => z)
    intro w mg fa h Y G hmg0
    obtain ⟨K, KX, c⟩ := Y
    have hmg : mg ("law" : PySem.Str) = some (.ref fa) := by
      have e : (HandSHeadRun.topDef TP.R.prog 73).name = ("law" : PySem.Str) := by kernel_rfl
      rw [← e]
      exact hmg0
    obtain ⟨fd, hb, hF⟩ := TP.facts (P := (PySem.Challenge.rw_turnprimes_k63_whole_checked_rows).prog) (w := w) KX G hmg c
    exact ⟨K, fd, TP.spLaw K, KX, hb, fun H a ns hl _ hS => ⟨a, ns, rfl, hS, hl, fun _ => rfl⟩, hF⟩
