import PyProof.Rows.All
import Wide.All
import OpenK.AllK
import Wide.FinOn
import KE.KStateDown
import Lean
import HandS.Base
import HandS.Call
import HandS.List
import HandS.Comp
import HandS.Ends
import HandS.Words
import HandS.WordsList
import HandS.Iter
import HandS.Walk
import HandS.Zip
import HandS.TupAny
import HandS.Style
import HandS.IsInst
import HandS.Wide
import HandS.EndBits
import HandS.Head0
import HandS.Head1
import HandS.Head2
import HandS.HeadEnd
import HandS.HeadHook1
import HandS.HeadHook2
import KE.GoesEnum
import KE.GoesMore
import PySem.Challenge.RW_straightleast_k24_whole_parts_of_changed
set_option Elab.async false
set_option linter.all false
set_option maxRecDepth 100000
set_option maxHeartbeats 0
/-! the text of the top by places -/
namespace K24
open PySem L2
def topS (i : Nat) : Stmt := PySem.Challenge.pw_straightleast_k24_whole_parts_of_changed.main.body.getD i (.Pass ⟨0, 0, 0, 0⟩)
abbrev s_is_integer : Stmt := topS 10
abbrev s_is_within : Stmt := topS 11
abbrev s_is_row_of : Stmt := topS 12
abbrev s_are_integers : Stmt := topS 13
abbrev s_are_numbers : Stmt := topS 14
abbrev s_are_rising : Stmt := topS 15
abbrev s_are_indexes : Stmt := topS 16
abbrev s_need_number : Stmt := topS 17
abbrev s_width : Stmt := topS 19
abbrev s_column_of : Stmt := topS 20
abbrev s_gain_of : Stmt := topS 21
abbrev s_gain_at : Stmt := topS 22
abbrev s_gains_of : Stmt := topS 23
abbrev s_first_paying : Stmt := topS 24
abbrev s_is_straight_table : Stmt := topS 25
abbrev s_turned_table : Stmt := topS 26
abbrev s_mirrored_table : Stmt := topS 27
abbrev s_lifted_table : Stmt := topS 28
abbrev s_added_table : Stmt := topS 29
abbrev s_scaled_table : Stmt := topS 30
abbrev s_thinned_table : Stmt := topS 31
abbrev s_have_one_size : Stmt := topS 32
abbrev s_is_table_form : Stmt := topS 35
abbrev s_need_table : Stmt := topS 36
abbrev s_need_straight : Stmt := topS 37
abbrev s_need_indexes : Stmt := topS 38
abbrev s_need_numbers : Stmt := topS 41
abbrev s_lifted : Stmt := topS 42
abbrev s_added : Stmt := topS 43
abbrev s_scaled : Stmt := topS 44
abbrev s_turned : Stmt := topS 45
abbrev s_thinned : Stmt := topS 46
abbrev s_mirrored : Stmt := topS 47
abbrev s_sums_up_to : Stmt := topS 49
abbrev s_table_of_parts : Stmt := topS 50
abbrev s_least_there : Stmt := topS 51
abbrev s_room_of : Stmt := topS 52
abbrev s_rooms_of : Stmt := topS 53
abbrev s_are_parts : Stmt := topS 57
abbrev s_parts : Stmt := topS 58
abbrev s_built : Stmt := topS 59
abbrev s_need_span : Stmt := topS 60
abbrev s_gain : Stmt := topS 61
abbrev s_rooms : Stmt := topS 62
abbrev s_l_feed : Stmt := topS 64
abbrev s_l_draw : Stmt := topS 65
abbrev s_l_one : Stmt := topS 66
abbrev s_l_built : Stmt := topS 67
abbrev s_l_table : Stmt := topS 68
abbrev s_l_sized : Stmt := topS 69
abbrev s_l_loose : Stmt := topS 70
abbrev s_l_set : Stmt := topS 71
abbrev s_l_great : Stmt := topS 72
abbrev s_l_some_table : Stmt := topS 73
abbrev s_l_some : Stmt := topS 74
abbrev s_l_sums : Stmt := topS 75
abbrev s_l_added_right : Stmt := topS 76
abbrev s_l_turned_right : Stmt := topS 77
abbrev s_l_right : Stmt := topS 78
abbrev s_law : Stmt := topS 79
/-! the data of the defs, for the head -/
def d_is_integer : He.DefD := ⟨("is_integer", none), "is_integer", "is_integer", defArgs s_is_integer, defBody s_is_integer, defScope s_is_integer, [], []⟩
def d_is_within : He.DefD := ⟨("is_within", none), "is_within", "is_within", defArgs s_is_within, defBody s_is_within, defScope s_is_within, [], []⟩
def d_is_row_of : He.DefD := ⟨("is_row_of", none), "is_row_of", "is_row_of", defArgs s_is_row_of, defBody s_is_row_of, defScope s_is_row_of, [], []⟩
def d_are_integers : He.DefD := ⟨("are_integers", none), "are_integers", "are_integers", defArgs s_are_integers, defBody s_are_integers, defScope s_are_integers, [], []⟩
def d_are_numbers : He.DefD := ⟨("are_numbers", none), "are_numbers", "are_numbers", defArgs s_are_numbers, defBody s_are_numbers, defScope s_are_numbers, [], []⟩
def d_are_rising : He.DefD := ⟨("are_rising", none), "are_rising", "are_rising", defArgs s_are_rising, defBody s_are_rising, defScope s_are_rising, [], []⟩
def d_are_indexes : He.DefD := ⟨("are_indexes", none), "are_indexes", "are_indexes", defArgs s_are_indexes, defBody s_are_indexes, defScope s_are_indexes, [], []⟩
def d_need_number : He.DefD := ⟨("need_number", none), "need_number", "need_number", defArgs s_need_number, defBody s_need_number, defScope s_need_number, [], []⟩
def d_width : He.DefD := ⟨("width", none), "width", "width", defArgs s_width, defBody s_width, defScope s_width, [], []⟩
def d_column_of : He.DefD := ⟨("column_of", none), "column_of", "column_of", defArgs s_column_of, defBody s_column_of, defScope s_column_of, [], []⟩
def d_gain_of : He.DefD := ⟨("gain_of", none), "gain_of", "gain_of", defArgs s_gain_of, defBody s_gain_of, defScope s_gain_of, [], []⟩
def d_gain_at : He.DefD := ⟨("gain_at", none), "gain_at", "gain_at", defArgs s_gain_at, defBody s_gain_at, defScope s_gain_at, [], []⟩
def d_gains_of : He.DefD := ⟨("gains_of", none), "gains_of", "gains_of", defArgs s_gains_of, defBody s_gains_of, defScope s_gains_of, [], []⟩
def d_first_paying : He.DefD := ⟨("first_paying", none), "first_paying", "first_paying", defArgs s_first_paying, defBody s_first_paying, defScope s_first_paying, [], []⟩
def d_is_straight_table : He.DefD := ⟨("is_straight_table", none), "is_straight_table", "is_straight_table", defArgs s_is_straight_table, defBody s_is_straight_table, defScope s_is_straight_table, [], []⟩
def d_turned_table : He.DefD := ⟨("turned_table", none), "turned_table", "turned_table", defArgs s_turned_table, defBody s_turned_table, defScope s_turned_table, [], []⟩
def d_mirrored_table : He.DefD := ⟨("mirrored_table", none), "mirrored_table", "mirrored_table", defArgs s_mirrored_table, defBody s_mirrored_table, defScope s_mirrored_table, [], []⟩
def d_lifted_table : He.DefD := ⟨("lifted_table", none), "lifted_table", "lifted_table", defArgs s_lifted_table, defBody s_lifted_table, defScope s_lifted_table, [], []⟩
def d_added_table : He.DefD := ⟨("added_table", none), "added_table", "added_table", defArgs s_added_table, defBody s_added_table, defScope s_added_table, [], []⟩
def d_scaled_table : He.DefD := ⟨("scaled_table", none), "scaled_table", "scaled_table", defArgs s_scaled_table, defBody s_scaled_table, defScope s_scaled_table, [], []⟩
def d_thinned_table : He.DefD := ⟨("thinned_table", none), "thinned_table", "thinned_table", defArgs s_thinned_table, defBody s_thinned_table, defScope s_thinned_table, [], []⟩
def d_have_one_size : He.DefD := ⟨("have_one_size", none), "have_one_size", "have_one_size", defArgs s_have_one_size, defBody s_have_one_size, defScope s_have_one_size, [], []⟩
def d_is_table_form : He.DefD := ⟨("is_table_form", none), "is_table_form", "is_table_form", defArgs s_is_table_form, defBody s_is_table_form, defScope s_is_table_form, [], []⟩
def d_need_table : He.DefD := ⟨("need_table", none), "need_table", "need_table", defArgs s_need_table, defBody s_need_table, defScope s_need_table, [], []⟩
def d_need_straight : He.DefD := ⟨("need_straight", none), "need_straight", "need_straight", defArgs s_need_straight, defBody s_need_straight, defScope s_need_straight, [], []⟩
def d_need_indexes : He.DefD := ⟨("need_indexes", none), "need_indexes", "need_indexes", defArgs s_need_indexes, defBody s_need_indexes, defScope s_need_indexes, [], []⟩
def d_need_numbers : He.DefD := ⟨("need_numbers", none), "need_numbers", "need_numbers", defArgs s_need_numbers, defBody s_need_numbers, defScope s_need_numbers, [], []⟩
def d_lifted : He.DefD := ⟨("lifted", none), "lifted", "lifted", defArgs s_lifted, defBody s_lifted, defScope s_lifted, [], []⟩
def d_added : He.DefD := ⟨("added", none), "added", "added", defArgs s_added, defBody s_added, defScope s_added, [], []⟩
def d_scaled : He.DefD := ⟨("scaled", none), "scaled", "scaled", defArgs s_scaled, defBody s_scaled, defScope s_scaled, [], []⟩
def d_turned : He.DefD := ⟨("turned", none), "turned", "turned", defArgs s_turned, defBody s_turned, defScope s_turned, [], []⟩
def d_thinned : He.DefD := ⟨("thinned", none), "thinned", "thinned", defArgs s_thinned, defBody s_thinned, defScope s_thinned, [], []⟩
def d_mirrored : He.DefD := ⟨("mirrored", none), "mirrored", "mirrored", defArgs s_mirrored, defBody s_mirrored, defScope s_mirrored, [], []⟩
def d_sums_up_to : He.DefD := ⟨("sums_up_to", none), "sums_up_to", "sums_up_to", defArgs s_sums_up_to, defBody s_sums_up_to, defScope s_sums_up_to, [], []⟩
def d_table_of_parts : He.DefD := ⟨("table_of_parts", none), "table_of_parts", "table_of_parts", defArgs s_table_of_parts, defBody s_table_of_parts, defScope s_table_of_parts, [], []⟩
def d_least_there : He.DefD := ⟨("least_there", none), "least_there", "least_there", defArgs s_least_there, defBody s_least_there, defScope s_least_there, [], []⟩
def d_room_of : He.DefD := ⟨("room_of", none), "room_of", "room_of", defArgs s_room_of, defBody s_room_of, defScope s_room_of, [], []⟩
def d_rooms_of : He.DefD := ⟨("rooms_of", none), "rooms_of", "rooms_of", defArgs s_rooms_of, defBody s_rooms_of, defScope s_rooms_of, [], []⟩
def d_are_parts : He.DefD := ⟨("are_parts", none), "are_parts", "are_parts", defArgs s_are_parts, defBody s_are_parts, defScope s_are_parts, [], []⟩
def d_parts : He.DefD := ⟨("parts", none), "parts", "parts", defArgs s_parts, defBody s_parts, defScope s_parts, [], []⟩
def d_built : He.DefD := ⟨("built", none), "built", "built", defArgs s_built, defBody s_built, defScope s_built, [], []⟩
def d_need_span : He.DefD := ⟨("need_span", none), "need_span", "need_span", defArgs s_need_span, defBody s_need_span, defScope s_need_span, [], []⟩
def d_gain : He.DefD := ⟨("gain", none), "gain", "gain", defArgs s_gain, defBody s_gain, defScope s_gain, [], []⟩
def d_rooms : He.DefD := ⟨("rooms", none), "rooms", "rooms", defArgs s_rooms, defBody s_rooms, defScope s_rooms, [], []⟩
def d_l_feed : He.DefD := ⟨("_law_feed", none), "_law_feed", "_law_feed", defArgs s_l_feed, defBody s_l_feed, defScope s_l_feed, [], []⟩
def d_l_draw : He.DefD := ⟨("_law_draw", none), "_law_draw", "_law_draw", defArgs s_l_draw, defBody s_l_draw, defScope s_l_draw, [], []⟩
def d_l_one : He.DefD := ⟨("_law_one", none), "_law_one", "_law_one", defArgs s_l_one, defBody s_l_one, defScope s_l_one, [], []⟩
def d_l_built : He.DefD := ⟨("_law_built", none), "_law_built", "_law_built", defArgs s_l_built, defBody s_l_built, defScope s_l_built, [], []⟩
def d_l_table : He.DefD := ⟨("_law_table", none), "_law_table", "_law_table", defArgs s_l_table, defBody s_l_table, defScope s_l_table, [], []⟩
def d_l_sized : He.DefD := ⟨("_law_sized", none), "_law_sized", "_law_sized", defArgs s_l_sized, defBody s_l_sized, defScope s_l_sized, [], []⟩
def d_l_loose : He.DefD := ⟨("_law_loose", none), "_law_loose", "_law_loose", defArgs s_l_loose, defBody s_l_loose, defScope s_l_loose, [], []⟩
def d_l_set : He.DefD := ⟨("_law_set", none), "_law_set", "_law_set", defArgs s_l_set, defBody s_l_set, defScope s_l_set, [], []⟩
def d_l_great : He.DefD := ⟨("_law_great", none), "_law_great", "_law_great", defArgs s_l_great, defBody s_l_great, defScope s_l_great, [], []⟩
def d_l_some_table : He.DefD := ⟨("_law_some_table", none), "_law_some_table", "_law_some_table", defArgs s_l_some_table, defBody s_l_some_table, defScope s_l_some_table, [], []⟩
def d_l_some : He.DefD := ⟨("_law_some", none), "_law_some", "_law_some", defArgs s_l_some, defBody s_l_some, defScope s_l_some, [], []⟩
def d_l_sums : He.DefD := ⟨("_law_sums", none), "_law_sums", "_law_sums", defArgs s_l_sums, defBody s_l_sums, defScope s_l_sums, [], []⟩
def d_l_added_right : He.DefD := ⟨("_law_added_right", none), "_law_added_right", "_law_added_right", defArgs s_l_added_right, defBody s_l_added_right, defScope s_l_added_right, [], []⟩
def d_l_turned_right : He.DefD := ⟨("_law_turned_right", none), "_law_turned_right", "_law_turned_right", defArgs s_l_turned_right, defBody s_l_turned_right, defScope s_l_turned_right, [], []⟩
def d_l_right : He.DefD := ⟨("_law_right", none), "_law_right", "_law_right", defArgs s_l_right, defBody s_l_right, defScope s_l_right, [], []⟩
def d_law : He.DefD := ⟨("law", none), "law", "law", defArgs s_law, defBody s_law, defScope s_law, [], []⟩
def fn : List He.DefD := [d_is_integer, d_is_within, d_is_row_of, d_are_integers, d_are_numbers, d_are_rising, d_are_indexes, d_need_number, d_width, d_column_of, d_gain_of, d_gain_at, d_gains_of, d_first_paying, d_is_straight_table, d_turned_table, d_mirrored_table, d_lifted_table, d_added_table, d_scaled_table, d_thinned_table, d_have_one_size, d_is_table_form, d_need_table, d_need_straight, d_need_indexes, d_need_numbers, d_lifted, d_added, d_scaled, d_turned, d_thinned, d_mirrored, d_sums_up_to, d_table_of_parts, d_least_there, d_room_of, d_rooms_of, d_are_parts, d_parts, d_built, d_need_span, d_gain, d_rooms, d_l_feed, d_l_draw, d_l_one, d_l_built, d_l_table, d_l_sized, d_l_loose, d_l_set, d_l_great, d_l_some_table, d_l_some, d_l_sums, d_l_added_right, d_l_turned_right, d_l_right, d_law]
def fa : List He.Fa := [.glo "is_integer", .glo "is_within", .glo "is_row_of", .glo "are_integers", .glo "are_numbers", .glo "are_rising", .glo "are_indexes", .glo "need_number", .glo "width", .glo "column_of", .glo "gain_of", .glo "gain_at", .glo "gains_of", .glo "first_paying", .glo "is_straight_table", .glo "turned_table", .glo "mirrored_table", .glo "lifted_table", .glo "added_table", .glo "scaled_table", .glo "thinned_table", .glo "have_one_size", .glo "is_table_form", .glo "need_table", .glo "need_straight", .glo "need_indexes", .glo "need_numbers", .glo "lifted", .glo "added", .glo "scaled", .glo "turned", .glo "thinned", .glo "mirrored", .glo "sums_up_to", .glo "table_of_parts", .glo "least_there", .glo "room_of", .glo "rooms_of", .glo "are_parts", .glo "parts", .glo "built", .glo "need_span", .glo "gain", .glo "rooms", .glo "_law_feed", .glo "_law_draw", .glo "_law_one", .glo "_law_built", .glo "_law_table", .glo "_law_sized", .glo "_law_loose", .glo "_law_set", .glo "_law_great", .glo "_law_some_table", .glo "_law_some", .glo "_law_sums", .glo "_law_added_right", .glo "_law_turned_right", .glo "_law_right", .glo "law", .int "MOST_ROWS" 8, .int "MOST_TIMES" 1000000000, .int "MOST_LEFT" 8, .int "MOST_TOP" 7, .free "isinstance", .free "tuple", .free "int", .free "bool", .free "all", .free "zip", .free "len", .free "range", .free "enumerate", .free "repr", .free "sum", .free "max", .free "min", .free "list"]
def loose0 : List PySem.Str := ["LeastError", "BadTable", "NotStraight", "BadNumbers", "BadNumber", "BadSizes", "BadIndexes", "BadParts", "is_integer", "is_within", "is_row_of", "are_integers"]
def loose1 : List PySem.Str := ["are_numbers", "are_rising", "are_indexes", "need_number", "width", "column_of", "gain_of", "gain_at", "gains_of", "first_paying", "is_straight_table", "turned_table"]
def loose2 : List PySem.Str := ["mirrored_table", "lifted_table", "added_table", "scaled_table", "thinned_table", "have_one_size", "MOST_ROWS", "is_table_form", "need_table", "need_straight", "need_indexes", "MOST_TIMES"]
def loose3 : List PySem.Str := ["need_numbers", "lifted", "added", "scaled", "turned", "thinned", "mirrored", "sums_up_to", "table_of_parts", "least_there", "room_of", "rooms_of"]
def loose4 : List PySem.Str := ["MOST_LEFT", "MOST_TOP", "are_parts", "parts", "built", "need_span", "gain", "rooms", "_law_feed", "_law_draw", "_law_one", "_law_built"]
def loose5 : List PySem.Str := ["_law_table", "_law_sized", "_law_loose", "_law_set", "_law_great", "_law_some_table", "_law_some", "_law_sums", "_law_added_right", "_law_turned_right", "_law_right"]
def looseA : List PySem.Str := loose0 ++ loose1 ++ loose2 ++ loose3 ++ loose4 ++ loose5
abbrev R : PySem.W.OpenRow := PySem.W.OpenLaw.row PySem.Challenge.rw_straightleast_k24_whole_parts_of_changed
abbrev hk : PySem.W.Hook := He.hookD 3 fa fn
def ob (s : PySem.W.SharedT) : He.AlD := He.obsDG 3 fa fn (HandSHeadRun.getT s)
theorem ob_eq (s : PySem.W.SharedT) : ob s = hk.obs s.abs := He.obsDG_eq (HandSHeadRun.getT_eq s)
end K24
namespace K24
open PySem PySem.W PySem.Calls PyProof.Rows
theorem run (w : World) : HandSHeadRun.RunEq R (PySem.W.view R.prog [79]) hk ob 6000 looseA w := by
  intro os
  kernel_rfl
end K24
/-! rules that the layer lacks: great products, enumerate and zip over tuples, a tuple from its end, repr of nested data, calls under known guards -/
namespace K24
open PySem PySem.Spec PyProof.Rows L2
open Builtin Builtin.Str
/-! ### great products -/
def MulB (i j : Int) : Prop := i.natAbs.log2 + j.natAbs.log2 < 100000000
theorem bits_le_log (x : Int) : Builtin.Int.intBits x ≤ x.natAbs.log2 + 1 := by
  unfold Builtin.Int.intBits
  split <;> omega
theorem mulB_ok {i j : Int} (h : MulB i j) : IntMulOk i j := by
  intro z
  have z3 : Builtin.Int.intTooBig (Builtin.Int.intBits i + Builtin.Int.intBits j) = true := (Bool.and_eq_true_iff.mp z).2
  unfold Builtin.Int.intTooBig at z3
  have z4 := of_decide_eq_true z3
  have e : bitsLine = 134217728 := by decide
  have h1 := bits_le_log i
  have h2 := bits_le_log j
  unfold MulB at h
  omega
section
variable {X : Cx}
theorem op_mulB : OpR X (binaryOp .Mult) (rI MulB fun i j => .int (i * j)) := opI fun i j t u s Q E c q => mul_int q (mulB_ok c)
end
/-! ### enumerate over a tuple -/
def IteT (K : PySem.W.Frag) (a : Addr) : It where
  go := fun i H => ∃ (xs : List V) (x : V), SqT K H a xs ∧ xs[i]? = some x
  yld := fun i H v H' => ∃ T x, v = .ref T ∧ H T = none ∧ H' = upd H T (.tup [.int (i : Nat), x]) ∧ ∀ xs, SqT K H a xs → xs[i]? = some x
  stop := fun i H => ∃ xs : List V, SqT K H a xs ∧ xs.length ≤ i
def EnT (a e it : Addr) (i : Nat) (h : Heap) : Prop := (∃ old, IsEnum h e it ((i : Nat) : Int) old) ∧ h.IsTupleIter it a i ∧ e ≠ it ∧ a ≠ it ∧ a ≠ e
theorem turn_enumT {P : Program} {w : World} {K : PySem.W.Frag} {elts : List Expr} {kk : Nat} {tpos : Pos} (a e it : Addr) : Turn P w K (.Tuple elts kk tpos) (IteT K a) [e, it] e (EnT a e it) where
  mem := List.mem_cons_self
  obj := by
    rintro i h ⟨⟨old, he⟩, ⟨o, ho, hc, hd⟩, _⟩ b hb
    have hb2 : b = e ∨ b = it := by simpa using hb
    rcases hb2 with rfl | rfl
    · exact ⟨_, he, by intro v q; cases q⟩
    · exact ⟨o, ho, by intro v q; rw [hd] at q; cases q⟩
  keep := by
    rintro i h h' ⟨⟨old, he⟩, hi, n1, n2, n3⟩ k
    exact ⟨⟨old, k e List.mem_cons_self _ he⟩, hi.at (k it (List.mem_cons_of_mem _ List.mem_cons_self)), n1, n2, n3⟩
  item := by
    rintro X rfl rfl rfl hc i pins s σ H E I hf ⟨⟨old, he⟩, hit, n1, n2, n3⟩ ⟨xs, x, hq, hx⟩
    obtain ⟨its, rv, p, hz⟩ := I.tuple hq
    obtain ⟨u, hu, ru⟩ := rv.get hx
    have lt : i < its.length := (List.getElem?_eq_some_iff.mp hu).1
    have eb : e < s.heap.objs.size := Heap.lt_size he
    have ib : it < s.heap.objs.size := by
      obtain ⟨_, q, _⟩ := hit
      exact Heap.lt_size q
    have D := Draws.tuple (prog := X.prog) (w := X.w) (A := X.A.in1) (I.ok.hd hc) it a n2 its.toArray
    have nin : e ∉ [it, a] := by
      intro q
      have q2 : e = it ∨ e = a := by simpa using q
      rcases q2 with q2 | q2
      · exact n1 q2
      · exact n3 q2.symm
    refine wpAny_pyNext_enum_itemD D he ⟨hit, p⟩ (by simpa using lt) n1 nin fun y h' tk hy ho st hT hsz hk => ?_
    have hy2 : its[i]? = some y := by simpa using hy
    have ey : y = u := Option.some.inj (hy2.symm.trans hu)
    subst ey
    refine ⟨_, rfl, wpAny_letOwnedTupleGo_enum (s := { s with heap := h', toks := tk + 1 }) ho fun h2 he2 sb => ?_⟩
    have t2 : h2.get? s.heap.objs.size = some { cls := .type "tuple", data := .seq #[.int i tk, y] } := Eq.trans (sb.2 _ (Nat.ne_of_gt eb)) hT
    have new : ObjOk X.prog X.w (upd H s.heap.objs.size (.tup [.int (i : Nat), x])) h2 s.heap.objs.size (.tup [.int (i : Nat), x]) := by
      refine ⟨?_, [.int i tk, y], .cons ⟨_, rfl⟩ (.cons ru .nil), _, t2, rfl, _, rfl⟩
      show 2 ≤ sizeLine
      decide
    have J : Inv X pins σ (upd H s.heap.objs.size (.tup [.int (i : Nat), x])) { s with heap := h2, toks := tk + 1 } := by
      refine I.turnedNew (ch := [e, it]) (fun b ob hb q => ?_) hf (Nat.le_refl _) new
      have b1 : b ≠ e := fun z => hb (by rw [z]; exact List.mem_cons_self)
      have b2 : b ≠ it := fun z => hb (by rw [z]; exact List.mem_cons_of_mem _ List.mem_cons_self)
      exact Eq.trans (sb.2 b b1) (hk b ob b1 b2 q)
    refine ⟨.ref s.heap.objs.size, _, J, rfl, ⟨_, x, rfl, I.hok.fresh (Nat.le_refl _), rfl, ?_⟩, ⟨⟨y, ?_⟩, ?_, n1, n2, n3⟩, ?_⟩
    · intro ys hy
      rw [I.tuple_inj hy hq]
      exact hx
    · have ei : ((i + 1 : Nat) : Int) = (i : Int) + 1 := Int.natCast_succ i
      rw [ei]
      exact he2
    · exact st.1.at fun o q => Eq.trans (sb.2 it (Ne.symm n1)) q
    · intro b hb
      have b3 : b < s.heap.objs.size := by
        have q2 : b = e ∨ b = it := by simpa using hb
        rcases q2 with rfl | rfl
        · exact eb
        · exact ib
      rw [upd_ne (Nat.ne_of_lt b3)]
      exact (hf b hb).1
  done := by
    rintro X rfl rfl rfl hc i pins s σ H E I hf ⟨⟨old, he⟩, hit, n1, n2, n3⟩ ⟨xs, hq, hx⟩
    obtain ⟨its, rv, p, hz⟩ := I.tuple hq
    obtain ⟨f0, f1, f2, f3, f4, f5⟩ := hf it (List.mem_cons_of_mem _ List.mem_cons_self)
    have hl := rv.length
    -- at the end the place is the length, or behind it: the library's end asks the place at which nothing stands
    have hT : s.TypeIs (.ref e) "enumerate" := ⟨_, he, rfl⟩
    have none_ : its.toArray[i]? = none := by
      simp only [List.getElem?_toArray]
      exact List.getElem?_eq_none_iff.mpr (by omega)
    unfold pyNext
    refine wpAny_bind (wpAny_attempt (wpAny_callSpecial?_slot (name := Str.ofString "__next__") hT F.slot_enumerate_next (wpAny_call_entry F.slot_enumerate_next hT F.entry_enumerate_next ?_ (F.args_enumerate_next_1 _))))
    show wpAny _ _ (field (.ref e) 2 >>= _) _ _ _
    refine wpAny_bind (wpAny_field he rfl (x := .ref it) rfl ?_)
    refine wpAny_bind (wpAny_nextOf_tuple_end (A := X.A.in1) (I.ok.hd hc) hit p none_ fun h' x he' hx' => ?_)
    obtain ⟨o, ho, hcl⟩ := hx'
    refine wpAny_bind (wpAny_isInstance (T := "StopIteration") (b := true) ⟨o, ho, hcl⟩ isSubtype_stop ?_)
    exact wpAny_pure ⟨rfl, I.turned (t' := s.toks) (fun b o hb q => he' b o hb q) f0 f1 f3 f4 f5⟩
  self := by
    rintro A i s Q E ⟨⟨_, he⟩, _⟩ h
    exact wpAny_pyIter_enum he h

/-- what a tuple's iterator is at its start -/
abbrev itT0 (t : Addr) : Obj := { cls := .type "tuple_iterator", data := .fields #[.ref t, .int 0 0] }
abbrev enO (it : Addr) : Obj := { cls := .type "enumerate", data := .fields #[.none, .bool false, .ref it, rawInt 0, .none, .none] }
theorem enumT_new (t : Addr) (items : Array Value) : Meets (Builtin.«enumerate.__new__» ⟨[.type "enumerate", .ref t], []⟩)
    (fun _ R s => s.heap.IsTuple t items ∧ R (.ok (.ret (.ref (s.heap.push (itT0 t)).objs.size))) { s with heap := (s.heap.push (itT0 t)).push (enO s.heap.objs.size) }) :=
  .of_wp fun prog w A R s hR => by
    obtain ⟨hp, g, d, tk, os⟩ := s
    obtain ⟨h1, hR⟩ := hR
    have hsub := sub_enumerate
    have go : ∀ {A' : Around} {E : Value → Shared → Prop} {Q : Value → Shared → Prop}, Q (.ref hp.objs.size) ⟨hp.push (itT0 t), g, d, tk, os⟩ → wpAny (model prog w) A' (pyIter (.ref t)) Q E ⟨hp, g, d, tk, os⟩ :=
      fun k => (begins_tuple t items).iter prog w _ _ ⟨hp, g, d, tk, os⟩ _ h1 k
    wp_walk using go
    refine wpAny_stack_any fun st => wpAny_pure ?_
    split
    · rename_i c _ _ _ _ _
      cases (c == Value.type "enumerate") <;> (wp_walk using go; exact ⟨_, rfl, hR⟩)
    · wp_walk using go
      exact ⟨_, rfl, hR⟩
theorem call_enumT {prog : Program} {w : World} {A : Around} {E : Value → Shared → Prop} {s : Shared} {t : Addr} {items : Array Value} {Q : Value → Shared → Prop} (h1 : s.heap.IsTuple t items)
    (h : ∀ h', IsEnum h' (s.heap.objs.size + 1) s.heap.objs.size 0 .none → h'.IsTupleIter s.heap.objs.size t 0 → (∀ b o, s.heap.get? b = some o → h'.get? b = some o) → Q (.ref (s.heap.objs.size + 1)) { s with heap := h' }) :
    wpAny (model prog w) A (call (.type "enumerate") [.ref t]) Q E s := by
  refine callType_new F.called_enumerate (by decide) (F.typeCall_enumerate_1 _) (F.newCall_enumerate_1 _) (fun obj => F.args_object_init_2 obj _) F.entry_enumerate_new (enumT_new t items) ⟨h1, ?_⟩
  have hz : (s.heap.push (itT0 t)).objs.size = s.heap.objs.size + 1 := Heap.size_push ..
  have he : ((s.heap.push (itT0 t)).push (enO s.heap.objs.size)).get? (s.heap.objs.size + 1) = some (enO s.heap.objs.size) := by
    have q := Heap.get?_push_size (s.heap.push (itT0 t)) (o := enO s.heap.objs.size) rfl
    rw [hz] at q
    exact q
  rw [hz]
  exact ⟨⟨_, he, rfl⟩, h _ he ⟨_, Heap.get?_push_of_some _ (Heap.get?_push_size _ rfl), rfl, rfl⟩ fun b o x => Heap.get?_push_of_some _ (Heap.get?_push_of_some _ x)⟩
/-- enumerate(list) or enumerate(tuple) -/
def iEnumA (K : PySem.W.Frag) (ta : TA) : TI := fun σ H R => ta σ H fun vs H1 => ∃ a xs, vs = [.ref a] ∧ SqT K H1 a xs ∧ R (IteT K a) H1
theorem pi_enumT {X : Cx} {e : Expr} {ta : TA} {p pos tpos : Pos} {elts : List Expr} {kk : Nat} (hg : Gl X "enumerate") (hm : X.mg "enumerate" = none) (ha : PA X [e] ta) (hs : starEach [e] X.env = [(false, eval e X.env)] := by rfl) :
    PI X (.Tuple elts kk tpos) (.Call (.Name "enumerate" p) [e] [] pos) (iEnumA X.K ta) := by
  constructor
  intro pins s σ H R I h
  refine Call_ (ld_blt I hg hm boot_enumerate (PyProof.Rows.callWith_type1 (thn (ha.run pos pins s σ H _ I h) ?_) hs rfl))
  rintro us s1 ⟨vs, H1, I1, r1, a, xs, rfl, hq, q⟩
  obtain ⟨u, rfl, ru⟩ := vals1 r1
  cases ru
  obtain ⟨its, rv, p', hz⟩ := I1.tuple hq
  obtain ⟨oa, hoa, _⟩ := id p'
  have la : a < s1.heap.objs.size := Heap.lt_size hoa
  refine call_enumT (items := its.toArray) p' fun h' he hit hk => wpAny_pyIter_enum he ?_
  have I2 : Inv X pins σ H1 { s1 with heap := h' } := I1.kept (t' := s1.toks) hk
  refine ⟨s1.heap.objs.size + 1, [s1.heap.objs.size + 1, s1.heap.objs.size], _, _, H1, rfl, I2, turn_enumT a (s1.heap.objs.size + 1) s1.heap.objs.size, ⟨⟨.none, he⟩, hit, Nat.succ_ne_self _, Nat.ne_of_lt la, Nat.ne_of_lt (Nat.lt_succ_of_lt la)⟩, fun b hb => ?_, q⟩
  have hle : s1.heap.objs.size ≤ b := by
    have e' : b = s1.heap.objs.size + 1 ∨ b = s1.heap.objs.size := by simpa using hb
    rcases e' with rfl | rfl
    · exact Nat.le_succ _
    · exact Nat.le_refl _
  exact I1.fpOk hle (I1.hok.fresh hle)
theorem walk_enumT {K : PySem.W.Frag} {a : Addr} {xs : List V} : Walk (IteT K a) xs.length (fun H => SqT K H a xs) (YPair (fun i => some (.int (i : Nat))) (fun i => xs[i]?)) where
  goes := fun i _ hi q => ⟨xs, xs[i], q, List.getElem?_eq_getElem hi⟩
  stops := fun _ q => ⟨xs, q, Nat.le_refl _⟩
  yields := by
    rintro i H v H' hi q ⟨T, x, h1, h2, h3, h4⟩
    exact ⟨T, .int (i : Nat), x, h1, h2, h3, rfl, h4 xs q⟩
theorem walk_zipT {K : PySem.W.Frag} {a b : Addr} {xs ys : List V} {n : Nat} (h1 : n ≤ xs.length) (h2 : n ≤ ys.length) (h3 : xs.length ≤ n ∨ ys.length ≤ n) :
    Walk (RZ.ItzT K a b) n (fun H => SqT K H a xs ∧ SqT K H b ys) (YPair (fun i => xs[i]?) (fun i => ys[i]?)) where
  goes := fun i _ hi q => ⟨xs, ys, xs[i], ys[i], q.1, q.2, List.getElem?_eq_getElem (Nat.lt_of_lt_of_le hi h1), List.getElem?_eq_getElem (Nat.lt_of_lt_of_le hi h2)⟩
  stops := fun _ q => ⟨xs, ys, q.1, q.2, h3⟩
  yields := by
    rintro i H v H' hi q ⟨T, x, z, k1, k2, k3, k4, k5⟩
    exact ⟨T, x, z, k1, k2, k3, k4 xs q.1, k5 ys q.2⟩
/-! ### t[::-1] of a tuple -/
def tRevT (K : PySem.W.Frag) (te : TE) : TE := fun σ H Q => te σ H fun x H1 => ∃ a xs, x = .ref a ∧ SqT K H1 a xs ∧ ∀ p, H1 p = none → Q (.ref p) (upd H1 p (.tup xs.reverse))
/-! ### repr of nested data -/
def rReprD (K : PySem.W.Frag) : List V → Hp → VK → Prop := fun vs H Q => ∃ (a : Addr) (d : PyData), vs = [.ref a] ∧ Dp K H (.ref a) d ∧ d.showable = true ∧ d.hasDict = false ∧ d.depth ≤ 60 ∧ d.shown.length ≤ sizeLine ∧ Q (.str d.shown) H
theorem call_reprD {X : Cx} (hg : X.A.guards = some []) (hu : X.A.units + 64 < cLine) : CallR X (.builtin "repr") (rReprD X.K) := by
  rintro pins s σ H xs us Q I r ⟨a, d, rfl, hd, sh, nd, dp, sz, q⟩
  obtain ⟨u, rfl, ru⟩ := vals1 r
  cases ru
  obtain ⟨as, rd⟩ := Dp.reads I d (.ref a) (.ref a) hd rfl
  exact repr_of_reads' rd sh (PyData.noDict_hsm nd) hg (by omega) (fun _ _ e => e) (fun h' u tk hk => ⟨.str d.shown, H, I.kept (t' := tk) hk, ⟨u, rfl⟩, q⟩) sz
end K24
namespace K24
open PySem PySem.Spec PyProof.Rows L2
open Builtin Builtin.Str
theorem fm_congr {α β : Type} {f g : α → Option β} : ∀ l : List α, (∀ x ∈ l, f x = g x) → l.filterMap f = l.filterMap g
  | [], _ => rfl
  | x :: r, h => by
    rw [List.filterMap_cons, List.filterMap_cons, h x List.mem_cons_self, fm_congr r fun y hy => h y (List.mem_cons_of_mem _ hy)]
theorem adj_back (n : Nat) : Builtin.Slice.sliceAdjust none none (-1) (n : Int) = ((n : Int) - 1, -1) := rfl
theorem plc_back (n : Nat) : Builtin.Slice.slicePlaces ((n : Int) - 1) (-1) (-1) = n := by
  unfold Builtin.Slice.slicePlaces
  rw [if_neg (by decide)]
  by_cases h : (n : Int) - 1 > -1
  · rw [if_pos h]
    have e : ((n : Int) - 1 - -1 - 1) / - -1 = (n : Int) - 1 := by
      rw [show (- -1 : Int) = 1 by decide, Int.ediv_one]
      omega
    rw [e]
    omega
  · rw [if_neg h]
    omega
theorem pick_back (xs : Array Value) : ((List.range xs.size).filterMap fun (k : Nat) => xs[(((xs.size : Int) - 1) + (k : Int) * (-1)).toNat]?) = xs.toList.reverse := by
  have e : ((List.range xs.size).filterMap fun (k : Nat) => xs[(((xs.size : Int) - 1) + (k : Int) * (-1)).toNat]?) = (((List.range xs.size).map fun k => xs.size - 1 - k).filterMap (xs[·]?)) := by
    rw [List.filterMap_map]
    refine fm_congr _ fun k hk => ?_
    have hk2 := List.mem_range.mp hk
    have e2 : (((xs.size : Int) - 1) + (k : Int) * (-1)).toNat = xs.size - 1 - k := by omega
    show xs[(((xs.size : Int) - 1) + (k : Int) * (-1)).toNat]? = xs[xs.size - 1 - k]?
    rw [e2]
  rw [e, PySem.W.krv_range, List.filterMap_reverse, PySem.W.krv_all]
section
variable {prog : Program} {w : World} {A : Around} {E : Value → Shared → Prop} {s : Shared}
theorem back_of {t sl : Addr} {items : Array Value} {vl vu vs : Value} {Q : Value → Shared → Prop} (ht : IsTup s.heap t items) (hs : s.heap.IsSliceOf sl vl vu vs) (pl : IsPart vl none) (pu : IsPart vu none) (ps : IsPart vs (some (-1)))
    (hsz : items.size ≤ sizeLine) (h : Q (.ref s.heap.objs.size) { s with heap := s.heap.push { cls := .type "tuple", data := .seq items.toList.reverse.toArray } }) :
    wpAny (model prog w) A (getItem (.ref t) (.ref sl)) Q E s := by
  have fit : sizeOk (.seq items.toList.reverse.toArray) := by
    show items.toList.reverse.toArray.size ≤ sizeLine
    rw [List.size_toArray, List.length_reverse, Array.length_toList]
    exact hsz
  obtain ⟨os, hos, hcs, hds⟩ := id hs
  have hTs : s.TypeIs (.ref sl) "slice" := ⟨os, hos, hcs⟩
  unfold getItem
  try with_reducible refine wpAny_holding ?_
  first | refine wpAny_bind (wpAny_pure ?_) | skip
  refine wpAny_bind (wpAny_sequenceKey ht.typeIs (by decide) ?_)
  refine wpAny_bind (wpAny_callSpecial?_slot (name := Str.ofString "__getitem__") ht.typeIs PyProof.Rows.slot_tuple_getitem (wpAny_call_entry PyProof.Rows.slot_tuple_getitem ht.typeIs entry_tuple_getitem ?_ (args_tuple_getitem _ _)))
  show wpAny _ _ (Builtin.Tuple.tupleItemsOf (.ref t) >>= _) _ _ s
  refine wpAny_bind (tupleItemsOf_ ht ?_)
  refine wpAny_bind (wpAny_typeOf hTs ?_)
  rw [if_pos (by decide)]
  have app : ∀ {Q' : Int × Int × Nat → Shared → Prop} {A' : Around} {E' : Value → Shared → Prop}, Q' ((items.size : Int) - 1, -1, items.size) s → wpAny (model prog w) A' (Builtin.Slice.sliceApplied (.ref sl) (pure (items.size : Int))) Q' E' s := by
    intro Q' A' E' q
    unfold Builtin.Slice.sliceApplied Builtin.Slice.sliceFields
    refine wpAny_bind (wpAny_bind (wpAny_field hos hds (x := vl) rfl (wpAny_bind (wpAny_field hos hds (x := vu) rfl (wpAny_bind (wpAny_field hos hds (x := vs) rfl (wpAny_pure ?_)))))))
    refine wpAny_bind (HT.slicePart_ ps ?_)
    show wpAny _ _ (if ((-1 : Int) == 0) = true then _ else _) _ _ s
    rw [if_neg (by decide)]
    refine wpAny_bind (HT.slicePart_ pl (wpAny_bind (HT.slicePart_ pu (wpAny_bind (wpAny_pure ?_)))))
    show wpAny _ _ (pure ((items.size : Int) - 1, (-1 : Int), Builtin.Slice.slicePlaces ((items.size : Int) - 1) (-1) (-1))) _ _ s
    rw [plc_back]
    exact wpAny_pure q
  refine wpAny_bind (app ?_)
  have hno : ¬ ((((items.size : Int) - 1) == 0 && (-1 : Int) == 1 && items.size == items.size) = true) := by
    rw [show ((-1 : Int) == 1) = false by decide, Bool.and_false, Bool.false_and]
    exact Bool.false_ne_true
  show wpAny _ _ (if ((((items.size : Int) - 1) == 0 && (-1 : Int) == 1 && items.size == items.size) = true) then _ else _) _ _ s
  rw [if_neg hno, pick_back]
  exact wpAny_bind (m := Builtin.Tuple.tupleExact _) (wpAny_newObj_type (wpAny_pure ⟨_, rfl, wpAny_pure h⟩) fit)
end
section
variable {X : Cx}
theorem pe_revT {e : Expr} {te : TE} {k : Nat} {p1 p2 p3 pos : Pos} (he : PE X e te) : PE X (.Subscript e (.Slice none none (some (.UnaryOp .USub (.Constant (.int 1) k p1) p2)) p3) pos) (tRevT X.K te) := by
  constructor
  intro pins s σ H Q I h
  refine Subscript_ (thn (he.run pins s σ H _ I h) ?_)
  rintro v s1 ⟨x, H1, I1, r1, a, xs, rfl, hx, q⟩
  cases r1
  have st : PO X (some (.UnaryOp .USub (.Constant (.int 1) k p1) p2)) (tPart (tUn (rU fun i => .int (-i)) (tC (.int 1)))) := po_some (pe_un un_neg pe_int)
  refine wpAny_Slice (thn (po_none.run pins s1 σ H1 (fun o H2 => o = none ∧ H2 = H1) I1 ⟨rfl, rfl⟩) ?_)
  rintro vl s2 ⟨_, _, I2, pl, rfl, rfl⟩
  refine thn (po_none.run pins s2 σ _ (fun o H3 => o = none ∧ H3 = _) I2 ⟨rfl, rfl⟩) ?_
  rintro vu s3 ⟨_, _, I3, pu, rfl, rfl⟩
  refine thn (st.run pins s3 σ _ (fun o H4 => o = some (-1) ∧ H4 = _) I3 ⟨1, rfl, -1, rfl, rfl, rfl⟩) ?_
  rintro vs s4 ⟨_, _, I4, ps, rfl, rfl⟩
  have I5 : Inv X pins σ _ { s4 with heap := s4.heap.push { cls := .type "slice", data := .fields #[vl, vu, vs] } } := I4.kept (t' := s4.toks) fun b ob z => Heap.get?_push_of_some _ z
  obtain ⟨its, r, ht, hz⟩ := I5.tuple hx
  have hlen : its.toArray.size = xs.length := by
    rw [List.size_toArray]
    exact r.length.symm
  show wpAny (model X.prog X.w) X.A (subscriptTail e (.Slice none none (some (.UnaryOp .USub (.Constant (.int 1) k p1) p2)) p3) (.ref a) (.ref s4.heap.objs.size)) (EP X pins σ Q) X.xe { s4 with heap := s4.heap.push { cls := .type "slice", data := .fields #[vl, vu, vs] } }
  refine tail_any (ops := [.ref a, .ref s4.heap.objs.size]) ht.typeIs PyProof.Rows.slot_tuple_getitem.lookup ?_ (by with_unfolding_all rfl)
  refine back_of ht (Heap.IsSliceOf.new _ vl vu vs) pl pu ps (by rw [hlen]; exact hz) ?_
  refine ⟨.ref _, _, I5.laid (t' := s4.toks) (o := .tup xs.reverse) (fun b ob z => Heap.get?_push_of_some _ z) (Nat.le_refl _) ?_, rfl, q _ (I5.hok.fresh (Nat.le_refl _))⟩
  exact ⟨by rw [List.length_reverse]; exact hz, _, r.reverse, IsTup.new _ _⟩
end
end K24
/-! calls where no repr is under way: FnG, Cal, the rule of a def, the law's end with the script's bits -/
namespace K24
open PySem PySem.Spec PyProof.Rows L2
abbrev FnP (K : PySem.W.Frag) (x : Str) (st : Stmt) (f : Addr) (fd : FuncData) : Prop := FunD K x x (defArgs st) (defBody st) (defScope st) [] [] f fd
/-- the def of the text behind the module's name x -/
def DefP (K : PySem.W.Frag) (mg : Str → Option Value) (x : Str) (st : Stmt) : Prop := ∃ f fd, FnP K x st f fd ∧ mg x = some (.ref f)
structure FnG (P : Program) (w : World) (K : PySem.W.Frag) (mg : Str → Option Value) (base : Heap) (k : Nat) (f : Addr) (fd : FuncData) (ps : List Str) (sp : Sp) : Prop where
  len : ∀ vs H Q E, sp vs H Q E → vs.length = ps.length
  run : ∀ (A : Around) (outer : List Env) (s : Shared) (H : Hp) (args : Args) (us : List Value) (vs : List V) (Q : VK), A.guards = some [] → Room k A → Env0 P w K mg base A outer s H →
    BindsTo s fd args (ps.zip us) → Vals vs us → sp vs H Q E0 → codeAny (model P w) A (.call (.ref f) args) (CR CX0 outer P w H s Q E0) s
def Cal (P : Program) (w : World) (K : PySem.W.Frag) (mg : Str → Option Value) (base : Heap) (k : Nat) (x : Str) (ps : List Str) (sp : Sp) : Prop :=
  ∃ f fd, FnG P w K mg base k f fd ps sp ∧ mg x = some (.ref f) ∧ PySem.W.keepIn K (.ref f) = true ∧ Binds K fd ps []
section
variable {P : Program} {w : World} {K : PySem.W.Frag} {mg : Str → Option Value} {base : Heap}
/-- a body keeps its promise, no repr under way -/
theorem fnG_of {x : Str} {st : Stmt} {f : Addr} {fd : FuncData} {N ps : List Str} {k : Nat} {sp : Sp} (F : FnP K x st f fd) (S : FnScope N ps (defScope st)) (len : ∀ vs H Q E, sp vs H Q E → vs.length = ps.length)
    (hbody : ∀ (cdv : Value) (A : Around) (outer : List Env) (s : Shared) (H : Hp) (vs : List V) (Q : VK), (A.deeper (envOfC x (defScope st) s.heap.objs.size f cdv)).guards = some [] →
      Room k (A.deeper (envOfC x (defScope st) s.heap.objs.size f cdv)) → sp vs H Q E0 →
      ∃ t, PSs (cxOf CX0 P w K mg base N x (defScope st) f cdv A outer s H E0).nox (defBody st) t ∧ t { nx := fun _ H' => Q .non H', rt := Q } (start N vs) H) :
    FnG P w K mg base (k + 1) f fd ps sp := by
  obtain ⟨oc, od, dV, kV, doc, pm, an, cdv, ct, osl, rfl, lk, hcd, _, _⟩ := F.ex
  constructor
  · exact len
  intro A outer s H args us vs Q hgd hr e0 hb r hsp
  have hl := len _ _ _ _ hsp
  have KX : K.In s.heap := by
    refine e0.mod.kin.keeps ?_
    intro b o e
    exact (e0.bs b o e).1
  have lim : s.heap.NoLimit := by
    refine e0.mod.nolimit.keeps ?_
    intro b o e
    exact (e0.bs b o e).1
  have kinds : ∀ y ∈ ps.zip us, (defScope st).names.lookup y.1 = some .local ∨ ((defScope st).names.lookup y.1 = some .cell ∧ ((cellsFrom (s.heap.objs.size + 1) (defScope st).names []).lookup y.1).isSome = true) := by
    rintro ⟨n, v⟩ hy
    cases S.par n (List.of_mem_zip hy).1 with
    | inl q => exact .inl q
    | inr q => exact .inr ⟨q, PySem.W.cellsFrom_some _ _ _ (.inl q)⟩
  refine codeAny_call_function hr.depth (KX _ _ lk) rfl S.co S.gen rfl
    (PySem.W.codeRec_of KX hcd) (hb _ _ _ _ ?_)
  refine wpAny_newFunctionEnv_cells S.kind kinds ?_
  rintro env rfl s1 x1
  refine ⟨lim.keeps x1.toInCall.keep, codeAny_func ?_⟩
  obtain ⟨t, ht, hq⟩ := hbody cdv A outer s H vs Q hgd (hr.deeper _) hsp
  have ht2 := ht.nox
  have I := inv_start (CX := CX0) (E := E0) (f := f) (cd := cdv) (qual := x) S hr.hd e0 hl r x1
  have done : ∀ {σ' : L2.St} {H' : Hp} {v : V} {u : Value} {s' : Shared}, Inv (cxOf CX0 P w K mg base N x (defScope st) f cdv A outer s H E0) [] σ' H' s' → RelV v u → Q v H' → CE outer P w H s Q u s' := by
    intro σ' H' v u s' J rv q
    exact ⟨v, H', J.os, J.bare, J.base, J.hok, rv, q⟩
  refine wpAny_mono (ht2.run [] s1 (start N vs) H _ I hq) ?_ ?_
  · intro fl s' hs
    cases fl with
    | ret u =>
      obtain ⟨v, σ', H', J, rv, q⟩ := hs
      exact done J rv q
    | next =>
      obtain ⟨σ', H', J, q⟩ := hs
      exact done (v := V.non) (u := Value.none) J rfl q
    | brk => exact hs.choose_spec.choose_spec.2.elim
    | cont => exact hs.choose_spec.choose_spec.2.elim
  · intro e s' hs
    exact hs
theorem cal_mk {x : Str} {st : Stmt} {N ps : List Str} {k : Nat} {sp : Sp} (D : DefP K mg x st) (S : FnScope N ps (defScope st)) (len : ∀ vs H Q E, sp vs H Q E → vs.length = ps.length)
    (bd : ∀ (kV doc pm : Value) (an : Option Addr) (cdv ct : Value) (us : List Value), us.length = ps.length → bindArgs (PySem.W.fnOf x x (defArgs st) (defBody st) (defScope st) .none kV doc pm an cdv ct) ⟨us, []⟩ = pure (ps.zip us))
    (hbody : ∀ (f : Addr) (cdv : Value) (A : Around) (outer : List Env) (s : Shared) (H : Hp) (vs : List V) (Q : VK), (A.deeper (envOfC x (defScope st) s.heap.objs.size f cdv)).guards = some [] →
      Room k (A.deeper (envOfC x (defScope st) s.heap.objs.size f cdv)) → sp vs H Q E0 →
      ∃ t, PSs (cxOf CX0 P w K mg base N x (defScope st) f cdv A outer s H E0).nox (defBody st) t ∧ t { nx := fun _ H' => Q .non H', rt := Q } (start N vs) H) :
    Cal P w K mg base (k + 1) x ps sp := by
  obtain ⟨f, fd, F, g⟩ := D
  exact ⟨f, fd, fnG_of F S len (hbody f), g, F.kp, F.bindsN bd⟩
end
section
variable {X : Cx} {k j : Nat} {ps : List Str} {sp : Sp} {x : Str} {p pos : Pos} {e : Expr} {es : List Expr} {t : TA}
theorem pe_cal (C : Cal X.prog X.w X.K X.mg X.base j x ps sp) (hgd : X.A.guards = some []) (hr : Room k X.A) (ha : PA X (e :: es) t) (hj : j ≤ k := by decide) (hg : Gl X x := by rfl) (hdb : (x == ("__debug__" : Str)) = false := by decide)
    (he : starEach (e :: es) X.env = (false, eval e X.env) :: starEach es X.env := by rfl) (hpl : (backTo pos (starEach es X.env)).any (·.1) = false := by rfl) :
    PE X (.Call (.Name x p) (e :: es) [] pos) (tCall sp [] E0 t) := by
  obtain ⟨f, fd, F, g, kp, b⟩ := C
  constructor
  intro pins s σ H Q I h
  refine wpAny_Call_Name_kw (ld_glob I hg g ?_ hdb)
  refine PySem.W.callWith_K (h₀ := X.base) I.ok.mod.kin kp (thn (ha.run pos pins s σ H _ I h) ?_) he hpl
  rintro us s1 ⟨vs, H1, I1, r, q⟩
  refine ⟨I1.kIn, ?_⟩
  have q2 : sp vs H1 Q E0 := by
    have q3 : sp (vs ++ []) H1 Q E0 := q
    rw [List.append_nil] at q3
    exact q3
  have hl : (us ++ []).length = ps.length := by
    rw [List.append_nil, ← r.length]
    exact F.len _ _ _ _ q2
  have bt := b s1 us I1.kIn hl
  rw [List.append_nil] at bt
  refine wpAny_call (codeAny_mono (F.run X.A X.stack s1 H1 ⟨us, []⟩ us vs Q hgd (hr.mono hj) I1.env0 bt r q2) ?_)
  intro r2 s2 hq
  cases r2 with
  | error e => exact False.elim hq
  | ok fl =>
    cases fl with
    | ret u => exact I1.after hq
    | next => exact False.elim hq
    | brk => exact False.elim hq
    | cont => exact False.elim hq
end
end K24
/-! the law's end for a promise under known guards, the script's bits told -/
namespace K24
open PySem PySem.Spec PyProof.Rows L2
/-- the law's own call, from a heap in which nothing but the script may be tracked -/
theorem endG_core {P : Program} {w : World} {K : PySem.W.Frag} {mg mb : Str → Option Value} {k : Nat} {fa a : Addr} {fd : FuncData} {x : Str} {sp : Sp} {s1 : Shared} {vs : List Value} {H : Hp}
    (KX : K.In s1.heap) (hns : s1.heap.Ns mainGlobals mg) (hb : s1.heap.Ns builtinsNs mb) (hbb : ∀ x : Str, x ≠ "__name__" → mb x = bootBuiltins x) (hlim : s1.heap.NoLimit) (hg : s1.gens = #[])
    (ha : s1.heap.get? a = some { cls := .type "list", data := .seq vs.toArray }) (hr : Room k callerA)
    (F : ∀ base : Heap, K.In base → base.Ns mainGlobals mg → FnG P w K mg base k fa fd [x] sp) (hbind : ∀ (s : Shared) (u : Value), BindsTo s fd ⟨[u], []⟩ [(x, u)])
    (hO : Only H) (hsp : sp [.ref a] H (fun v _ => v = .bl true) E0) (hok : HOk P w H s1.heap) (hA : ∀ b, H b ≠ none → b = a) (hK : H a ≠ none → K.lookup a = none) :
    codeAny (model P w) callerA (.call (.ref fa) ⟨[.ref a], []⟩) (fun r s' => r = .ok (.ret (.bool true)) ∧ OldK s1.heap s'.heap ∧ s'.os = s1.os ∧ AllBare s'.gens) s1 := by
  have free_ : ∀ {b : Addr} {o : Obj} {es : Array DictEntry} {ep : Nat}, s1.heap.get? b = some o → o.data = .dict es ep → H b = none := by
    intro b o es ep e d
    cases q : H b with
    | none => rfl
    | some u =>
      have e' := hA b (by rw [q]; exact fun z => nomatch z)
      subst e'
      rw [ha] at e
      cases e
      cases (show Data.seq vs.toArray _ = Data.dict es ep from d)
  have nsK : ∀ {b : Addr} {m : Str → Option Value}, s1.heap.Ns b m → (hidT s1.heap H).Ns b m := by
    rintro b m ⟨o, es, ep, e, d, r⟩
    exact ⟨o, es, ep, hidT_get e (free_ e d), d, r⟩
  have inK : K.In (hidT s1.heap H) := by
    intro b o e
    refine hidT_get (KX b o e) ?_
    cases q : H b with
    | none => rfl
    | some u =>
      have e' := hA b (by rw [q]; exact fun z => nomatch z)
      subst e'
      rw [hK (by rw [q]; exact fun z => nomatch z)] at e
      cases e
  have lim2 : (hidT s1.heap H).NoLimit := by
    obtain ⟨mc, h1, h2⟩ := hlim
    exact ⟨mc, nsK h1, h2⟩
  have e0 : Env0 P w K mg (hidT s1.heap H) callerA [] s1 H := by
    refine ⟨rfl, ⟨inK, nsK hns, ⟨mb, nsK hb, hbb⟩, lim2⟩, fun b o e => of_hidT e, Nat.le_of_eq (hidT_size _ _), trivial, fun b z => ?_, hok, .of_eq hg⟩
    exact absurd (show b ∈ ([] : List Addr) from z) List.not_mem_nil
  refine codeAny_mono ((F _ inK (nsK hns)).run callerA [] s1 H ⟨[.ref a], []⟩ [.ref a] [.ref a] _ rfl hr e0 (hbind s1 (.ref a)) (.cons rfl .nil) hsp) ?_
  intro r s' h
  match r, h with
  | .error e, h => exact False.elim h
  | .ok .next, h => exact False.elim h
  | .ok .brk, h => exact False.elim h
  | .ok .cont, h => exact False.elim h
  | .ok (.ret u), h =>
    obtain ⟨v, H', os, bare, un, hok', r', q⟩ := h
    have q' : v = .bl true := q
    subst q'
    have eu : u = Value.bool true := r'
    subst eu
    refine ⟨rfl, OldK.of_keep ?_, os, bare⟩
    intro b o e
    cases q : H b with
    | none => exact un.keep b o e q (fun z => absurd (show b ∈ ([] : List Addr) from z) List.not_mem_nil) List.not_mem_nil
    | some u =>
      rcases hO b with z | ⟨ob, xs, z⟩
      · rw [q] at z
        cases z
      · obtain ⟨e1, _⟩ := hok b _ z
        obtain ⟨e2, _⟩ := hok' b _ (un.frzs b ob _ z)
        rw [e] at e1
        cases e1
        exact e2
theorem endG_call {P : Program} {w : World} {K : PySem.W.Frag} {mg mb : Str → Option Value} {k : Nat} {fa a : Addr} {fd : FuncData} {x : Str} {sp : Sp} {s1 : Shared} {vs : List Value} {ns : List Int}
    (KX : K.In s1.heap) (hns : s1.heap.Ns mainGlobals mg) (hb : s1.heap.Ns builtinsNs mb) (hbb : ∀ x : Str, x ≠ "__name__" → mb x = bootBuiltins x) (hlim : s1.heap.NoLimit) (hg : s1.gens = #[])
    (ha : s1.heap.get? a = some { cls := .type "list", data := .seq vs.toArray }) (hi : IntsAre vs ns) (hl : ns.length ≤ sizeLine) (hr : Room k callerA)
    (F : ∀ base : Heap, K.In base → base.Ns mainGlobals mg → FnG P w K mg base k fa fd [x] sp) (hbind : ∀ (s : Shared) (u : Value), BindsTo s fd ⟨[u], []⟩ [(x, u)])
    (hsp : ∀ H : Hp, Only H → SqL K H a (ns.map V.int) → sp [.ref a] H (fun v _ => v = .bl true) E0) :
    codeAny (model P w) callerA (.call (.ref fa) ⟨[.ref a], []⟩) (fun r s' => r = .ok (.ret (.bool true)) ∧ OldK s1.heap s'.heap ∧ s'.os = s1.os ∧ AllBare s'.gens) s1 := by
  have rv := vals_ints hi
  have lenV := hi.length
  cases hk : K.lookup a with
  | some o =>
    have e := KX a o hk
    rw [ha] at e
    cases e
    have hO : Only (fun _ => none) := fun _ => .inl rfl
    have hS : SqL K (fun _ => none) a (ns.map V.int) := .inr ⟨_, vs.toArray, _, hk, rfl, rfl, rfl, by rw [List.size_toArray, lenV]; exact hl, by simpa using rv⟩
    exact endG_core KX hns hb hbb hlim hg ha hr F hbind hO (hsp _ hO hS) (fun b u z => nomatch (show (none : Option HO) = some u from z)) (fun b z => absurd rfl z) fun z => absurd rfl z
  | none =>
    let ob : Obj := { cls := .type "list", data := .seq vs.toArray }
    let H : Hp := upd (fun _ => none) a (.frz ob (.lst (ns.map V.int)))
    have at_ : H a = some (.frz ob (.lst (ns.map V.int))) := upd_same
    have off : ∀ {b : Addr}, b ≠ a → H b = none := fun n => upd_ne n
    have hO : Only H := by
      intro b
      by_cases e : b = a
      · subst e
        exact .inr ⟨_, _, at_⟩
      · exact .inl (off e)
    refine endG_core KX hns hb hbb hlim hg ha hr F hbind hO (hsp H hO (.inl (.inr ⟨ob, at_⟩))) ?_ ?_ fun _ => hk
    · intro b u z
      by_cases e : b = a
      · subst e
        rw [at_] at z
        cases z
        exact ⟨ha, by rw [List.length_map]; exact hl, vs, _, rv, ha⟩
      · rw [off e] at z
        cases z
    · intro b z
      by_cases e : b = a
      · exact e
      · exact absurd (off e) z
theorem walkG {l : PySem.W.OpenLaw} {n k : Nat} {q : Program} {loose : List Str} {XP : (Str → Option Value) → Heap → Prop} {YP : World → Heap → Prop} {d : DefRec} {x : Str} (hn : l.most = some n) (hn2 : n ≤ sizeLine) (hdf : d.params.defaults = []) (hr : Room k callerA)
    (F : ∀ (w : World) (mg : Str → Option Value) (fa : Addr) (h : Heap), YP w h → h.Ns mainGlobals mg → mg d.name = some (.ref fa) →
      ∃ (K : PySem.W.Frag) (fd : FuncData) (sp : Sp), K.In h ∧ (∀ (s : Shared) (u : Value), BindsTo s fd ⟨[u], []⟩ [(x, u)]) ∧
        (∀ (H : Hp) (a : Addr) (ns : List Int), ns.length ≤ n → (∀ z ∈ ns, Builtin.Int.intBits z ≤ 1048576) → Only H → SqL K H a (ns.map V.int) → sp [.ref a] H (fun v _ => v = .bl true) E0) ∧
        ∀ base : Heap, K.In base → base.Ns mainGlobals mg → FnG l.prog w K mg base k fa fd [x] sp) :
    PySem.W.WalkO q loose XP YP l.row.toRowW d [] (fun f vs => PySem.call f vs) := by
  refine Att.attach_callB hn hdf ?_
  intro w s0 s1 mg mb fa o pm cd doc a vs ns G Y ho hd hcd hmg hobj hints hlen hbits hg
  obtain ⟨K, fd, sp, KX, hb, hsp, hF⟩ := F w mg fa _ Y G.T.g hmg
  exact endG_call KX G.T.g G.T.b G.T.builtins G.T.nolimit hg hobj hints (Nat.le_trans hlen hn2) hr hF hb fun H hO hS => hsp H a ns hlen hbits hO hS
end K24
/-! rows and tables as they stand in the heap; what changes and what stays; comprehensions -/
namespace K24
open PySem PySem.Spec PyProof.Rows L2
/-! ### what stays -/
/-- the objects at l are lists -/
def Lq (l : List Addr) (H : Hp) : Prop := ∀ b ∈ l, ∃ xs, H b = some (.lst xs)
theorem lq_nil {H : Hp} : Lq [] H := fun b hb => absurd hb List.not_mem_nil
theorem lq_one {H : Hp} {a : Addr} {xs : List V} (h : H a = some (.lst xs)) : Lq [a] H := fun b hb => by
  have e : b = a := List.mem_singleton.mp hb
  subst e
  exact ⟨xs, h⟩
/-- all but the lists at l is as it was -/
structure Go (l : List Addr) (H H' : Hp) : Prop where
  a : Lq l H
  c : ∀ b o, b ∉ l → H b = some o → H' b = some o
  z : Lq l H'
section
variable {l : List Addr} {H H' H1 H2 : Hp} {p q : Addr} {o : HO} {v : V} {m n : Nat} {g : Nat → Int} {f : Nat → Nat → Int}
theorem Go.refl (h : Lq l H) : Go l H H := ⟨h, fun _ _ _ e => e, h⟩
theorem go0 : Go [] H H := Go.refl lq_nil
theorem Go.trans (x : Go l H H1) (y : Go l H1 H2) : Go l H H2 := ⟨x.a, fun b o n e => y.c b o n (x.c b o n e), y.z⟩
theorem Go.keep (x : Go l H H') (n : p ∉ l) (e : H p = some o) : H' p = some o := x.c p o n e
theorem Go.tup (x : Go l H H') {xs : List V} (e : H p = some (.tup xs)) : H' p = some (.tup xs) := by
  refine x.c p _ (fun hp => ?_) e
  obtain ⟨ys, e2⟩ := x.a p hp
  rw [e] at e2
  cases e2
theorem Go.fresh (x : Go l H H') (e : H' p = none) : H p = none := by
  cases q : H p with
  | none => rfl
  | some u =>
    by_cases hp : p ∈ l
    · obtain ⟨ys, e2⟩ := x.z p hp
      rw [e] at e2
      cases e2
    · rw [x.c p u hp q] at e
      cases e
theorem Lq.ne (h : Lq l H) (e : H p = none) : p ∉ l := fun hp => by
  obtain ⟨ys, e2⟩ := h p hp
  rw [e] at e2
  cases e2
theorem Lq.up (h : Lq l H) (e : H p = none) : Lq l (upd H p o) := fun b hb => by
  obtain ⟨ys, e2⟩ := h b hb
  exact ⟨ys, by rw [upd_ne (ne_of_none e2 e)]; exact e2⟩
theorem Go.new (h : Lq l H) (e : H p = none) : Go l H (upd H p o) := ⟨h, fun b u _ hb => by rw [upd_ne (ne_of_none hb e)]; exact hb, h.up e⟩
theorem go_new (e : H p = none) : Go [] H (upd H p o) := Go.new lq_nil e
/-- a store to an object that H does not know -/
theorem Go.mut (x : Go l H H') (e : H p = none) : Go l H (upd H' p o) := by
  refine ⟨x.a, fun b u n hb => ?_, fun b hb => ?_⟩
  · rw [upd_ne (ne_of_none hb e)]
    exact x.c b u n hb
  · obtain ⟨ys, e2⟩ := x.a b hb
    obtain ⟨zs, e3⟩ := x.z b hb
    exact ⟨zs, by rw [upd_ne (ne_of_none e2 e)]; exact e3⟩
theorem Go.up (x : Go [] H H') (h : Lq l H) : Go l H H' := by
  refine ⟨h, fun b o _ e => x.c b o List.not_mem_nil e, fun b hb => ?_⟩
  obtain ⟨ys, e2⟩ := h b hb
  exact ⟨ys, x.c b _ List.not_mem_nil e2⟩
theorem Go.snew (x : Go l H H') (e : H' p = none) : Go l H (upd H' p o) := x.trans (Go.new x.z e)
end
/-! ### rows, tables -/
def rowV (n : Nat) (g : Nat → Int) : List V := (List.range n).map fun j => V.int (g j)
theorem rowV_len (n : Nat) (g : Nat → Int) : (rowV n g).length = n := by
  unfold rowV
  rw [List.length_map, List.length_range]
theorem rowV_get {n j : Nat} {g : Nat → Int} (h : j < n) : (rowV n g)[j]? = some (.int (g j)) := by
  unfold rowV
  rw [List.getElem?_map, List.getElem?_range h]
  rfl
theorem rowV_at {n j : Nat} {g : Nat → Int} {v : V} (h : (rowV n g)[j]? = some v) : j < n ∧ v = .int (g j) := by
  have lt : j < n := by
    have q := (List.getElem?_eq_some_iff.mp h).1
    rw [rowV_len] at q
    exact q
  exact ⟨lt, Option.some.inj (h.symm.trans (rowV_get lt))⟩
theorem rowV_of {xs : List V} {n : Nat} {g : Nat → Int} (hl : xs.length = n) (h : ∀ (j : Nat) (v : V), xs[j]? = some v → v = .int (g j)) : xs = rowV n g := by
  apply List.ext_getElem?
  intro j
  by_cases hj : j < n
  · rw [rowV_get hj]
    have hx : j < xs.length := by omega
    rw [List.getElem?_eq_getElem hx]
    exact congrArg some (h j _ (List.getElem?_eq_getElem hx))
  · rw [List.getElem?_eq_none (by omega), List.getElem?_eq_none (by rw [rowV_len]; omega)]
theorem rowV_congr {n : Nat} {g g' : Nat → Int} (h : ∀ j, j < n → g j = g' j) : rowV n g = rowV n g' :=
  rowV_of (rowV_len n g) fun j v e => by
    obtain ⟨lt, e2⟩ := rowV_at e
    rw [e2, h j lt]
theorem rowV_succ (n : Nat) (g : Nat → Int) : rowV (n + 1) g = rowV n g ++ [.int (g n)] := by
  unfold rowV
  rw [List.range_succ, List.map_append]
  rfl
theorem rowV_ints (n : Nat) (g : Nat → Int) : rowV n g = ((List.range n).map g).map V.int := by
  unfold rowV
  rw [List.map_map]
  rfl
/-- a tuple, a list of n ints -/
def RowT (H : Hp) (v : V) (n : Nat) (g : Nat → Int) : Prop := ∃ a, v = .ref a ∧ H a = some (.tup (rowV n g))
def RowL (H : Hp) (v : V) (n : Nat) (g : Nat → Int) : Prop := ∃ a, v = .ref a ∧ H a = some (.lst (rowV n g))
/-- a tuple of m rows of n ints -/
def TabT (H : Hp) (v : V) (m n : Nat) (f : Nat → Nat → Int) : Prop := ∃ a vs, v = .ref a ∧ H a = some (.tup vs) ∧ vs.length = m ∧ ∀ (i : Nat) (x : V), vs[i]? = some x → RowT H x n (f i)
section
variable {l : List Addr} {H H' H1 H2 : Hp} {p q : Addr} {o : HO} {v : V} {m n : Nat} {g g' : Nat → Int} {f f' : Nat → Nat → Int}
theorem Go.row (x : Go l H H') (h : RowT H v n g) : RowT H' v n g := by
  obtain ⟨a, e, h⟩ := h
  exact ⟨a, e, x.tup h⟩
theorem Go.tab (x : Go l H H') (h : TabT H v m n f) : TabT H' v m n f := by
  obtain ⟨a, vs, e, h, hl, k⟩ := h
  exact ⟨a, vs, e, x.tup h, hl, fun i y hy => x.row (k i y hy)⟩
theorem RowT.congr (h : RowT H v n g) (e : ∀ j, j < n → g j = g' j) : RowT H v n g' := by
  obtain ⟨a, ev, h⟩ := h
  exact ⟨a, ev, by rw [← rowV_congr e]; exact h⟩
theorem TabT.congr (h : TabT H v m n f) (e : ∀ i j, i < m → j < n → f i j = f' i j) : TabT H v m n f' := by
  obtain ⟨a, vs, ev, h, hl, k⟩ := h
  refine ⟨a, vs, ev, h, hl, fun i y hy => (k i y hy).congr fun j hj => e i j ?_ hj⟩
  rw [← hl]
  exact (List.getElem?_eq_some_iff.mp hy).1
theorem row_new : RowT (upd H p (.tup (rowV n g))) (.ref p) n g := ⟨p, rfl, upd_same⟩
theorem tab_new {vs : List V} (hl : vs.length = m) (k : ∀ (i : Nat) (x : V), vs[i]? = some x → RowT H x n (f i)) (e : H p = none) : TabT (upd H p (.tup vs)) (.ref p) m n f :=
  ⟨p, vs, rfl, upd_same, hl, fun i x hx => (go_new e).row (k i x hx)⟩
theorem TabT.at_ (h : TabT H (.ref p) m n f) {i : Nat} (hi : i < m) : ∃ vs x, H p = some (.tup vs) ∧ vs.length = m ∧ vs[i]? = some x ∧ RowT H x n (f i) := by
  obtain ⟨a, vs, e, h, hl, k⟩ := h
  cases e
  have hx : i < vs.length := by omega
  exact ⟨vs, vs[i], h, hl, List.getElem?_eq_getElem hx, k i _ (List.getElem?_eq_getElem hx)⟩
/-- the data that stand there -/
def rowD (n : Nat) (g : Nat → Int) : PyData := .tuple ((List.range n).map fun j => .int (g j))
def tabD (m n : Nat) (f : Nat → Nat → Int) : PyData := .tuple ((List.range m).map fun i => rowD n (f i))
theorem dpAll_of {K : PySem.W.Frag} : ∀ (vs : List V) (ds : List PyData), vs.length = ds.length → (∀ (i : Nat) (v : V) (d : PyData), vs[i]? = some v → ds[i]? = some d → Dp K H v d) → DpAll K H vs ds
  | [], [], _, _ => .nil
  | [], _ :: _, h, _ => by cases h
  | _ :: _, [], h, _ => by cases h
  | v :: vs, d :: ds, h, k => .cons (k 0 v d rfl rfl) (dpAll_of vs ds (Nat.succ.inj h) fun i v d hv hd => k (i + 1) v d hv hd)
theorem RowT.dp {K : PySem.W.Frag} (h : RowT H v n g) : Dp K H v (rowD n g) := by
  obtain ⟨a, rfl, h⟩ := h
  refine .tup (SqT.of h) (dpAll_of _ _ (by rw [rowV_len, List.length_map, List.length_range]) fun i v d hv hd => ?_)
  obtain ⟨lt, e⟩ := rowV_at hv
  rw [List.getElem?_map, List.getElem?_range lt] at hd
  have ed : PyData.int (g i) = d := Option.some.inj hd
  rw [e, ← ed]
  exact .int _
theorem TabT.dp {K : PySem.W.Frag} (h : TabT H v m n f) : Dp K H v (tabD m n f) := by
  obtain ⟨a, vs, rfl, h, hl, k⟩ := h
  refine .tup (SqT.of h) (dpAll_of _ _ (by rw [hl, List.length_map, List.length_range]) fun i v d hv hd => ?_)
  have lt : i < m := by
    rw [← hl]
    exact (List.getElem?_eq_some_iff.mp hv).1
  rw [List.getElem?_map, List.getElem?_range lt] at hd
  have ed : rowD n (f i) = d := Option.some.inj hd
  rw [← ed]
  exact (k i v hv).dp
end
/-! ### comprehensions without tests -/
section
variable {J : It} {n : Nat} {G : Hp → Prop} {te : TE} {vs : List Nat} {σ : L2.St} {H1 : Hp} {D : Addr} {Qd : Hp → Prop} {l : List Addr}
/-- the new list so far: I the word of the turn, E what holds of each item -/
def LcP (l : List Addr) (H1 : Hp) (D : Addr) (I : Nat → Hp → Prop) (E : Nat → V → Hp → Prop) (i : Nat) (H : Hp) : Prop :=
  Go l H1 H ∧ I i H ∧ ∃ acc, H D = some (.lst acc) ∧ acc.length = i ∧ ∀ (j : Nat) (v : V), acc[j]? = some v → E j v H
/-- what I and E must bear -/
structure LcS (l : List Addr) (D : Addr) (I : Nat → Hp → Prop) (E : Nat → V → Hp → Prop) : Prop where
  i : ∀ i H o, I i H → I i (upd H D o)
  e : ∀ i v H H', E i v H → Go l H H' → E i v H'
  d : ∀ i v H o xs, E i v H → H D = some (.lst xs) → E i v (upd H D o)
theorem lcP_next {I : Nat → Hp → Prop} {E : Nat → V → Hp → Prop} (S : LcS l D I E) (hD : H1 D = none) {i : Nat} {H H4 : Hp} {y : V} (hi : i < 1000) (p : LcP l H1 D I E i H) (g : Go l H H4) (q : I (i + 1) H4) (e : E i y H4) :
    ∃ acc, H4 D = some (.lst acc) ∧ acc.length < sizeLine ∧ LcP l H1 D I E (i + 1) (upd H4 D (.lst (acc ++ [y]))) := by
  obtain ⟨g1, _, acc, h1, h2, h3⟩ := p
  have nl : D ∉ l := g1.a.ne hD
  have hd := g.keep nl h1
  refine ⟨acc, hd, by rw [h2]; exact small1000 (by omega), (g1.trans g).mut hD, S.i _ _ _ q, acc ++ [y], upd_same, by rw [List.length_append, h2]; rfl, fun j v hj => ?_⟩
  refine S.d _ _ _ _ acc ?_ hd
  by_cases hja : j < acc.length
  · rw [List.getElem?_append_left hja] at hj
    exact S.e _ _ _ _ (h3 j v hj) g
  · rw [List.getElem?_append_right (by omega)] at hj
    have z : j - acc.length = 0 := by
      have q := (List.getElem?_eq_some_iff.mp hj).1
      rw [List.length_singleton] at q
      omega
    have ej : j = i := by omega
    rw [z] at hj
    have ev : y = v := Option.some.inj hj
    rw [← ev, ej]
    exact e
/-- target a name, over single values -/
theorem lcND {Y : Nat → Hp → V → Hp → Prop} (w : Walk J n G Y) {j : Nat} (I : Nat → Hp → Prop) (E : Nat → V → Hp → Prop) (hD : H1 D = none) (hl : Lq l H1) (hn : n ≤ 1000) (S : LcS l D I E) (h0 : I 0 H1) (hG : ∀ i H, Go l H1 H → I i H → G H)
    (hs : ∀ i x H H', i < n → Go l H1 H → I i H → (∃ xs, H D = some (.lst xs)) → Y i H x H' → wipe ((wipe σ vs).set j (some x)) vs = wipe σ vs ∧ ∀ Q : VK, (∀ y H4, Go l H H4 → I (i + 1) H4 → E i y H4 → Q y H4) → te ((wipe σ vs).set j (some x)) H' Q)
    (hd : ∀ H acc, Go l H1 H → I n H → H D = some (.lst acc) → acc.length = n → (∀ (i : Nat) (v : V), acc[i]? = some v → E i v H) → Qd H) :
    ∃ W : Nat → Nat → Hp → Prop, (∃ m, W 0 m (upd H1 D (.lst []))) ∧ ∀ i m H, W i m H →
      (J.stop i H ∧ Qd H) ∨ (J.go i H ∧ ∃ Nx : Hp → Prop, (∀ H', Nx H' → ∃ m', m' < m ∧ W (i + 1) m' H') ∧ ∀ x H', J.yld i H x H' → gName j x (wipe σ vs) H' fun σ2 H2 => wipe σ2 vs = wipe σ vs ∧ tYes σ2 H2 fun b H3 =>
        if b = true then te σ2 H3 fun y H4 => ∃ acc, H4 D = some (.lst acc) ∧ acc.length < sizeLine ∧ Nx (upd H4 D (.lst (acc ++ [y]))) else Nx H3) := by
  refine lc_it w (LcP l H1 D I E) ⟨Go.new hl hD, S.i _ _ _ h0, [], upd_same, rfl, fun j v h => by cases h⟩ (fun i H _ p => hG i H p.1 p.2.1) ?_ ?_
  · intro i x H H' hi p y
    obtain ⟨acc, ha, _⟩ := p.2.2
    obtain ⟨w1, w2⟩ := hs i x H H' hi p.1 p.2.1 ⟨acc, ha⟩ y
    refine ⟨w1, ?_⟩
    show te ((wipe σ vs).set j (some x)) H' _
    exact w2 _ fun y H4 g q e => lcP_next S hD (by omega) p g q e
  · rintro H ⟨g, q, acc, h1, h2, h3⟩
    exact hd H acc g q h1 h2 h3
/-- the same, the new list not looked at -/
theorem lcN {Y : Nat → Hp → V → Hp → Prop} (w : Walk J n G Y) {j : Nat} (I : Nat → Hp → Prop) (E : Nat → V → Hp → Prop) (hD : H1 D = none) (hl : Lq l H1) (hn : n ≤ 1000) (S : LcS l D I E) (h0 : I 0 H1) (hG : ∀ i H, Go l H1 H → I i H → G H)
    (hs : ∀ i x H H', i < n → Go l H1 H → I i H → Y i H x H' → wipe ((wipe σ vs).set j (some x)) vs = wipe σ vs ∧ ∀ Q : VK, (∀ y H4, Go l H H4 → I (i + 1) H4 → E i y H4 → Q y H4) → te ((wipe σ vs).set j (some x)) H' Q)
    (hd : ∀ H acc, Go l H1 H → I n H → H D = some (.lst acc) → acc.length = n → (∀ (i : Nat) (v : V), acc[i]? = some v → E i v H) → Qd H) :
    ∃ W : Nat → Nat → Hp → Prop, (∃ m, W 0 m (upd H1 D (.lst []))) ∧ ∀ i m H, W i m H →
      (J.stop i H ∧ Qd H) ∨ (J.go i H ∧ ∃ Nx : Hp → Prop, (∀ H', Nx H' → ∃ m', m' < m ∧ W (i + 1) m' H') ∧ ∀ x H', J.yld i H x H' → gName j x (wipe σ vs) H' fun σ2 H2 => wipe σ2 vs = wipe σ vs ∧ tYes σ2 H2 fun b H3 =>
        if b = true then te σ2 H3 fun y H4 => ∃ acc, H4 D = some (.lst acc) ∧ acc.length < sizeLine ∧ Nx (upd H4 D (.lst (acc ++ [y]))) else Nx H3) := by
  exact lcND w I E hD hl hn S h0 hG (fun i x H H' a b c _ d => hs i x H H' a b c d) hd
/-- target a pair of names, over pairs -/
theorem lcP2 {K : PySem.W.Frag} {xs ys : Nat → Option V} (w : Walk J n G (YPair xs ys)) {j1 j2 : Nat} (I : Nat → Hp → Prop) (E : Nat → V → Hp → Prop) (hD : H1 D = none) (hl : Lq l H1) (hn : n ≤ 1000) (S : LcS l D I E) (h0 : I 0 H1) (hG : ∀ i H, Go l H1 H → I i H → G H)
    (hs : ∀ i x y H H', i < n → Go l H1 H → I i H → xs i = some x → ys i = some y → Go l H H' → wipe (((wipe σ vs).set j1 (some x)).set j2 (some y)) vs = wipe σ vs ∧
      ∀ Q : VK, (∀ y H4, Go l H' H4 → I (i + 1) H4 → E i y H4 → Q y H4) → te (((wipe σ vs).set j1 (some x)).set j2 (some y)) H' Q)
    (hd : ∀ H acc, Go l H1 H → I n H → H D = some (.lst acc) → acc.length = n → (∀ (i : Nat) (v : V), acc[i]? = some v → E i v H) → Qd H) :
    ∃ W : Nat → Nat → Hp → Prop, (∃ m, W 0 m (upd H1 D (.lst []))) ∧ ∀ i m H, W i m H →
      (J.stop i H ∧ Qd H) ∨ (J.go i H ∧ ∃ Nx : Hp → Prop, (∀ H', Nx H' → ∃ m', m' < m ∧ W (i + 1) m' H') ∧ ∀ x H', J.yld i H x H' → gTup K 2 (gCons (gName j1) (gCons (gName j2) gNil)) x (wipe σ vs) H' fun σ2 H2 => wipe σ2 vs = wipe σ vs ∧ tYes σ2 H2 fun b H3 =>
        if b = true then te σ2 H3 fun y H4 => ∃ acc, H4 D = some (.lst acc) ∧ acc.length < sizeLine ∧ Nx (upd H4 D (.lst (acc ++ [y]))) else Nx H3) := by
  refine lc_it w (LcP l H1 D I E) ⟨Go.new hl hD, S.i _ _ _ h0, [], upd_same, rfl, fun j v h => by cases h⟩ (fun i H _ p => hG i H p.1 p.2.1) ?_ ?_
  · rintro i v H H' hi p ⟨T, x, y, rfl, nT, rfl, ex, ey⟩
    have gT : Go l H (upd H T (.tup [x, y])) := Go.new p.1.z nT
    obtain ⟨w1, w2⟩ := hs i x y H _ hi p.1 p.2.1 ex ey gT
    refine ⟨T, [x, y], rfl, SqT.of upd_same, rfl, x, [y], rfl, y, [], rfl, rfl, w1, ?_⟩
    show te (((wipe σ vs).set j1 (some x)).set j2 (some y)) _ _
    exact w2 _ fun y H4 g q e => lcP_next S hD (by omega) p (gT.trans g) q e
  · rintro H ⟨g, q, acc, h1, h2, h3⟩
    exact hd H acc g q h1 h2 h3
end
/-! ### the kinds of items -/
section
variable {l : List Addr} {D : Addr}
theorem lcs_val {I : Nat → Hp → Prop} {E : Nat → V → Prop} (hI : ∀ i H o, I i H → I i (upd H D o)) : LcS l D I (fun i v _ => E i v) := ⟨hI, fun _ _ _ _ e _ => e, fun _ _ _ _ _ e _ => e⟩
theorem lcs_row {I : Nat → Hp → Prop} {n : Nat} {f : Nat → Nat → Int} (hI : ∀ i H o, I i H → I i (upd H D o)) : LcS l D I (fun i v H => RowT H v n (f i)) := by
  refine ⟨hI, fun i v H H' e g => g.row e, fun i v H o xs e h => ?_⟩
  obtain ⟨a, ev, ha⟩ := e
  exact ⟨a, ev, by rw [upd_ne (ne_of ha h (by intro z; cases z))]; exact ha⟩
theorem all_true {acc : List V} {n : Nat} (hl : acc.length = n) (h : ∀ (i : Nat) (v : V), acc[i]? = some v → v = .bl true) : acc = (List.replicate n true).map V.bl := by
  apply List.ext_getElem?
  intro j
  rw [List.getElem?_map, List.getElem?_replicate]
  by_cases hj : j < n
  · have hx : j < acc.length := by omega
    rw [if_pos hj, List.getElem?_eq_getElem hx, h j _ (List.getElem?_eq_getElem hx)]
    rfl
  · rw [if_neg hj, List.getElem?_eq_none (by omega)]
    rfl
theorem all_id (n : Nat) : (List.replicate n true).all id = true := by
  rw [List.all_eq_true]
  intro x hx
  exact (List.mem_replicate.mp hx).2
/-- ints of which something is known -/
def intOf (xs : List V) (j : Nat) : Int := match xs[j]? with
  | some (.int z) => z
  | _ => 0
theorem ints_some {acc : List V} {n : Nat} {R : Nat → Int → Prop} (hl : acc.length = n) (h : ∀ (i : Nat) (v : V), acc[i]? = some v → ∃ z, v = .int z ∧ R i z) : acc = rowV n (intOf acc) ∧ ∀ i, i < n → R i (intOf acc i) := by
  refine ⟨rowV_of hl fun j v e => ?_, fun i hi => ?_⟩
  · obtain ⟨z, rfl, _⟩ := h j v e
    unfold intOf
    rw [e]
  · have hx : i < acc.length := by omega
    obtain ⟨z, ez, hr⟩ := h i _ (List.getElem?_eq_getElem hx)
    have e : intOf acc i = z := by
      unfold intOf
      rw [List.getElem?_eq_getElem hx, ez]
    rw [e]
    exact hr
end
/-! ### more walks, lists of rows that grow -/
theorem walk_range0 {n : Nat} : Walk (Itr 0 n) n (fun _ => True) (YFn fun i => .int ((i : Nat) : Int)) :=
  walk_range.mono (fun _ h => h) fun i H x H' _ _ y => ⟨y.1, y.2.trans (congrArg V.int (Int.zero_add _))⟩
section
variable {l : List Addr} {H H' : Hp} {D : Addr} {i n : Nat} {f : Nat → Nat → Int}
def AccR (H : Hp) (D : Addr) (i n : Nat) (f : Nat → Nat → Int) : Prop := ∃ acc, H D = some (.lst acc) ∧ acc.length = i ∧ ∀ (j : Nat) (x : V), acc[j]? = some x → RowT H x n (f j)
theorem accR_nil : AccR (upd H D (.lst [])) D 0 n f := ⟨[], upd_same, rfl, fun j x h => by cases h⟩
theorem AccR.go (h : AccR H D i n f) (g : Go l H H') (nD : D ∉ l) : AccR H' D i n f := by
  obtain ⟨acc, h1, h2, h3⟩ := h
  exact ⟨acc, g.keep nD h1, h2, fun j x hx => g.row (h3 j x hx)⟩
theorem row_keep {v : V} {g : Nat → Int} {xs ys : List V} (h : RowT H v n g) (hD : H D = some (.lst xs)) : RowT (upd H D (.lst ys)) v n g := by
  obtain ⟨a, ev, ha⟩ := h
  exact ⟨a, ev, by rw [upd_ne (ne_of ha hD (by intro z; cases z))]; exact ha⟩
theorem last_at_ {acc : List V} {v x : V} {j : Nat} (hj : ¬ j < acc.length) (hx : (acc ++ [v])[j]? = some x) : j = acc.length ∧ v = x := by
  rw [List.getElem?_append_right (Nat.le_of_not_lt hj)] at hx
  have q := (List.getElem?_eq_some_iff.mp hx).1
  rw [List.length_singleton] at q
  have z : j - acc.length = 0 := by omega
  rw [z] at hx
  exact ⟨by omega, Option.some.inj hx⟩
theorem accR_push {acc : List V} {v : V} (hD : H D = some (.lst acc)) (hl : acc.length = i) (hk : ∀ (j : Nat) (x : V), acc[j]? = some x → RowT H x n (f j)) (hv : RowT H v n (f i)) : AccR (upd H D (.lst (acc ++ [v]))) D (i + 1) n f := by
  refine ⟨acc ++ [v], upd_same, by rw [List.length_append, hl]; rfl, fun j x hx => ?_⟩
  refine row_keep ?_ hD
  by_cases hj : j < acc.length
  · rw [List.getElem?_append_left hj] at hx
    exact hk j x hx
  · obtain ⟨e1, e2⟩ := last_at_ hj hx
    rw [← e2, show j = i by omega]
    exact hv
theorem accR_tab {p : Addr} (h : AccR H D i n f) (np : H p = none) {acc : List V} (hD : H D = some (.lst acc)) : TabT (upd H p (.tup acc)) (.ref p) i n f := by
  obtain ⟨acc', h1, h2, h3⟩ := h
  rw [hD] at h1
  cases h1
  exact tab_new h2 h3 np
end
/-! ### slices of rows -/
theorem cut_one (xs : List V) : cutV xs (some 1) none = xs.drop 1 := by
  unfold cutV
  rw [show HT.sIx xs.length 0 (some 1) = min 1 xs.length from HT.sIx_nat xs.length 0 1, HT.sIx_none]
  cases xs with
  | nil => rfl
  | cons x r =>
    have e : min 1 (x :: r).length = 1 := by rw [List.length_cons]; omega
    rw [e]
    exact List.take_of_length_le (by rw [List.length_drop]; exact Nat.le_refl _)
theorem rowV_drop (n : Nat) (g : Nat → Int) : (rowV n g).drop 1 = rowV (n - 1) (fun j => g (j + 1)) := by
  refine rowV_of (by rw [List.length_drop, rowV_len]) fun j v h => ?_
  rw [List.getElem?_drop, Nat.add_comm] at h
  exact (rowV_at h).2
theorem not_whole {xs : List V} (h : xs ≠ []) : ¬ (HT.sIx xs.length 0 (some 1) = 0 ∧ HT.sIx xs.length xs.length none = xs.length) := by
  rintro ⟨h1, _⟩
  rw [show HT.sIx xs.length 0 (some 1) = min 1 xs.length from HT.sIx_nat xs.length 0 1] at h1
  have h2 : xs.length ≠ 0 := fun z => h (List.eq_nil_of_length_eq_zero z)
  omega
theorem rowV_ne {n : Nat} {g : Nat → Int} (h : 1 ≤ n) : rowV n g ≠ [] := fun z => by
  have e := congrArg List.length z
  rw [rowV_len] at e
  have e2 : n = 0 := e
  omega
/-- t[1:] of a row of one int or more: a new row -/
theorem slice_one {K : PySem.W.Frag} {H : Hp} {Q : VK} {a : Addr} {n : Nat} {g : Nat → Int} (ha : H a = some (.tup (rowV n g))) (hn : 1 ≤ n) (q : ∀ p, H p = none → Q (.ref p) (upd H p (.tup (rowV (n - 1) (fun j => g (j + 1)))))) : rSlA K (.ref a) (some 1) none H Q := by
  refine ⟨a, rowV n g, rfl, SqT.of ha, fun z => absurd z (not_whole (rowV_ne hn)), fun _ p np => ?_⟩
  rw [cut_one, rowV_drop]
  exact q p np
/-! ### the rules, the written part named by K (so they stand within comprehensions, too) -/
section
variable {X : Cx} (K : PySem.W.Frag)
theorem ix_tupK (h : X.K = K := by rfl) : IxR X (rIxT K) := by
  subst h
  exact ix_tup
theorem ix_listK (h : X.K = K := by rfl) : IxR X (rIxL K) := by
  subst h
  exact ix_list
def rTupOf (K : PySem.W.Frag) : List V → Hp → VK → Prop := fun xs H Q => ∃ p ys, xs = [.ref p] ∧ ((SqL K H p ys ∧ ∀ l, H l = none → Q (.ref l) (upd H l (.tup ys))) ∨ (SqT K H p ys ∧ Q (.ref p) H))
theorem call_tuple_ofK (h : X.K = K := by rfl) : CallR X (.type "tuple") (rTupOf K) := by
  subst h
  exact call_tuple_of
def rLstOf (K : PySem.W.Frag) : List V → Hp → VK → Prop := fun xs H Q => ∃ p ys, xs = [.ref p] ∧ (SqL K H p ys ∨ SqT K H p ys) ∧ ∀ l, H l = none → Q (.ref l) (upd H l (.lst ys))
theorem call_list_ofK (h : X.K = K := by rfl) : CallR X (.type "list") (rLstOf K) := by
  subst h
  exact call_list_of
def rLenK (K : PySem.W.Frag) : List V → Hp → VK → Prop := fun xs H Q => ∃ p ys, xs = [.ref p] ∧ (SqL K H p ys ∨ SqT K H p ys) ∧ Q (.int ys.length) H
theorem call_lenK (h : X.K = K := by rfl) : CallR X (.builtin "len") (rLenK K) := by
  subst h
  exact call_len_seq
theorem sl_listK (h : X.K = K := by rfl) : SlR X (rSlL K) := by
  subst h
  exact sl_list
theorem sl_tupK (h : X.K = K := by rfl) : SlR X (rSlA K) := by
  subst h
  exact sl_tupA
theorem pi_tupK {tg l : Expr} {tl : TE} (hl : PE X l tl) (h : X.K = K := by rfl) : PI X tg l (iTup K tl) := by
  subst h
  exact pi_tup hl
theorem pi_listK {tg l : Expr} {tl : TE} (hl : PE X l tl) (h : X.K = K := by rfl) : PI X tg l (iList K tl) := by
  subst h
  exact pi_list hl
theorem pi_zipK {e e2 : Expr} {ta : TA} {p pos tpos : Pos} {elts : List Expr} {kk : Nat} (hg : Gl X "zip") (hm : X.mg "zip" = none) (ha : PA X [e, e2] ta) (h : X.K = K := by rfl)
    (hs : starEach [e, e2] X.env = (false, eval e X.env) :: starEach [e2] X.env := by rfl) (hpl : (backTo pos (starEach [e2] X.env)).any (·.1) = false := by rfl) : PI X (.Tuple elts kk tpos) (.Call (.Name "zip" p) [e, e2] [] pos) (RZ.iZipA K ta) := by
  subst h
  exact RZ.pi_zipA hg hm ha hs hpl
theorem pi_enumTK {e : Expr} {ta : TA} {p pos tpos : Pos} {elts : List Expr} {kk : Nat} (hg : Gl X "enumerate") (hm : X.mg "enumerate" = none) (ha : PA X [e] ta) (h : X.K = K := by rfl) (hs : starEach [e] X.env = [(false, eval e X.env)] := by rfl) :
    PI X (.Tuple elts kk tpos) (.Call (.Name "enumerate" p) [e] [] pos) (iEnumA K ta) := by
  subst h
  exact pi_enumT hg hm ha hs
theorem pi_enumLK {e : Expr} {ta : TA} {p pos tpos : Pos} {elts : List Expr} {kk : Nat} (hg : Gl X "enumerate") (hm : X.mg "enumerate" = none) (ha : PA X [e] ta) (h : X.K = K := by rfl) (hs : starEach [e] X.env = [(false, eval e X.env)] := by rfl) :
    PI X (.Tuple elts kk tpos) (.Call (.Name "enumerate" p) [e] [] pos) (iEnum K ta) := by
  subst h
  exact pi_enum hg hm ha hs
theorem pg_tupK {es : List Expr} {k : Nat} {t : TGs} {n : Nat} {pos : Pos} (hc : X.calm = true) (ht : PGs X es t) (h : X.K = K := by rfl) (hn : (assignEach es X.env).length = n := by rfl) (hst : (assignEach es X.env).findIdx? (·.1) = none := by rfl) :
    PG X (.Tuple es k pos) (gTup K n t) := by
  subst h
  exact pg_tup hc ht hn hst
theorem op_eqDK (hu : X.A.units + 64 < cLine) (h : X.K = K := by rfl) : OpR X (compareOp .Eq) (rEqD K) := by
  subst h
  exact op_eqD hu
theorem op_neDK (hu : X.A.units + 64 < cLine) (h : X.K = K := by rfl) : OpR X (compareOp .NotEq) (rNeD K) := by
  subst h
  exact op_neD hu
theorem call_isiK2 (h : X.K = K := by rfl) : CallR X (.builtin "isinstance") (rIsi K) := by
  subst h
  exact call_isi
theorem cr_sumK (hc : X.calm = true) (h : X.K = K := by rfl) : CallR X (.builtin "sum") (rSum K) := by
  subst h
  exact cr_sum hc
theorem cr_allK (hc : X.calm = true) (h : X.K = K := by rfl) : CallR X (.builtin "all") (rAll K) := by
  subst h
  exact cr_all hc
theorem op_catAK (h : X.K = K := by rfl) : OpR X (binaryOp .Add) (rCatA K) := by
  subst h
  exact op_catA
theorem pe_revTK {e : Expr} {te : TE} {k : Nat} {p1 p2 p3 pos : Pos} (he : PE X e te) (h : X.K = K := by rfl) : PE X (.Subscript e (.Slice none none (some (.UnaryOp .USub (.Constant (.int 1) k p1) p2)) p3) pos) (tRevT K te) := by
  subst h
  exact pe_revT he
theorem call_reprK (hg : X.A.guards = some []) (hu : X.A.units + 64 < cLine) (h : X.K = K := by rfl) : CallR X (.builtin "repr") (rReprD K) := by
  subst h
  exact call_reprD hg hu
end
theorem b_tuple : bootBuiltins "tuple" = some (.type "tuple") := by decide +kernel
theorem b_list : bootBuiltins "list" = some (.type "list") := by decide +kernel
theorem b_int : bootBuiltins "int" = some (.type "int") := by decide +kernel
theorem b_bool : bootBuiltins "bool" = some (.type "bool") := by decide +kernel
theorem b_len : bootBuiltins "len" = some (.builtin "len") := by decide +kernel
theorem b_sum : bootBuiltins "sum" = some (.builtin "sum") := by decide +kernel
theorem b_max : bootBuiltins "max" = some (.builtin "max") := by decide +kernel
theorem b_min : bootBuiltins "min" = some (.builtin "min") := by decide +kernel
theorem b_all : bootBuiltins "all" = some (.builtin "all") := by decide +kernel
theorem b_isinstance : bootBuiltins "isinstance" = some (.builtin "isinstance") := by decide +kernel
theorem b_repr : bootBuiltins "repr" = some (.builtin "repr") := by decide +kernel
end K24
/-! what each def promises -/
namespace K24
open PySem PySem.Spec PyProof.Rows L2
/-! ### the words -/
/-- the gain at (i, j) of the table f -/
def gnF (f : Nat → Nat → Int) (i j : Nat) : Int := f i (j + 1) + f (i + 1) j - (f i j + f (i + 1) (j + 1))
/-- the sum of the first j of g -/
def psum (g : Nat → Int) : Nat → Int
  | 0 => 0
  | j + 1 => psum g j + g j
/-- the table of a first column, a first row less its first entry, and gains -/
def bF (gl gt : Nat → Int) (G : Nat → Nat → Int) (i : Nat) : Nat → Int
  | 0 => gl i
  | j + 1 => gl i + gt j - psum (fun a => psum (G a) (j + 1)) i
def Straight (m n : Nat) (f : Nat → Nat → Int) : Prop := ∀ i j, i + 1 < m → j + 1 < n → 0 ≤ gnF f i j
def Bd (c : Int) (m n : Nat) (f : Nat → Nat → Int) : Prop := ∀ i j, i < m → j < n → -c ≤ f i j ∧ f i j ≤ c
structure TabOk (m n : Nat) : Prop where
  m1 : 1 ≤ m
  m8 : m ≤ 8
  n1 : 1 ≤ n
  n8 : n ≤ 8
/-- the entry of a table of gains, where there is one -/
def cell (m n : Nat) (G : Nat → Nat → Int) (r c : Int) : Option Int := if 0 ≤ r ∧ r < (m : Int) ∧ 0 ≤ c ∧ c < (n : Int) then some (G r.toNat c.toNat) else none
def stepV : V → Option Int → V
  | v, none => v
  | .int x, some y => .int (if y < x then y else x)
  | _, some y => .int y
def leastV : Option Int → Option Int → V
  | none, none => .non
  | some x, none => .int x
  | none, some y => .int y
  | some x, some y => .int (if y < x then y else x)
theorem leastV_step (c d : Option Int) : leastV c d = stepV (stepV .non c) d := by
  cases c <;> cases d <;> rfl
theorem stepV_kind {v : V} (h : v = .non ∨ ∃ x, v = .int x) (c : Option Int) : stepV v c = .non ∨ ∃ x, stepV v c = .int x := by
  cases c with
  | none => exact h
  | some y =>
    rcases h with rfl | ⟨x, rfl⟩
    · exact .inr ⟨_, rfl⟩
    · exact .inr ⟨_, rfl⟩
def downV (m n : Nat) (G : Nat → Nat → Int) (r c : Nat) : V := leastV (cell m n G ((r : Int) - 1) c) (cell m n G r ((c : Int) - 1))
def upV (m n : Nat) (G : Nat → Nat → Int) (r c : Nat) : V := leastV (cell m n G r c) (cell m n G ((r : Int) - 1) ((c : Int) - 1))
/-- a list of m lists of n ints -/
def TabL (H : Hp) (v : V) (m n : Nat) (f : Nat → Nat → Int) : Prop := ∃ a vs, v = .ref a ∧ H a = some (.lst vs) ∧ vs.length = m ∧ ∀ (i : Nat) (x : V), vs[i]? = some x → RowL H x n (f i)
/-- a list of m lists of n pairs -/
def RoomL (H : Hp) (v : V) (m n : Nat) (d u : Nat → Nat → V) : Prop := ∃ a vs, v = .ref a ∧ H a = some (.lst vs) ∧ vs.length = m ∧
  ∀ (i : Nat) (x : V), vs[i]? = some x → ∃ b ws, x = .ref b ∧ H b = some (.lst ws) ∧ ws.length = n ∧ ∀ (j : Nat) (y : V), ws[j]? = some y → ∃ p, y = .ref p ∧ H p = some (.tup [d i j, u i j])
/-- the parts of the table f -/
def PartsT (H : Hp) (v : V) (m n : Nat) (f : Nat → Nat → Int) : Prop := ∃ p vl vt vg, v = .ref p ∧ H p = some (.tup [vl, vt, vg]) ∧ RowT H vl m (fun i => f i 0) ∧ RowT H vt (n - 1) (fun j => f 0 (j + 1) - f 0 0) ∧ TabT H vg (m - 1) (n - 1) (gnF f)
/-- the feed: its ints bounded -/
def Fd (H : Hp) (a : Addr) (k : Nat) : Prop := ∃ (x y z : Int) (n : Nat), H a = some (.lst [.int x, .int y, .int z]) ∧ 0 ≤ x ∧ x.natAbs < 2 ^ n ∧ n ≤ 2000000 ∧ 0 ≤ y ∧ y.natAbs < 2 ^ 130 ∧ 0 ≤ z ∧ z ≤ (k : Int)
theorem Fd.lq {H : Hp} {a : Addr} {k : Nat} (h : Fd H a k) : Lq [a] H := by
  obtain ⟨x, y, z, n, h, _⟩ := h
  exact lq_one h
theorem Fd.mono {H : Hp} {a : Addr} {k j : Nat} (h : Fd H a k) (hk : k ≤ j) : Fd H a j := by
  obtain ⟨x, y, z, n, h, h1, h2, h3, h4, h5, h6, h7⟩ := h
  exact ⟨x, y, z, n, h, h1, h2, h3, h4, h5, h6, by omega⟩
theorem Fd.keep {H H' : Hp} {a : Addr} {k : Nat} (h : Fd H a k) (g : Go [] H H') : Fd H' a k := by
  obtain ⟨x, y, z, n, h, r⟩ := h
  exact ⟨x, y, z, n, g.c a _ List.not_mem_nil h, r⟩
theorem Fd.upd {H : Hp} {a p : Addr} {o : HO} {k : Nat} (h : Fd H a k) (n : a ≠ p) : Fd (upd H p o) a k := by
  obtain ⟨x, y, z, m, h, r⟩ := h
  exact ⟨x, y, z, m, by rw [upd_ne n]; exact h, r⟩
section
variable {l : List Addr} {H H' : Hp} {v : V} {m n : Nat} {g g' : Nat → Int} {f f' : Nat → Nat → Int}
theorem Go.rowL (x : Go [] H H') (h : RowL H v n g) : RowL H' v n g := by
  obtain ⟨a, e, h⟩ := h
  exact ⟨a, e, x.c a _ List.not_mem_nil h⟩
theorem Go.tabL (x : Go [] H H') (h : TabL H v m n f) : TabL H' v m n f := by
  obtain ⟨a, vs, e, h, hl, k⟩ := h
  exact ⟨a, vs, e, x.c a _ List.not_mem_nil h, hl, fun i y hy => x.rowL (k i y hy)⟩
theorem Go.parts (x : Go l H H') (h : PartsT H v m n f) : PartsT H' v m n f := by
  obtain ⟨p, vl, vt, vg, e, h, h1, h2, h3⟩ := h
  exact ⟨p, vl, vt, vg, e, x.tup h, x.row h1, x.row h2, x.tab h3⟩
end
theorem psum_gn (h : Nat → Nat → Int) (i : Nat) : ∀ j, psum (gnF h i) j = (h i j - h i 0) - (h (i + 1) j - h (i + 1) 0)
  | 0 => by
    show (0 : Int) = _
    omega
  | j + 1 => by
    show psum (gnF h i) j + gnF h i j = _
    rw [psum_gn h i j]
    unfold gnF
    omega
theorem row_cons {n : Nat} {k : Nat → Int} (h : 1 ≤ n) : [V.int (k 0)] ++ rowV (n - 1) (fun j => k (j + 1)) = rowV n k := by
  refine rowV_of (by rw [List.length_append, rowV_len]; show 1 + (n - 1) = n; omega) fun j v e => ?_
  cases j with
  | zero => exact (Option.some.inj e).symm
  | succ j => exact (rowV_at e).2
/-! ### kinds -/
def sp_is_integer : Sp := fun vs H Q _ => ∃ z : Int, vs = [.int z] ∧ Q (.bl true) H
def sp_is_within : Sp := fun vs H Q _ => ∃ x l m : Int, vs = [.int x, .int l, .int m] ∧ l ≤ x ∧ x ≤ m ∧ Q (.bl true) H
def sp_is_row_of : Sp := fun vs H Q _ => ∃ (a : Addr) (xs : List V) (l m : Int), vs = [.ref a, .int l, .int m] ∧ H a = some (.tup xs) ∧ l ≤ (xs.length : Int) ∧ (xs.length : Int) ≤ m ∧ Q (.bl true) H
def sp_are_integers : Sp := fun vs H Q _ => ∃ v n g, vs = [v, .int (n : Nat)] ∧ RowT H v n g ∧ n ≤ 100 ∧ ∀ H', Go [] H H' → Q (.bl true) H'
def sp_are_numbers : Sp := fun vs H Q _ => ∃ v n g, ∃ c : Int, vs = [v, .int (n : Nat), .int c] ∧ RowT H v n g ∧ n ≤ 100 ∧ (∀ j, j < n → 0 ≤ g j ∧ g j ≤ c - 1) ∧ ∀ H', Go [] H H' → Q (.bl true) H'
def sp_are_rising : Sp := fun vs H Q _ => ∃ v n g, vs = [v] ∧ RowT H v n g ∧ 1 ≤ n ∧ n ≤ 100 ∧ (∀ j, j + 1 < n → g j < g (j + 1)) ∧ ∀ H', Go [] H H' → Q (.bl true) H'
/-- an ascending tuple of indexes below c -/
structure Idx (H : Hp) (v : V) (c : Nat) (n : Nat) (r : Nat → Nat) : Prop where
  row : RowT H v n (fun j => (r j : Int))
  n1 : 1 ≤ n
  nc : n ≤ c
  lt : ∀ j, j < n → r j < c
  up : ∀ j, j + 1 < n → r j < r (j + 1)
theorem Go.idx {l : List Addr} {H H' : Hp} {v : V} {c n : Nat} {r : Nat → Nat} (x : Go l H H') (h : Idx H v c n r) : Idx H' v c n r := ⟨x.row h.row, h.n1, h.nc, h.lt, h.up⟩
def sp_are_indexes : Sp := fun vs H Q _ => ∃ v c n r, vs = [v, .int (c : Nat)] ∧ Idx H v c n r ∧ c ≤ 100 ∧ ∀ H', Go [] H H' → Q (.bl true) H'
def sp_need_number : Sp := fun vs H Q _ => ∃ x l m : Int, vs = [.int x, .int l, .int m] ∧ l ≤ x ∧ x ≤ m ∧ Q .non H
/-! ### tableways -/
def sp_width : Sp := fun vs H Q _ => ∃ v m n f, vs = [v] ∧ TabT H v m n f ∧ 0 < m ∧ Q (.int (n : Nat)) H
def sp_column_of : Sp := fun vs H Q _ => ∃ v m n f, ∃ c : Nat, vs = [v, .int c] ∧ TabT H v m n f ∧ c < n ∧ m ≤ 100 ∧ ∀ u H', Go [] H H' → RowT H' u m (fun i => f i c) → Q u H'
def sp_gain_of : Sp := fun vs H Q _ => ∃ v m n f, ∃ r o c l : Nat, vs = [v, .int r, .int o, .int c, .int l] ∧ TabT H v m n f ∧ r < m ∧ o < m ∧ c < n ∧ l < n ∧ Q (.int (f r l + f o c - (f r c + f o l))) H
def sp_gain_at : Sp := fun vs H Q _ => ∃ v m n f, ∃ r c : Nat, vs = [v, .int r, .int c] ∧ TabT H v m n f ∧ r + 1 < m ∧ c + 1 < n ∧ Q (.int (gnF f r c)) H
/-- a table of at most a hundred rows and columns, one or more -/
structure Tab1 (m n : Nat) : Prop where
  m1 : 1 ≤ m
  m9 : m ≤ 100
  n1 : 1 ≤ n
  n9 : n ≤ 100
theorem TabOk.t1 {m n : Nat} (h : TabOk m n) : Tab1 m n := ⟨h.m1, by have := h.m8; omega, h.n1, by have := h.n8; omega⟩
def sp_gains_of : Sp := fun vs H Q _ => ∃ v m n f, vs = [v] ∧ TabT H v m n f ∧ Tab1 m n ∧ ∀ u H', Go [] H H' → TabT H' u (m - 1) (n - 1) (gnF f) → Q u H'
def sp_first_paying : Sp := fun vs H Q _ => ∃ v m n f, vs = [v] ∧ TabT H v m n f ∧ Tab1 m n ∧ Straight m n f ∧ ∀ H', Go [] H H' → Q .non H'
def sp_is_straight_table : Sp := fun vs H Q _ => ∃ v m n f, vs = [v] ∧ TabT H v m n f ∧ Tab1 m n ∧ Straight m n f ∧ ∀ H', Go [] H H' → Q (.bl true) H'
def sp_turned_table : Sp := fun vs H Q _ => ∃ v m n f, vs = [v] ∧ TabT H v m n f ∧ Tab1 m n ∧ ∀ u H', Go [] H H' → TabT H' u n m (fun j i => f i j) → Q u H'
def sp_mirrored_table : Sp := fun vs H Q _ => ∃ v m n f, vs = [v] ∧ TabT H v m n f ∧ ∀ u H', Go [] H H' → TabT H' u m n (fun i j => f (m - 1 - i) j) → Q u H'
def sp_lifted_table : Sp := fun vs H Q _ => ∃ v vr vc m n f r c, vs = [v, vr, vc] ∧ TabT H v m n f ∧ RowT H vr m r ∧ RowT H vc n c ∧ Tab1 m n ∧ ∀ u H', Go [] H H' → TabT H' u m n (fun i j => f i j + r i + c j) → Q u H'
def sp_added_table : Sp := fun vs H Q _ => ∃ v v2 m n f g, vs = [v, v2] ∧ TabT H v m n f ∧ TabT H v2 m n g ∧ Tab1 m n ∧ ∀ u H', Go [] H H' → TabT H' u m n (fun i j => f i j + g i j) → Q u H'
def sp_scaled_table : Sp := fun vs H Q _ => ∃ v m n f, ∃ t : Int, vs = [v, .int t] ∧ TabT H v m n f ∧ Tab1 m n ∧ 0 ≤ t ∧ t ≤ 1000000000 ∧ ∀ u H', Go [] H H' → TabT H' u m n (fun i j => f i j * t) → Q u H'
def sp_thinned_table : Sp := fun vs H Q _ => ∃ v vr vc m n f p r q c, vs = [v, vr, vc] ∧ TabT H v m n f ∧ Tab1 m n ∧ Idx H vr m p r ∧ Idx H vc n q c ∧ ∀ u H', Go [] H H' → TabT H' u p q (fun i j => f (r i) (c j)) → Q u H'
def sp_have_one_size : Sp := fun vs H Q _ => ∃ v v2 m n f g, vs = [v, v2] ∧ TabT H v m n f ∧ TabT H v2 m n g ∧ 0 < m ∧ Q (.bl true) H
/-! ### tableforms, tables -/
def sp_is_table_form : Sp := fun vs H Q _ => ∃ v m n f, vs = [v] ∧ TabT H v m n f ∧ TabOk m n ∧ ∀ H', Go [] H H' → Q (.bl true) H'
def sp_need_table : Sp := fun vs H Q _ => ∃ v m n f, vs = [v] ∧ TabT H v m n f ∧ TabOk m n ∧ ∀ H', Go [] H H' → Q .non H'
def sp_need_straight : Sp := fun vs H Q _ => ∃ v m n f, vs = [v] ∧ TabT H v m n f ∧ TabOk m n ∧ Straight m n f ∧ ∀ H', Go [] H H' → Q .non H'
def sp_need_indexes : Sp := fun vs H Q _ => ∃ v c n r, vs = [v, .int (c : Nat)] ∧ Idx H v c n r ∧ c ≤ 100 ∧ ∀ H', Go [] H H' → Q .non H'
def sp_need_numbers : Sp := fun vs H Q _ => ∃ v n g, vs = [v, .int (n : Nat)] ∧ RowT H v n g ∧ n ≤ 100 ∧ ∀ H', Go [] H H' → Q .non H'
def sp_lifted : Sp := fun vs H Q _ => ∃ v vr vc m n f r c, vs = [v, vr, vc] ∧ TabT H v m n f ∧ RowT H vr m r ∧ RowT H vc n c ∧ TabOk m n ∧ ∀ u H', Go [] H H' → TabT H' u m n (fun i j => f i j + r i + c j) → Q u H'
def sp_added : Sp := fun vs H Q _ => ∃ v v2 m n f g, vs = [v, v2] ∧ TabT H v m n f ∧ TabT H v2 m n g ∧ TabOk m n ∧ ∀ u H', Go [] H H' → TabT H' u m n (fun i j => f i j + g i j) → Q u H'
def sp_scaled : Sp := fun vs H Q _ => ∃ v m n f, ∃ t : Int, vs = [v, .int t] ∧ TabT H v m n f ∧ TabOk m n ∧ 0 ≤ t ∧ t ≤ 1000000000 ∧ ∀ u H', Go [] H H' → TabT H' u m n (fun i j => f i j * t) → Q u H'
def sp_turned : Sp := fun vs H Q _ => ∃ v m n f, vs = [v] ∧ TabT H v m n f ∧ TabOk m n ∧ ∀ u H', Go [] H H' → TabT H' u n m (fun j i => f i j) → Q u H'
def sp_thinned : Sp := fun vs H Q _ => ∃ v vr vc m n f p r q c, vs = [v, vr, vc] ∧ TabT H v m n f ∧ TabOk m n ∧ Idx H vr m p r ∧ Idx H vc n q c ∧ ∀ u H', Go [] H H' → TabT H' u p q (fun i j => f (r i) (c j)) → Q u H'
def sp_mirrored : Sp := fun vs H Q _ => ∃ v m n f, vs = [v] ∧ TabT H v m n f ∧ TabOk m n ∧ ∀ u H', Go [] H H' → TabT H' u m n (fun i j => f (m - 1 - i) j) → Q u H'
/-! ### partways, parts -/
def sp_sums_up_to : Sp := fun vs H Q _ => ∃ v n g, vs = [v] ∧ RowT H v n g ∧ n ≤ 100 ∧ ∀ u H', Go [] H H' → RowL H' u (n + 1) (psum g) → Q u H'
def sp_table_of_parts : Sp := fun vs H Q _ => ∃ vl vt vg m n h, vs = [vl, vt, vg] ∧ RowT H vl m (fun i => h i 0) ∧ RowT H vt (n - 1) (fun j => h 0 (j + 1) - h 0 0) ∧ TabT H vg (m - 1) (n - 1) (gnF h) ∧ TabOk m n ∧ ∀ u H', Go [] H H' → TabT H' u m n h → Q u H'
def sp_least_there : Sp := fun vs H Q _ => ∃ vg m n G, ∃ (a p1 p2 : Addr) (r1 c1 r2 c2 : Int), vs = [vg, .ref a] ∧ TabT H vg m n G ∧ H a = some (.lst [.ref p1, .ref p2]) ∧ H p1 = some (.tup [.int r1, .int c1]) ∧ H p2 = some (.tup [.int r2, .int c2]) ∧
  ∀ H', Go [] H H' → Q (leastV (cell m n G r1 c1) (cell m n G r2 c2)) H'
def sp_room_of : Sp := fun vs H Q _ => ∃ vg m n G, ∃ r c : Nat, vs = [vg, .int r, .int c] ∧ TabT H vg m n G ∧ ∀ p H', Go [] H H' → H' p = some (.tup [downV m n G r c, upV m n G r c]) → Q (.ref p) H'
def sp_rooms_of : Sp := fun vs H Q _ => ∃ v m n f, vs = [v] ∧ TabT H v m n f ∧ TabOk m n ∧ ∀ u H', Go [] H H' → RoomL H' u m n (downV (m - 1) (n - 1) (gnF f)) (upV (m - 1) (n - 1) (gnF f)) → Q u H'
def sp_are_parts : Sp := fun vs H Q _ => ∃ v m n f, vs = [v] ∧ PartsT H v m n f ∧ TabOk m n ∧ ∀ H', Go [] H H' → Q (.bl true) H'
def sp_parts : Sp := fun vs H Q _ => ∃ v m n f, vs = [v] ∧ TabT H v m n f ∧ TabOk m n ∧ ∀ u H', Go [] H H' → PartsT H' u m n f → Q u H'
def sp_built : Sp := fun vs H Q _ => ∃ v m n f, vs = [v] ∧ PartsT H v m n f ∧ TabOk m n ∧ ∀ u H', Go [] H H' → TabT H' u m n f → Q u H'
def sp_need_span : Sp := fun vs H Q _ => ∃ a b c : Int, vs = [.int a, .int b, .int c] ∧ 0 ≤ a ∧ a ≤ b ∧ b ≤ c - 1 ∧ Q .non H
def sp_gain : Sp := fun vs H Q _ => ∃ v m n f, ∃ r o c l : Nat, vs = [v, .int r, .int o, .int c, .int l] ∧ TabT H v m n f ∧ TabOk m n ∧ r ≤ o ∧ o < m ∧ c ≤ l ∧ l < n ∧ ∀ H', Go [] H H' → Q (.int (f r l + f o c - (f r c + f o l))) H'
def sp_rooms : Sp := fun vs H Q _ => ∃ v m n f, vs = [v] ∧ TabT H v m n f ∧ TabOk m n ∧ Straight m n f ∧ ∀ u H', Go [] H H' → RoomL H' u m n (downV (m - 1) (n - 1) (gnF f)) (upV (m - 1) (n - 1) (gnF f)) → Q u H'
/-! ### the law's own defs -/
def sp_l_feed (K : PySem.W.Frag) : Sp := fun vs H Q _ => ∃ (a : Addr) (ns : List Int) (k : Nat), vs = [.ref a, .int k] ∧ SqL K H a (ns.map V.int) ∧ k ≤ 3 ∧ ns.length ≤ 63 ∧ (∀ z ∈ ns, Builtin.Int.intBits z ≤ 1048576) ∧ ∀ b H', Go [] H H' → H b = none → Fd H' b 0 → Q (.ref b) H'
def sp_l_draw : Sp := fun vs H Q _ => ∃ (a : Addr) (many : Int) (k : Nat), vs = [.ref a, .int many] ∧ Fd H a k ∧ k ≤ 1000000 ∧ 0 < many ∧ many.natAbs < 2 ^ 110 ∧ ∀ (r : Int) H', Go [a] H H' → Fd H' a (k + 1) → 0 ≤ r → r < many → Q (.int r) H'
def sp_l_one : Sp := fun vs H Q _ => ∃ (a b : Addr) (xs : List V) (k : Nat), vs = [.ref a, .ref b] ∧ Fd H a k ∧ k ≤ 1000000 ∧ H b = some (.lst xs) ∧ b ≠ a ∧ 0 < xs.length ∧ xs.length ≤ 100 ∧ ∀ x H', Go [a] H H' → Fd H' a (k + 1) → x ∈ xs → Q x H'
def sp_l_built : Sp := fun vs H Q _ => ∃ vl vt vg m n gl gt G, vs = [vl, vt, vg] ∧ RowL H vl m gl ∧ RowL H vt n gt ∧ TabL H vg (m - 1) n G ∧ 1 ≤ m ∧ m ≤ 8 ∧ n ≤ 7 ∧ ∀ u H', Go [] H H' → TabT H' u m (n + 1) (bF gl gt G) → Q u H'
def sp_l_table : Sp := fun vs H Q _ => ∃ (a : Addr) (mm ww : Int) (k : Nat), vs = [.ref a, .int mm, .int ww] ∧ Fd H a k ∧ k ≤ 900000 ∧ 1 ≤ mm ∧ mm ≤ 8 ∧ 1 ≤ ww ∧ ww ≤ 8 ∧
  ∀ u H' m n f, Go [a] H H' → Fd H' a (k + 300) → TabT H' u m n f → TabOk m n → Straight m n f → Bd 10000000000000000000 m n f → Q u H'
def sp_l_sized : Sp := fun vs H Q _ => ∃ (a : Addr) (m n k : Nat), vs = [.ref a, .int m, .int n] ∧ Fd H a k ∧ k ≤ 950000 ∧ TabOk m n ∧
  ∀ u H' f, Go [a] H H' → Fd H' a (k + 200) → TabT H' u m n f → Straight m n f → Bd 10000000000000000000 m n f → Q u H'
def sp_l_loose : Sp := fun vs H Q _ => ∃ (a : Addr) (mm ww : Int) (k : Nat), vs = [.ref a, .int mm, .int ww] ∧ Fd H a k ∧ k ≤ 800000 ∧ 1 ≤ mm ∧ mm ≤ 8 ∧ 1 ≤ ww ∧ ww ≤ 8 ∧
  ∀ u H' m n f, Go [a] H H' → Fd H' a (k + 500) → TabT H' u m n f → TabOk m n → Bd 100000000000000000000 m n f → Q u H'
def sp_l_set : Sp := fun vs H Q _ => ∃ v m n f, ∃ (i j : Nat) (z : Int), vs = [v, .int i, .int j, .int z] ∧ TabT H v m n f ∧ TabOk m n ∧ i < m ∧ j < n ∧ ∀ u H', Go [] H H' → TabT H' u m n (fun i' j' => if i' = i ∧ j' = j then z else f i' j') → Q u H'
def sp_l_great : Sp := fun vs H Q _ => ∃ (a : Addr) (k : Nat), vs = [.ref a] ∧ Fd H a k ∧ k ≤ 900000 ∧ ∀ u H' m n f, Go [a] H H' → Fd H' a (k + 300) → TabT H' u m n f → TabOk m n → Straight m n f → Q u H'
def sp_l_some_table : Sp := fun vs H Q _ => ∃ (a : Addr) (k : Nat), vs = [.ref a] ∧ Fd H a k ∧ k ≤ 800000 ∧ ∀ u H' m n f, Go [a] H H' → Fd H' a (k + 500) → TabT H' u m n f → TabOk m n → Straight m n f → Q u H'
def sp_l_some : Sp := fun vs H Q _ => ∃ (a : Addr) (many k : Nat), vs = [.ref a, .int many] ∧ Fd H a k ∧ k ≤ 900000 ∧ 1 ≤ many ∧ many ≤ 8 ∧ ∀ u H' n r, Go [a] H H' → Fd H' a (k + 20) → Idx H' u many n r → Q u H'
def sp_l_sums : Sp := fun vs H Q _ => ∃ v v2 n g g', vs = [v, v2] ∧ RowT H v n g ∧ RowT H v2 n g' ∧ n ≤ 100 ∧ ∀ u H', Go [] H H' → RowT H' u n (fun j => g j + g' j) → Q u H'
def sp_l_added_right : Sp := fun vs H Q _ => ∃ (a : Addr) (k : Nat), ∃ v m n f, vs = [.ref a, v] ∧ Fd H a k ∧ k ≤ 800000 ∧ TabT H v m n f ∧ TabOk m n ∧ Bd 100000000000000000000 m n f ∧ ∀ H', Go [a] H H' → Fd H' a (k + 300) → Q (.bl true) H'
def sp_l_turned_right : Sp := fun vs H Q _ => ∃ (a : Addr) (k : Nat), ∃ v m n f, vs = [.ref a, v] ∧ Fd H a k ∧ k ≤ 800000 ∧ TabT H v m n f ∧ TabOk m n ∧ ∀ H', Go [a] H H' → Fd H' a (k + 100) → Q (.bl true) H'
def sp_l_right : Sp := fun vs H Q _ => ∃ (a : Addr) (k : Nat), vs = [.ref a] ∧ Fd H a k ∧ k ≤ 1000 ∧ ∀ H', Go [a] H H' → Q (.bl true) H'
def sp_law (K : PySem.W.Frag) : Sp := fun vs H Q _ => ∃ (a : Addr) (ns : List Int), vs = [.ref a] ∧ SqL K H a (ns.map V.int) ∧ ns.length ≤ 63 ∧ (∀ z ∈ ns, Builtin.Int.intBits z ≤ 1048576) ∧ ∀ H', Q (.bl true) H'
end K24
/-! the mathematics of the law's own defs -/
namespace K24
open PySem PySem.Spec PyProof.Rows L2
/-! ### sums -/
theorem sum_psum (g : Nat → Int) : ∀ n, ((List.range n).map g).sum = psum g n
  | 0 => rfl
  | n + 1 => by
    rw [List.range_succ, List.map_append, List.sum_append, sum_psum g n]
    show psum g n + (g n + 0) = psum g n + g n
    omega
theorem psum_nn {g : Nat → Int} : ∀ {n}, (∀ j, j < n → 0 ≤ g j) → 0 ≤ psum g n
  | 0, _ => Int.le_refl 0
  | n + 1, h => by
    have h1 := psum_nn (n := n) fun j hj => h j (by omega)
    have h2 := h n (by omega)
    show 0 ≤ psum g n + g n
    omega
theorem psum_le {g : Nat → Int} {c : Int} : ∀ {n : Nat}, (∀ j, j < n → g j ≤ c) → psum g n ≤ n * c
  | 0, _ => by
    show (0 : Int) ≤ ((0 : Nat) : Int) * c
    rw [Int.natCast_zero, Int.zero_mul]
    exact Int.le_refl 0
  | n + 1, h => by
    have h1 := psum_le (n := n) fun j hj => h j (by omega)
    have h2 := h n (by omega)
    show psum g n + g n ≤ ((n + 1 : Nat) : Int) * c
    rw [Int.natCast_succ, Int.add_mul, Int.one_mul]
    omega
theorem gnF_bF (gl gt : Nat → Int) (G : Nat → Nat → Int) (i j : Nat) : gnF (bF gl gt G) i j = G i j := by
  have e : ∀ k, psum (fun a => psum (G a) k) (i + 1) = psum (fun a => psum (G a) k) i + psum (G i) k := fun k => rfl
  cases j with
  | zero =>
    show (gl i + gt 0 - psum (fun a => psum (G a) 1) i) + gl (i + 1) - (gl i + (gl (i + 1) + gt 0 - psum (fun a => psum (G a) 1) (i + 1))) = G i 0
    rw [e 1]
    have e2 : psum (G i) 1 = 0 + G i 0 := rfl
    omega
  | succ j =>
    show (gl i + gt (j + 1) - psum (fun a => psum (G a) (j + 1 + 1)) i) + (gl (i + 1) + gt j - psum (fun a => psum (G a) (j + 1)) (i + 1)) - ((gl i + gt j - psum (fun a => psum (G a) (j + 1)) i) + (gl (i + 1) + gt (j + 1) - psum (fun a => psum (G a) (j + 1 + 1)) (i + 1))) = G i (j + 1)
    rw [e (j + 1), e (j + 1 + 1)]
    have e2 : psum (G i) (j + 1 + 1) = psum (G i) (j + 1) + G i (j + 1) := rfl
    omega
theorem bF_straight {gl gt : Nat → Int} {G : Nat → Nat → Int} {m n : Nat} (h : ∀ i j, i + 1 < m → j + 1 < n → 0 ≤ G i j) : Straight m n (bF gl gt G) := fun i j hi hj => by
  rw [gnF_bF]
  exact h i j hi hj
theorem bF_bd {gl gt : Nat → Int} {G : Nat → Nat → Int} {m n : Nat} (hm : m ≤ 8) (hn : n ≤ 8) (h1 : ∀ i, i < m → -1000000000000000 ≤ gl i ∧ gl i ≤ 1000000000000000) (h2 : ∀ j, j < n - 1 → -1000000000000000 ≤ gt j ∧ gt j ≤ 1000000000000000)
    (h3 : ∀ i j, i < m - 1 → j < n - 1 → 0 ≤ G i j ∧ G i j ≤ 1000000000) : Bd 10000000000000000000 m n (bF gl gt G) := by
  intro i j hi hj
  have a1 := h1 i hi
  cases j with
  | zero =>
    show -10000000000000000000 ≤ gl i ∧ gl i ≤ 10000000000000000000
    omega
  | succ j =>
    have a2 := h2 j (by omega)
    have in0 : ∀ a, a < i → 0 ≤ psum (G a) (j + 1) ∧ psum (G a) (j + 1) ≤ 8000000000 := fun a ha => by
      refine ⟨psum_nn fun b hb => (h3 a b (by omega) (by omega)).1, ?_⟩
      have q := psum_le (g := G a) (c := 1000000000) (n := j + 1) fun b hb => (h3 a b (by omega) (by omega)).2
      have q2 : ((j + 1 : Nat) : Int) ≤ 8 := by omega
      omega
    have b1 : 0 ≤ psum (fun a => psum (G a) (j + 1)) i := psum_nn fun a ha => (in0 a ha).1
    have b2 := psum_le (g := fun a => psum (G a) (j + 1)) (c := 8000000000) (n := i) fun a ha => (in0 a ha).2
    show -10000000000000000000 ≤ gl i + gt j - psum (fun a => psum (G a) (j + 1)) i ∧ gl i + gt j - psum (fun a => psum (G a) (j + 1)) i ≤ 10000000000000000000
    omega
/-! ### slices -/
theorem cut_to (xs : List V) (k : Nat) : cutV xs none (some (k : Int)) = xs.take k := by
  unfold cutV
  rw [HT.sIx_none, HT.sIx_nat, Nat.sub_zero, List.drop_zero]
  by_cases h : k ≤ xs.length
  · rw [Nat.min_eq_left h]
  · rw [Nat.min_eq_right (by omega), List.take_length, List.take_of_length_le (by omega)]
theorem cut_from (xs : List V) (k : Nat) : cutV xs (some (k : Int)) none = xs.drop k := by
  unfold cutV
  rw [HT.sIx_none, HT.sIx_nat]
  by_cases h : k ≤ xs.length
  · rw [Nat.min_eq_left h]
    exact List.take_of_length_le (by rw [List.length_drop]; omega)
  · rw [Nat.min_eq_right (by omega), List.drop_eq_nil_of_le (Nat.le_refl _), List.drop_eq_nil_of_le (by omega), List.take_nil]
theorem rowV_take {n k : Nat} {g : Nat → Int} (h : k ≤ n) : (rowV n g).take k = rowV k g := by
  refine rowV_of (by rw [List.length_take, rowV_len]; omega) fun j v e => ?_
  rw [List.getElem?_take] at e
  by_cases hj : j < k
  · rw [if_pos hj] at e
    exact (rowV_at e).2
  · rw [if_neg hj] at e
    cases e
/-! ### bounds by bits -/
theorem mulB_of {i j : Int} {p q : Nat} (h1 : i.natAbs < 2 ^ p) (h2 : j.natAbs < 2 ^ q) (h3 : 0 < p) (h4 : 0 < q) (h : p + q ≤ 100000000) : MulB i j := by
  have a := PySem.Flt.log2_lt_of h3 h1
  have b := PySem.Flt.log2_lt_of h4 h2
  unfold MulB
  omega
theorem bits_lt {z : Int} {n : Nat} (h : Builtin.Int.intBits z ≤ n) : z.natAbs < 2 ^ n := by
  unfold Builtin.Int.intBits at h
  by_cases e : z = 0
  · subst e
    exact Nat.two_pow_pos n
  · rw [if_neg (by simpa using e)] at h
    exact Nat.lt_of_lt_of_le Nat.lt_log2_self (Nat.pow_le_pow_right (by decide) h)
theorem abs_grow {a b : Int} {n : Nat} (h : a.natAbs < 2 ^ n) (hb : b.natAbs ≤ 8000) : (b + a).natAbs < 2 ^ (n + 13) := by
  rw [Nat.pow_add]
  have h1 : 1 ≤ 2 ^ n := Nat.two_pow_pos n
  have h2 : (2 : Nat) ^ 13 = 8192 := by decide
  rw [h2]
  omega
theorem go_set {H : Hp} {a : Addr} {xs ys : List V} (h : H a = some (.lst xs)) : Go [a] H (upd H a (.lst ys)) :=
  ⟨lq_one h, fun b o nb e => by rw [upd_ne (fun z => nb (List.mem_singleton.mpr z))]; exact e, lq_one upd_same⟩
theorem Go.sq {K : PySem.W.Frag} {H H' : Hp} {a : Addr} {xs : List V} (x : Go [] H H') (h : SqL K H a xs) : SqL K H' a xs := by
  rcases h with h | h
  · rcases h with h | h
    · exact .inl (.inl (x.c a _ List.not_mem_nil h))
    · obtain ⟨o, h⟩ := h
      exact .inl (.inr ⟨o, x.c a _ List.not_mem_nil h⟩)
  · exact .inr h
theorem emod_abs {t M : Int} {p : Nat} (h : 0 < M) (hM : M.natAbs ≤ 2 ^ p) : (t % M).natAbs < 2 ^ p := by
  have h1 := Int.emod_nonneg t (show M ≠ 0 by omega)
  have h2 := Int.emod_lt_of_pos t h
  generalize t % M = z at h1 h2 ⊢
  omega
theorem mul_abs {i j : Int} {p q : Nat} (h1 : i.natAbs < 2 ^ p) (h2 : j.natAbs < 2 ^ q) : (i * j).natAbs < 2 ^ (p + q) := by
  rw [Int.natAbs_mul, Nat.pow_add]
  exact Nat.mul_lt_mul_of_lt_of_le h1 (Nat.le_of_lt h2) (Nat.two_pow_pos q)
/-! ### slices and sums, ready to use -/
section
variable {K : PySem.W.Frag} {H : Hp} {Q : VK} {a b : Addr} {xs ys : List V} {n : Nat} {g : Nat → Int}
theorem sl_to {k : Nat} {hi : Int} (e : hi = (k : Int)) (ha : SqL K H a xs) (q : ∀ p, H p = none → Q (.ref p) (upd H p (.lst (xs.take k)))) : rSlL K (.ref a) none (some hi) H Q := by
  refine ⟨a, xs, rfl, ha, fun p np => ?_⟩
  rw [e, cut_to]
  exact q p np
theorem cutV_whole {lo hi : Option Int} (h : HT.sIx xs.length 0 lo = 0 ∧ HT.sIx xs.length xs.length hi = xs.length) : cutV xs lo hi = xs := by
  unfold cutV
  rw [h.1, h.2, Nat.sub_zero, List.drop_zero, List.take_length]
theorem slT {lo hi : Option Int} (ha : H a = some (.tup xs)) (q : ∀ p H', Go [] H H' → H' p = some (.tup (cutV xs lo hi)) → Q (.ref p) H') : rSlA K (.ref a) lo hi H Q := by
  refine ⟨a, xs, rfl, SqT.of ha, fun z => q a H go0 ?_, fun _ p np => q p _ (go_new np) upd_same⟩
  rw [cutV_whole z]
  exact ha
theorem catT (ha : H a = some (.tup xs)) (hb : H b = some (.tup ys)) (hz : xs.length + ys.length ≤ sizeLine) (q : ∀ p H', Go [] H H' → H' p = some (.tup (xs ++ ys)) → Q (.ref p) H') : rCatA K (.ref a) (.ref b) H Q := by
  refine ⟨a, b, xs, ys, rfl, rfl, SqT.of ha, SqT.of hb, hz, fun e => q b H go0 ?_, fun _ e => q a H go0 ?_, fun _ _ p np => q p _ (go_new np) upd_same⟩
  · rw [e, List.nil_append]
    exact hb
  · rw [e, List.append_nil]
    exact ha
theorem sum_row (h : H a = some (.lst (rowV n g))) (q : Q (.int (psum g n)) H) : rSum K [.ref a] H Q := by
  refine ⟨a, (List.range n).map g, rfl, SqL.of ?_, ?_⟩
  · rw [← rowV_ints]
    exact h
  · rw [sum_psum]
    exact q
end
theorem put_at {xs : List V} {i : Nat} {y : V} (h : i < xs.length) : xs.take i ++ [y] ++ xs.drop (i + 1) = xs.set i y := by
  rw [List.set_eq_take_append_cons_drop, if_pos h, List.append_assoc]
  rfl
theorem rowV_set {n j : Nat} {g : Nat → Int} {z : Int} : (rowV n g).set j (.int z) = rowV n (fun j' => if j' = j then z else g j') := by
  refine rowV_of (by rw [List.length_set, rowV_len]) fun k v e => ?_
  rw [List.getElem?_set] at e
  by_cases h : j = k
  · rw [if_pos h] at e
    rw [if_pos h.symm]
    split at e
    · exact (Option.some.inj e).symm
    · cases e
  · rw [if_neg h] at e
    rw [if_neg fun z => h z.symm]
    exact (rowV_at e).2
/-! ### ascending ints, one more -/
def ext (n : Nat) (r : Nat → Nat) (i : Nat) : Nat → Nat := fun j => if j < n then r j else i
theorem ext_lt {n i j : Nat} {r : Nat → Nat} (h : j < n) : ext n r i j = r j := if_pos h
theorem ext_ge {n i j : Nat} {r : Nat → Nat} (h : ¬ j < n) : ext n r i j = i := if_neg h
theorem ext_row {n i : Nat} {r : Nat → Nat} : rowV (n + 1) (fun j => (ext n r i j : Int)) = rowV n (fun j => (r j : Int)) ++ [.int (i : Nat)] := by
  rw [rowV_succ, ext_ge (Nat.lt_irrefl n), rowV_congr fun j hj => by rw [ext_lt hj]]
/-! ### data that can be laid -/
def Good (n : Nat) (d : PyData) : Prop := d.canLay0 = true ∧ d.depth ≤ n
theorem canAll : ∀ {ds : List PyData}, (∀ d ∈ ds, d.canLay0 = true) → PyData.canLayAll0 ds = true
  | [], _ => rfl
  | d :: ds, h => by
    show (d.canLay0 && PyData.canLayAll0 ds) = true
    rw [h d List.mem_cons_self, canAll fun e he => h e (List.mem_cons_of_mem _ he)]
    rfl
theorem depthAll_le {n : Nat} : ∀ {ds : List PyData}, (∀ d ∈ ds, d.depth ≤ n) → PyData.depthAll ds ≤ n
  | [], _ => Nat.zero_le _
  | d :: ds, h => by
    show max d.depth (PyData.depthAll ds) ≤ n
    exact Nat.max_le.mpr ⟨h d List.mem_cons_self, depthAll_le fun e he => h e (List.mem_cons_of_mem _ he)⟩
theorem good_int {i : Int} : Good 0 (.int i) := ⟨rfl, Nat.le_refl _⟩
theorem good_tup {n : Nat} {ds : List PyData} (h : ∀ d ∈ ds, Good n d) : Good (n + 1) (.tuple ds) := ⟨canAll fun d hd => (h d hd).1, Nat.succ_le_succ (depthAll_le fun d hd => (h d hd).2)⟩
theorem good_lst {n : Nat} {ds : List PyData} (h : ∀ d ∈ ds, Good n d) : Good (n + 1) (.list ds) := ⟨canAll fun d hd => (h d hd).1, Nat.succ_le_succ (depthAll_le fun d hd => (h d hd).2)⟩
theorem Good.up {n m : Nat} {d : PyData} (h : Good n d) (k : n ≤ m) : Good m d := ⟨h.1, Nat.le_trans h.2 k⟩
theorem Good.shaped {n : Nat} {d : PyData} (h : Good n d) (k : n ≤ 64) : SeqAt.shaped d = true := by
  unfold SeqAt.shaped
  rw [h.1, decide_eq_true (Nat.le_trans h.2 k)]
  rfl
theorem good_row (n : Nat) (g : Nat → Int) : Good 1 (rowD n g) := good_tup fun d hd => by
  obtain ⟨j, _, rfl⟩ := List.mem_map.mp hd
  exact good_int
theorem good_tab (m n : Nat) (f : Nat → Nat → Int) : Good 2 (tabD m n f) := good_tup fun d hd => by
  obtain ⟨j, _, rfl⟩ := List.mem_map.mp hd
  exact good_row n (f j)
theorem Good.refl {n : Nat} {d : PyData} (h : Good n d) : PyData.eqv d d = true := SeqAt.eqv_refl d h.1
theorem eqv_nil0 (f : Nat → PyData) : (!PyData.eqv (.list ((List.range 0).map f)) (.list [])) = false := rfl
theorem eqv_nilS (n : Nat) (f : Nat → PyData) : (!PyData.eqv (.list ((List.range (n + 1)).map f)) (.list [])) = true := by
  rw [List.range_succ_eq_map]
  rfl
theorem Fd.ne {H : Hp} {a p : Addr} {k : Nat} (h : Fd H a k) (e : H p = none) : a ≠ p := fun z => h.lq.ne e (List.mem_singleton.mpr z.symm)
theorem Fd.new {H : Hp} {a p : Addr} {o : HO} {k : Nat} (h : Fd H a k) (e : H p = none) : Fd (L2.upd H p o) a k := h.upd (h.ne e)
/-! ### lists of lists of bounded ints -/
def LiB (l : List Addr) (E : Addr) (n : Nat) (c : Int) (x : V) (H : Hp) : Prop := ∃ (b : Addr) (g : Nat → Int), x = .ref b ∧ b ∉ l ∧ b ≠ E ∧ H b = some (.lst (rowV n g)) ∧ ∀ j, j < n → 0 ≤ g j ∧ g j ≤ c
def AccB (l : List Addr) (H : Hp) (E : Addr) (i n : Nat) (c : Int) : Prop := ∃ acc, H E = some (.lst acc) ∧ acc.length = i ∧ ∀ (j : Nat) (x : V), acc[j]? = some x → LiB l E n c x H
section
variable {l : List Addr} {H H' : Hp} {E p : Addr} {i n : Nat} {c : Int} {x : V} {acc : List V}
theorem LiB.go (h : LiB l E n c x H) (g : Go l H H') : LiB l E n c x H' := by
  obtain ⟨b, f, e, nb, ne, hb, r⟩ := h
  exact ⟨b, f, e, nb, ne, g.keep nb hb, r⟩
theorem LiB.upd {o : HO} (h : LiB l E n c x H) : LiB l E n c x (L2.upd H E o) := by
  obtain ⟨b, f, e, nb, ne, hb, r⟩ := h
  exact ⟨b, f, e, nb, ne, by rw [upd_ne ne]; exact hb, r⟩
theorem lcs_lib {I : Nat → Hp → Prop} (hI : ∀ i H o, I i H → I i (L2.upd H E o)) : LcS l E I (fun _ v H => LiB l E n c v H) := ⟨hI, fun _ _ _ _ e g => e.go g, fun _ _ _ _ _ e _ => e.upd⟩
theorem AccB.go (h : AccB l H E i n c) (g : Go l H H') (nE : E ∉ l) : AccB l H' E i n c := by
  obtain ⟨acc, h1, h2, h3⟩ := h
  exact ⟨acc, g.keep nE h1, h2, fun j x hx => (h3 j x hx).go g⟩
theorem accB_nil : AccB l (L2.upd H E (.lst [])) E 0 n c := ⟨[], upd_same, rfl, fun j x h => by cases h⟩
theorem accB_push (hl : acc.length = i) (hk : ∀ (j : Nat) (x : V), acc[j]? = some x → LiB l E n c x H) (hv : LiB l E n c x H) : AccB l (L2.upd H E (.lst (acc ++ [x]))) E (i + 1) n c := by
  refine ⟨acc ++ [x], upd_same, by rw [List.length_append, hl]; rfl, fun j y hy => ?_⟩
  by_cases hj : j < acc.length
  · rw [List.getElem?_append_left hj] at hy
    exact (hk j y hy).upd
  · obtain ⟨_, e2⟩ := last_at_ hj hy
    rw [← e2]
    exact hv.upd
theorem accB_tab (h : AccB l H E i n c) : ∃ G, TabL H (.ref E) i n G ∧ ∀ p q, p < i → q < n → 0 ≤ G p q ∧ G p q ≤ c := by
  obtain ⟨acc, h1, h2, h3⟩ := h
  have w : ∀ j : Nat, ∃ g : Nat → Int, ∀ x : V, acc[j]? = some x → RowL H x n g ∧ ∀ q, q < n → 0 ≤ g q ∧ g q ≤ c := fun j => by
    cases e : acc[j]? with
    | none => exact ⟨fun _ => 0, fun x hx => by cases hx⟩
    | some y =>
      obtain ⟨b, g, ey, _, _, hb, r⟩ := h3 j y e
      exact ⟨g, fun x hx => by cases hx; exact ⟨⟨b, ey, hb⟩, r⟩⟩
  refine ⟨fun j => Classical.choose (w j), ⟨E, acc, rfl, h1, h2, fun j x hx => (Classical.choose_spec (w j) x hx).1⟩, fun p q hp hq => ?_⟩
  have hx : p < acc.length := by omega
  exact (Classical.choose_spec (w p) _ (List.getElem?_eq_getElem hx)).2 q hq
end
theorem p110 : (2 : Nat) ^ 110 = 1298074214633706907132624082305024 := by decide
theorem ints_ex {acc : List V} {n : Nat} {R : Nat → Int → Prop} (hl : acc.length = n) (h : ∀ (i : Nat) (v : V), acc[i]? = some v → ∃ z, v = .int z ∧ R i z) : ∃ g, acc = rowV n g ∧ ∀ i, i < n → R i (g i) := ⟨_, ints_some hl h⟩
theorem TabT.n {H : Hp} {u : V} {m n n' : Nat} {f : Nat → Nat → Int} (h : TabT H u m n f) (e : n = n') : TabT H u m n' f := e ▸ h
/-! ### rows of bounded ints -/
def RoB (n : Nat) (c : Int) (v : V) (H : Hp) : Prop := ∃ g, RowT H v n g ∧ ∀ j, j < n → -c ≤ g j ∧ g j ≤ c
theorem lcs_rob {l : List Addr} {D : Addr} {I : Nat → Hp → Prop} {n : Nat} {c : Int} (hI : ∀ i H o, I i H → I i (upd H D o)) : LcS l D I (fun _ v H => RoB n c v H) := by
  refine ⟨hI, ?_, ?_⟩
  · rintro i v H H' ⟨g, h, r⟩ x
    exact ⟨g, x.row h, r⟩
  · rintro i v H o xs ⟨g, ⟨b, ev, hb⟩, r⟩ h
    exact ⟨g, ⟨b, ev, by rw [upd_ne (ne_of hb h (by intro z; cases z))]; exact hb⟩, r⟩
theorem rob_tab {H : Hp} {p : Addr} {acc : List V} {m n : Nat} {c : Int} (np : H p = none) (hl : acc.length = m) (hk : ∀ (i : Nat) (v : V), acc[i]? = some v → RoB n c v H) : ∃ f, TabT (upd H p (.tup acc)) (.ref p) m n f ∧ Bd c m n f := by
  have w : ∀ j : Nat, ∃ g : Nat → Int, ∀ x : V, acc[j]? = some x → RowT H x n g ∧ ∀ q, q < n → -c ≤ g q ∧ g q ≤ c := fun j => by
    cases e : acc[j]? with
    | none => exact ⟨fun _ => 0, fun x hx => by cases hx⟩
    | some y =>
      obtain ⟨g, hb, r⟩ := hk j y e
      exact ⟨g, fun x hx => by cases hx; exact ⟨hb, r⟩⟩
  refine ⟨fun j => Classical.choose (w j), tab_new hl (fun i x hx => (Classical.choose_spec (w i) x hx).1) np, fun i j hi hj => ?_⟩
  have hx : i < acc.length := by omega
  exact (Classical.choose_spec (w i) _ (List.getElem?_eq_getElem hx)).2 j hj
theorem Bd.mono {c c' : Int} {m n : Nat} {f : Nat → Nat → Int} (h : Bd c m n f) (k : c ≤ c') : Bd c' m n f := fun i j hi hj => by
  have q := h i j hi hj
  omega
/-! ### the parts as data; what repr asks -/
def partsD (m n : Nat) (f : Nat → Nat → Int) : PyData := .tuple [rowD m (fun i => f i 0), rowD (n - 1) (fun j => f 0 (j + 1) - f 0 0), tabD (m - 1) (n - 1) (gnF f)]
theorem PartsT.dp {K : PySem.W.Frag} {H : Hp} {v : V} {m n : Nat} {f : Nat → Nat → Int} (h : PartsT H v m n f) : Dp K H v (partsD m n f) := by
  obtain ⟨p, vl, vt, vg, rfl, hp, h1, h2, h3⟩ := h
  exact .tup (SqT.of hp) (.cons h1.dp (.cons h2.dp (.cons h3.dp .nil)))
theorem good_parts (m n : Nat) (f : Nat → Nat → Int) : Good 3 (partsD m n f) := good_tup fun d hd => by
  rcases List.mem_cons.mp hd with rfl | hd
  · exact (good_row _ _).up (by decide)
  rcases List.mem_cons.mp hd with rfl | hd
  · exact (good_row _ _).up (by decide)
  rcases List.mem_cons.mp hd with rfl | hd
  · exact good_tab _ _ _
  cases hd
def Sh (W : Nat) (d : PyData) : Prop := d.showable = true ∧ d.leavesShort 101 = true ∧ d.bulk ≤ W
theorem Sh.up {W W' : Nat} {d : PyData} (h : Sh W d) (k : W ≤ W') : Sh W' d := ⟨h.1, h.2.1, Nat.le_trans h.2.2 k⟩
theorem sh_int {i : Int} (h : i.natAbs < 2 ^ 100) : Sh 0 (.int i) := by
  have l : i.natAbs.log2 < 100 := PySem.Flt.log2_lt_of (by decide) h
  refine ⟨decide_eq_true (by omega), decide_eq_true ?_, Nat.le_refl _⟩
  show (Str.ofString (toString i)).length ≤ 101
  rw [PySem.ofString_length]
  exact int_text_length_le (k := 100) (by decide) l
theorem sh_all {W : Nat} : ∀ {ds : List PyData}, (∀ d ∈ ds, Sh W d) → PyData.showableAll ds = true ∧ PyData.leavesShortAll 101 ds = true ∧ PyData.bulkAll ds ≤ ds.length * (W + 1)
  | [], _ => ⟨rfl, rfl, Nat.zero_le _⟩
  | d :: ds, h => by
    obtain ⟨a1, a2, a3⟩ := h d List.mem_cons_self
    obtain ⟨b1, b2, b3⟩ := sh_all fun e he => h e (List.mem_cons_of_mem _ he)
    refine ⟨?_, ?_, ?_⟩
    · show (d.showable && PyData.showableAll ds) = true
      rw [a1, b1]
      rfl
    · show (d.leavesShort 101 && PyData.leavesShortAll 101 ds) = true
      rw [a2, b2]
      rfl
    · show d.bulk + 1 + PyData.bulkAll ds ≤ (ds.length + 1) * (W + 1)
      rw [Nat.add_mul, Nat.one_mul]
      omega
theorem sh_tup {W W' : Nat} {ds : List PyData} (h : ∀ d ∈ ds, Sh W d) (k : ds.length * (W + 1) ≤ W') : Sh W' (.tuple ds) := by
  obtain ⟨a, b, c⟩ := sh_all h
  exact ⟨a, b, Nat.le_trans c k⟩
theorem sh_row {n : Nat} {g : Nat → Int} (hn : n ≤ 8) (h : ∀ j, j < n → (g j).natAbs < 2 ^ 100) : Sh 8 (rowD n g) := sh_tup (W := 0) (fun d hd => by
  obtain ⟨j, hj, rfl⟩ := List.mem_map.mp hd
  exact sh_int (h j (List.mem_range.mp hj))) (by rw [List.length_map, List.length_range]; omega)
theorem sh_tab {m n : Nat} {f : Nat → Nat → Int} (hm : m ≤ 8) (hn : n ≤ 8) (h : ∀ i j, i < m → j < n → (f i j).natAbs < 2 ^ 100) : Sh 72 (tabD m n f) := sh_tup (W := 8) (fun d hd => by
  obtain ⟨j, hj, rfl⟩ := List.mem_map.mp hd
  exact sh_row hn (h j · (List.mem_range.mp hj))) (by rw [List.length_map, List.length_range]; omega)
theorem sh_parts {m n : Nat} {f : Nat → Nat → Int} (hT : TabOk m n) (h : Bd 1000000000000000000000 m n f) : Sh 219 (partsD m n f) := by
  have m1 := hT.m1
  have m8 := hT.m8
  have n1 := hT.n1
  have n8 := hT.n8
  have e : (2 : Nat) ^ 100 = 1267650600228229401496703205376 := by decide
  refine sh_tup (W := 72) (fun d hd => ?_) (show 3 * (72 + 1) ≤ 219 by decide)
  rcases List.mem_cons.mp hd with rfl | hd
  · refine (sh_row m8 fun j hj => ?_).up (by decide)
    have a := h j 0 hj (by omega)
    rw [e]
    omega
  rcases List.mem_cons.mp hd with rfl | hd
  · refine (sh_row (by omega) fun j hj => ?_).up (by decide)
    have a := h 0 0 (by omega) (by omega)
    have b := h 0 (j + 1) (by omega) (by omega)
    rw [e]
    omega
  rcases List.mem_cons.mp hd with rfl | hd
  · refine sh_tab (by omega) (by omega) fun i j hi hj => ?_
    have a := h i j (by omega) (by omega)
    have b := h i (j + 1) (by omega) (by omega)
    have c := h (i + 1) j (by omega) (by omega)
    have d := h (i + 1) (j + 1) (by omega) (by omega)
    unfold gnF
    rw [e]
    omega
  cases hd
theorem PartsT.congr {H : Hp} {v : V} {m n : Nat} {f f' : Nat → Nat → Int} (h : PartsT H v m n f) (e : ∀ i j, f i j = f' i j) : PartsT H v m n f' := by
  obtain rfl : f = f' := funext fun i => funext fun j => e i j
  exact h
/-- x == x, x != x of data that can be laid -/
theorem eq_same {K : PySem.W.Frag} {H : Hp} {Q : VK} {x y : V} {d : PyData} {n : Nat} (g : Good n d) (hn : n ≤ 64) (h1 : Dp K H x d) (h2 : Dp K H y d) (q : Q (.bl true) H) : rEqD K x y H Q := by
  refine ⟨d, d, h1, h2, g.shaped hn, g.shaped hn, ?_⟩
  rw [g.refl]
  exact q
theorem ne_same {K : PySem.W.Frag} {H : Hp} {Q : VK} {x y : V} {d : PyData} {n : Nat} (g : Good n d) (hn : n ≤ 64) (h1 : Dp K H x d) (h2 : Dp K H y d) (q : Q (.bl false) H) : rNeD K x y H Q := by
  refine ⟨d, d, h1, h2, g.shaped hn, g.shaped hn, ?_⟩
  rw [g.refl]
  exact q
theorem gnF_add (f h : Nat → Nat → Int) (i j : Nat) : gnF (fun i j => f i j + h i j) i j = gnF f i j + gnF h i j := by
  unfold gnF
  dsimp only
  omega
theorem gnF_lift (f : Nat → Nat → Int) (r c : Nat → Int) (i j : Nat) : gnF (fun i j => f i j + r i + c j) i j = gnF f i j := by
  unfold gnF
  dsimp only
  omega
theorem gnF_scale (f : Nat → Nat → Int) (t : Int) (i j : Nat) : gnF (fun i j => f i j * t) i j = t * gnF f i j := by
  unfold gnF
  rw [Int.mul_comm t, Int.sub_mul, Int.add_mul, Int.add_mul]
theorem parts_rep {K : PySem.W.Frag} {H : Hp} {v : V} {m n : Nat} {f : Nat → Nat → Int} (h : PartsT H v m n f) (hT : TabOk m n) (hb : Bd 1000000000000000000000 m n f) :
    Dp K H v (partsD m n f) ∧ (partsD m n f).showable = true ∧ (partsD m n f).hasDict = false ∧ (partsD m n f).depth ≤ 60 ∧ (partsD m n f).shown.length ≤ sizeLine := by
  have s := sh_parts hT hb
  have g := good_parts m n f
  refine ⟨h.dp, s.1, PyData.hasDict_of_canLay _ g.1, Nat.le_trans g.2 (by decide), ?_⟩
  have l := PyData.shown_le_bulk 101 (by decide) _ s.2.1
  have k := s.2.2
  have z : 22658 ≤ sizeLine := by decide
  omega
theorem bd_add {c c' C : Int} {m n : Nat} {f h : Nat → Nat → Int} (x : Bd c m n f) (y : Bd c' m n h) (k : c + c' ≤ C) : Bd C m n (fun i j => f i j + h i j) := fun i j hi hj => by
  have a := x i j hi hj
  have b := y i j hi hj
  show -C ≤ f i j + h i j ∧ f i j + h i j ≤ C
  omega
/-- the slots written out -/
theorem cp {T : L2.St → Hp → Prop} {σ : L2.St} {H : Hp} (σ' : L2.St) (e : σ = σ') (h : T σ' H) : T σ H := e ▸ h
def rowLD (n : Nat) (g : Nat → Int) : PyData := .list ((List.range n).map fun j => .int (g j))
theorem RowL.dp {K : PySem.W.Frag} {H : Hp} {v : V} {n : Nat} {g : Nat → Int} (h : RowL H v n g) : Dp K H v (rowLD n g) := by
  obtain ⟨a, rfl, h⟩ := h
  refine .lst (SqL.of h) (dpAll_of _ _ (by rw [rowV_len, List.length_map, List.length_range]) fun i v d hv hd => ?_)
  obtain ⟨lt, e⟩ := rowV_at hv
  rw [List.getElem?_map, List.getElem?_range lt] at hd
  have ed : PyData.int (g i) = d := Option.some.inj hd
  rw [e, ← ed]
  exact .int _
theorem good_rowL (n : Nat) (g : Nat → Int) : Good 1 (rowLD n g) := good_lst fun d hd => by
  obtain ⟨j, _, rfl⟩ := List.mem_map.mp hd
  exact good_int
theorem gnF_turn (f : Nat → Nat → Int) (i j : Nat) : gnF (fun j i => f i j) j i = gnF f i j := by
  unfold gnF
  dsimp only
  omega
theorem gnF_mir (f : Nat → Nat → Int) (m i j : Nat) (h : i + 1 < m) : gnF (fun i j => f (m - 1 - i) j) i j = -gnF f (m - 1 - 1 - i) j := by
  unfold gnF
  dsimp only
  obtain ⟨r, rfl⟩ : ∃ r, m = r + i + 2 := ⟨m - i - 2, by omega⟩
  rw [show r + i + 2 - 1 - i = r + 1 by omega, show r + i + 2 - 1 - (i + 1) = r by omega, show r + i + 2 - 1 - 1 - i = r by omega]
  omega
/-! ### rooms -/
def KindV (v : V) : Prop := v = .non ∨ ∃ x, v = .int x
theorem leastV_kind (c d : Option Int) : KindV (leastV c d) := by
  cases c with
  | none =>
    cases d with
    | none => exact .inl rfl
    | some y => exact .inr ⟨_, rfl⟩
  | some x =>
    cases d with
    | none => exact .inr ⟨_, rfl⟩
    | some y => exact .inr ⟨_, rfl⟩
theorem leastV_comm (c d : Option Int) : leastV c d = leastV d c := by
  cases c with
  | none =>
    cases d with
    | none => rfl
    | some y => rfl
  | some x =>
    cases d with
    | none => rfl
    | some y =>
      show V.int (if y < x then y else x) = V.int (if x < y then x else y)
      refine congrArg V.int ?_
      split <;> split <;> omega
theorem cell_turn {m n : Nat} {G G' : Nat → Nat → Int} (h : ∀ i j, G' j i = G i j) (x y : Int) : cell n m G' x y = cell m n G y x := by
  unfold cell
  by_cases c : 0 ≤ y ∧ y < (m : Int) ∧ 0 ≤ x ∧ x < (n : Int)
  · rw [if_pos c, if_pos ⟨c.2.2.1, c.2.2.2, c.1, c.2.1⟩, h]
  · rw [if_neg c, if_neg fun z => c ⟨z.2.2.1, z.2.2.2, z.1, z.2.1⟩]
theorem down_turn {m n : Nat} {G G' : Nat → Nat → Int} (h : ∀ i j, G' j i = G i j) (t s : Nat) : downV n m G' t s = downV m n G s t := by
  unfold downV
  rw [cell_turn h, cell_turn h, leastV_comm]
theorem up_turn {m n : Nat} {G G' : Nat → Nat → Int} (h : ∀ i j, G' j i = G i j) (t s : Nat) : upV n m G' t s = upV m n G s t := by
  unfold upV
  rw [cell_turn h, cell_turn h]
def vD : V → PyData
  | .int z => .int z
  | _ => .none
theorem KindV.dp {K : PySem.W.Frag} {H : Hp} {v : V} (h : KindV v) : Dp K H v (vD v) := by
  rcases h with rfl | ⟨x, rfl⟩
  · exact .non
  · exact .int x
theorem vD_good (v : V) : Good 0 (vD v) := by
  cases v <;> exact ⟨rfl, Nat.le_refl _⟩
def roomD (m n : Nat) (d u : Nat → Nat → V) : PyData := .list ((List.range m).map fun i => .list ((List.range n).map fun j => .tuple [vD (d i j), vD (u i j)]))
theorem good_room (m n : Nat) (d u : Nat → Nat → V) : Good 3 (roomD m n d u) := good_lst fun x hx => by
  obtain ⟨i, _, rfl⟩ := List.mem_map.mp hx
  refine good_lst fun y hy => ?_
  obtain ⟨j, _, rfl⟩ := List.mem_map.mp hy
  refine good_tup fun z hz => ?_
  rcases List.mem_cons.mp hz with rfl | hz
  · exact vD_good _
  rcases List.mem_cons.mp hz with rfl | hz
  · exact vD_good _
  cases hz
theorem RoomL.dp {K : PySem.W.Frag} {H : Hp} {v : V} {m n : Nat} {d u : Nat → Nat → V} (h : RoomL H v m n d u) (hk : ∀ i j, KindV (d i j) ∧ KindV (u i j)) : Dp K H v (roomD m n d u) := by
  obtain ⟨a, vs, rfl, ha, hl, k⟩ := h
  refine .lst (SqL.of ha) (dpAll_of _ _ (by rw [hl, List.length_map, List.length_range]) fun i x e hx he => ?_)
  have lt : i < m := by
    rw [← hl]
    exact (List.getElem?_eq_some_iff.mp hx).1
  rw [List.getElem?_map, List.getElem?_range lt] at he
  obtain rfl := Option.some.inj he
  obtain ⟨b, ws, rfl, hb, hlw, kw⟩ := k i x hx
  refine .lst (SqL.of hb) (dpAll_of _ _ (by rw [hlw, List.length_map, List.length_range]) fun j y e hy he => ?_)
  have lt : j < n := by
    rw [← hlw]
    exact (List.getElem?_eq_some_iff.mp hy).1
  rw [List.getElem?_map, List.getElem?_range lt] at he
  obtain rfl := Option.some.inj he
  obtain ⟨p, rfl, hp⟩ := kw j y hy
  exact .tup (SqT.of hp) (.cons (hk i j).1.dp (.cons (hk i j).2.dp .nil))
theorem Go.room {H H' : Hp} {v : V} {m n : Nat} {d u : Nat → Nat → V} (x : Go [] H H') (h : RoomL H v m n d u) : RoomL H' v m n d u := by
  obtain ⟨a, vs, e, ha, hl, k⟩ := h
  refine ⟨a, vs, e, x.keep List.not_mem_nil ha, hl, fun i y hy => ?_⟩
  obtain ⟨b, ws, e2, hb, hlw, kw⟩ := k i y hy
  refine ⟨b, ws, e2, x.keep List.not_mem_nil hb, hlw, fun j z hz => ?_⟩
  obtain ⟨p, e3, hp⟩ := kw j z hz
  exact ⟨p, e3, x.tup hp⟩
theorem RoomL.congr {H : Hp} {v : V} {m n : Nat} {d u d' u' : Nat → Nat → V} (h : RoomL H v m n d u) (e1 : ∀ i j, d i j = d' i j) (e2 : ∀ i j, u i j = u' i j) : RoomL H v m n d' u' := by
  obtain rfl : d = d' := funext fun i => funext fun j => e1 i j
  obtain rfl : u = u' := funext fun i => funext fun j => e2 i j
  exact h
theorem straight_turn {m n : Nat} {f : Nat → Nat → Int} (h : Straight m n f) : Straight n m (fun j i => f i j) := fun j i hj hi => by
  rw [gnF_turn]
  exact h i j hi hj
/-- rows of a list of lists of pairs under way -/
def PairR (D : Addr) (n : Nat) (d u : Nat → V) (v : V) (H : Hp) : Prop := ∃ (b : Addr) (ws : List V), v = .ref b ∧ b ≠ D ∧ H b = some (.lst ws) ∧ ws.length = n ∧ ∀ (j : Nat) (y : V), ws[j]? = some y → ∃ p, y = .ref p ∧ H p = some (.tup [d j, u j])
theorem lcs_pairR {D : Addr} {n : Nat} {I : Nat → Hp → Prop} {d u : Nat → Nat → V} (hI : ∀ i H o, I i H → I i (upd H D o)) : LcS [] D I (fun i v H => PairR D n (d i) (u i) v H) := by
  refine ⟨hI, ?_, ?_⟩
  · rintro i v H H' ⟨b, ws, e1, e2, e3, e4, e5⟩ g
    refine ⟨b, ws, e1, e2, g.keep List.not_mem_nil e3, e4, fun j y hy => ?_⟩
    obtain ⟨p, e6, e7⟩ := e5 j y hy
    exact ⟨p, e6, g.tup e7⟩
  · rintro i v H o xs ⟨b, ws, e1, e2, e3, e4, e5⟩ hD
    refine ⟨b, ws, e1, e2, by rw [upd_ne e2]; exact e3, e4, fun j y hy => ?_⟩
    obtain ⟨p, e6, e7⟩ := e5 j y hy
    exact ⟨p, e6, by rw [upd_ne (ne_of e7 hD (by intro z; cases z))]; exact e7⟩
theorem lcs_pair {D : Addr} {I : Nat → Hp → Prop} {d u : Nat → V} (hI : ∀ i H o, I i H → I i (upd H D o)) : LcS [] D I (fun j y H => ∃ p, y = .ref p ∧ H p = some (.tup [d j, u j])) := by
  refine ⟨hI, ?_, ?_⟩
  · rintro j y H' H4 ⟨p, e6, e7⟩ g
    exact ⟨p, e6, g.tup e7⟩
  · rintro j y H' o xs ⟨p, e6, e7⟩ hD
    exact ⟨p, e6, by rw [upd_ne (ne_of e7 hD (by intro z; cases z))]; exact e7⟩
theorem RoomL.at_ {H : Hp} {a : Addr} {m n i j : Nat} {d u : Nat → Nat → V} (h : RoomL H (.ref a) m n d u) (hi : i < m) (hj : j < n) : ∃ vs b ws p, H a = some (.lst vs) ∧ vs[i]? = some (.ref b) ∧ H b = some (.lst ws) ∧ ws[j]? = some (.ref p) ∧ H p = some (.tup [d i j, u i j]) := by
  obtain ⟨a', vs, e, ha, hl, k⟩ := h
  cases e
  have hx : i < vs.length := by omega
  obtain ⟨b, ws, e2, hb, hlw, kw⟩ := k i _ (List.getElem?_eq_getElem hx)
  have hy : j < ws.length := by omega
  obtain ⟨p, e3, hp⟩ := kw j _ (List.getElem?_eq_getElem hy)
  exact ⟨vs, b, ws, p, ha, by rw [List.getElem?_eq_getElem hx, e2], hb, by rw [List.getElem?_eq_getElem hy, e3], hp⟩
theorem Go.hide {H H3 H4 : Hp} {b : Addr} (x : Go [] H H3) (nb : H b = none) (y : Go [b] H3 H4) : Go [] H H4 := by
  refine ⟨lq_nil, fun c o _ e => y.c c o (fun z => ?_) (x.c c o List.not_mem_nil e), lq_nil⟩
  have e2 : c = b := List.mem_singleton.mp z
  rw [e2, nb] at e
  cases e
end K24
namespace K24
open PySem PySem.Spec PyProof.Rows L2
section
variable {P : Program} {w : World} {K : PySem.W.Frag} {mg : Str → Option Value} {base : Heap}
theorem sc_is_integer : FnScope ["thing"] ["thing"] (defScope s_is_integer) := ⟨rfl, rfl, rfl, by decide +kernel, rfl, by decide +kernel, by decide +kernel⟩
theorem ok_is_integer (D : DefP K mg "is_integer" s_is_integer) (m_isinstance : mg "isinstance" = none) (m_int : mg "int" = none) (m_bool : mg "bool" = none) : Cal P w K mg base 1 "is_integer" ["thing"] (sp_is_integer) := by
  refine cal_mk (k := 0) D sc_is_integer (fun vs H Q E h => ?_) (fun _ _ _ _ _ _ us hl => match us, hl with | [_], _ => rfl) (fun f cdv A outer s H vs Q hgd hr h => ?_)
  · obtain ⟨z, rfl, _⟩ := h; rfl
  · obtain ⟨z, rfl, q⟩ := h
    refine ⟨_, (pss_one (ps_ret (pe_and (pe_callB (call_isiK2 K) (by rfl) m_isinstance b_isinstance (pa_cons (pv 0) (pa_cons (pe_bltn rfl m_int (v := .ty "int") b_int rfl) pa_nil))) (pe_one (pe_not (pe_callB (call_isiK2 K) (by rfl) m_isinstance b_isinstance (pa_cons (pv 0) (pa_cons (pe_bltn rfl m_bool (v := .ty "bool") b_bool rfl) pa_nil)))))))), ?_⟩
    refine ⟨_, rfl, _, _, _, _, true, rfl, .ty "int", .base (.int z), kit_ty (by decide +kernel), true, rfl, iteT ?_⟩
    refine ⟨_, rfl, _, _, _, _, false, rfl, .ty "bool", .base (.int z), kit_ty (by decide +kernel), false, rfl, ?_⟩
    exact q

theorem sc_is_row_of : FnScope ["thing", "least", "most"] ["thing", "least", "most"] (defScope s_is_row_of) := ⟨rfl, rfl, rfl, by decide +kernel, rfl, by decide +kernel, by decide +kernel⟩
theorem ok_is_row_of (D : DefP K mg "is_row_of" s_is_row_of) (m_isinstance : mg "isinstance" = none) (m_tuple : mg "tuple" = none) (m_len : mg "len" = none) : Cal P w K mg base 1 "is_row_of" ["thing", "least", "most"] (sp_is_row_of) := by
  refine cal_mk (k := 0) D sc_is_row_of (fun vs H Q E h => ?_) (fun _ _ _ _ _ _ us hl => match us, hl with | [_, _, _], _ => rfl) (fun f cdv A outer s H vs Q hgd hr h => ?_)
  · obtain ⟨a, xs, l, m, rfl, _⟩ := h; rfl
  · obtain ⟨a, xs, l, m, rfl, ha, h1, h2, q⟩ := h
    refine ⟨_, (pss_one (ps_ret (pe_and (pe_callB (call_isiK2 K) (by rfl) m_isinstance b_isinstance (pa_cons (pv 0) (pa_cons (pe_bltn rfl m_tuple (v := .ty "tuple") b_tuple rfl) pa_nil))) (pe_one (pe_chain op_le op_le (pv 1) (pe_callB (call_lenK K) (by rfl) m_len b_len (pa_cons (pv 0) pa_nil)) (pv 2)))))), ?_⟩
    refine ⟨_, rfl, _, _, _, _, true, rfl, .ty "tuple", .base (.tup ha), kit_ty (by decide +kernel), true, rfl, iteT ?_⟩
    refine ⟨_, rfl, _, rfl, a, xs, rfl, .inr (SqT.of ha), l, _, rfl, rfl, _, rfl, ?_⟩
    rw [decide_eq_true h1]
    refine iteT ⟨_, rfl, _, m, rfl, rfl, ?_⟩
    refine (?_ : Q (.bl (decide (_ ≤ m))) H)
    rw [decide_eq_true h2]
    exact q

theorem sc_are_rising : FnScope ["numbers", "one", "other"] ["numbers"] (defScope s_are_rising) := ⟨rfl, rfl, rfl, by decide +kernel, rfl, by decide +kernel, by decide +kernel⟩
theorem ok_are_rising (D : DefP K mg "are_rising" s_are_rising) (m_all : mg "all" = none) (m_zip : mg "zip" = none) : Cal P w K mg base 1 "are_rising" ["numbers"] (sp_are_rising) := by
  refine cal_mk (k := 0) D sc_are_rising (fun vs H Q E h => ?_) (fun _ _ _ _ _ _ us hl => match us, hl with | [_], _ => rfl) (fun f cdv A outer s H vs Q hgd hr h => ?_)
  · obtain ⟨v, n, g, rfl, _⟩ := h; rfl
  · obtain ⟨v, n, g, rfl, ⟨a, rfl, ha⟩, hn1, hn, hb, q⟩ := h
    refine ⟨_, (pss_one (ps_ret (pe_callB (cr_allK K rfl) (by rfl) m_all b_all (pa_cons (pe_lc (own := [("one", 1), ("other", 2)]) rfl sc_are_rising.nd (pi_zipK K (by rfl) m_zip (pa_cons (pv 0) (pa_cons (pe_slice (sl_tupK K) (pv 0) (po_some pe_int) po_none) pa_nil))) (blkOk_by (by kernel_rfl)) (fun _ _ _ _ _ => (pg_tupK K (n := 2) rfl (pgs_cons (pg_name (i := 1) sc_are_rising.nd rfl (Or.inl rfl)) (pgs_cons (pg_name (i := 2) sc_are_rising.nd rfl (Or.inl rfl)) pgs_nil)))) (fun _ _ _ _ _ => pts_nil) (fun _ _ _ _ _ => (pe_cmpR op_lt (pv 1) (pv 2) (nomark _)))) pa_nil)))), ?_⟩
    refine ⟨_, rfl, _, rfl, 1, rfl, ?_⟩
    unfold tNoPart
    refine slice_one ha hn1 fun p np => ?_
    have g0 : Go [] H (upd H p (.tup (rowV (n - 1) (fun j => g (j + 1))))) := go_new np
    refine ⟨a, p, rowV n g, rowV (n - 1) (fun j => g (j + 1)), rfl, .inr ⟨SqT.of (g0.tup ha), SqT.of upd_same, fun D nD => ?_⟩⟩
    refine lcP2 (l := []) (walk_zipT (xs := rowV n g) (ys := rowV (n - 1) (fun j => g (j + 1))) (n := n - 1) (by rw [rowV_len]; omega) (by rw [rowV_len]; exact Nat.le_refl _) (.inr (by rw [rowV_len]; exact Nat.le_refl _))) (fun _ _ => True) (fun _ v _ => v = .bl true) nD lq_nil (by omega) (lcs_val fun _ _ _ h => h) trivial (fun i H' g _ => ⟨SqT.of ((g0.trans g).tup ha), SqT.of (g.tup upd_same)⟩) ?_ ?_
    · intro i x y H1 H2 hi g1 _ ex ey gT
      obtain ⟨_, rfl⟩ := rowV_at ex
      obtain ⟨_, rfl⟩ := rowV_at ey
      refine ⟨rfl, fun Q' q' => ⟨_, rfl, _, rfl, g i, g (i + 1), rfl, rfl, q' _ _ (Go.refl lq_nil) trivial ?_⟩⟩
      exact congrArg V.bl (decide_eq_true (hb i (by omega)))
    · intro H' acc g1 _ hA hl hv
      have e := all_true hl hv
      refine ⟨D, _, rfl, SqL.of (e ▸ hA), ?_⟩
      rw [all_id]
      exact q H' (g0.trans g1)

theorem sc_width : FnScope ["table"] ["table"] (defScope s_width) := ⟨rfl, rfl, rfl, by decide +kernel, rfl, by decide +kernel, by decide +kernel⟩
theorem ok_width (D : DefP K mg "width" s_width) (m_len : mg "len" = none) : Cal P w K mg base 1 "width" ["table"] (sp_width) := by
  refine cal_mk (k := 0) D sc_width (fun vs H Q E h => ?_) (fun _ _ _ _ _ _ us hl => match us, hl with | [_], _ => rfl) (fun f cdv A outer s H vs Q hgd hr h => ?_)
  · obtain ⟨v, m, n, f, rfl, _⟩ := h; rfl
  · obtain ⟨v, m, n, f, rfl, ht, hm, q⟩ := h
    refine ⟨_, (pss_one (ps_ret (pe_callB (call_lenK K) (by rfl) m_len b_len (pa_cons (pe_ix (ix_tupK K) (pv 0) pe_int (fun _ _ => rfl)) pa_nil)))), ?_⟩
    obtain ⟨a, vs, rfl, ha, hl, hk⟩ := id ht
    obtain ⟨vs', x, ha', hl', hx, b, rfl, hb⟩ := ht.at_ (i := 0) hm
    rw [ha] at ha'
    cases ha'
    refine ⟨_, rfl, a, vs, 0, .ref b, rfl, rfl, SqT.of ha, atI_nat hx, b, _, rfl, .inr (SqT.of hb), ?_⟩
    rw [rowV_len]
    exact q

theorem sc_column_of : FnScope ["table", "column", "row"] ["table", "column"] (defScope s_column_of) := ⟨rfl, rfl, rfl, by decide +kernel, rfl, by decide +kernel, by decide +kernel⟩
theorem ok_column_of (D : DefP K mg "column_of" s_column_of) (m_tuple : mg "tuple" = none) : Cal P w K mg base 1 "column_of" ["table", "column"] (sp_column_of) := by
  refine cal_mk (k := 0) D sc_column_of (fun vs H Q E h => ?_) (fun _ _ _ _ _ _ us hl => match us, hl with | [_, _], _ => rfl) (fun f cdv A outer s H vs Q hgd hr h => ?_)
  · obtain ⟨v, m, n, f, c, rfl, _⟩ := h; rfl
  · obtain ⟨v, m, n, f, c, rfl, ht, hc, hm, q⟩ := h
    refine ⟨_, (pss_one (ps_ret (pe_callTy (call_tuple_ofK K) (by rfl) m_tuple b_tuple (pa_cons (pe_lc (own := [("row", 2)]) rfl sc_column_of.nd (pi_tupK K (pv 0)) (blkOk_by (by kernel_rfl)) (fun _ _ _ _ _ => (pg_name (i := 2) sc_column_of.nd rfl (Or.inl rfl))) (fun _ _ _ _ _ => pts_nil) (fun _ _ _ _ _ => (pe_ix (ix_tupK K) (pv 2) (pv 1) (fun _ _ => rfl)))) pa_nil)))), ?_⟩
    obtain ⟨a, vs, rfl, ha, hl, hk⟩ := id ht
    refine ⟨_, rfl, a, rfl, ⟨_, SqT.of ha⟩, fun D nD => ?_⟩
    refine lcN (l := []) walk_tup (fun _ _ => True) (fun i v _ => v = .int (f i c)) nD lq_nil (by omega) (lcs_val fun _ _ _ h => h) trivial (fun i H' g _ => SqT.of (g.tup ha)) ?_ ?_
    · rintro i x H1 H2 hi g1 _ ⟨rfl, hx⟩
      obtain ⟨b, rfl, hb⟩ := hk i x hx
      exact ⟨rfl, fun Q' q' => ⟨_, rfl, _, rfl, b, _, c, _, rfl, rfl, SqT.of (g1.tup hb), atI_nat (rowV_get hc), q' _ _ (Go.refl lq_nil) trivial rfl⟩⟩
    · intro H' acc g1 _ hA hl2 hv
      have e := rowV_of hl2 hv
      subst e
      rw [hl] at hA
      exact ⟨D, _, rfl, .inl ⟨SqL.of hA, fun p np => q _ _ (g1.snew np) row_new⟩⟩

theorem sc_gain_of : FnScope ["table", "row", "other", "column", "last", "straight"] ["table", "row", "other", "column", "last"] (defScope s_gain_of) := ⟨rfl, rfl, rfl, by decide +kernel, rfl, by decide +kernel, by decide +kernel⟩
theorem ok_gain_of (D : DefP K mg "gain_of" s_gain_of) : Cal P w K mg base 1 "gain_of" ["table", "row", "other", "column", "last"] (sp_gain_of) := by
  refine cal_mk (k := 0) D sc_gain_of (fun vs H Q E h => ?_) (fun _ _ _ _ _ _ us hl => match us, hl with | [_, _, _, _, _], _ => rfl) (fun f cdv A outer s H vs Q hgd hr h => ?_)
  · obtain ⟨v, m, n, f, r, o, c, l, rfl, _⟩ := h; rfl
  · obtain ⟨v, m, n, f, r, o, c, l, rfl, ht, hr1, ho, hc, hl, q⟩ := h
    refine ⟨_, (pss_cons (ps_set (i := 5) sc_gain_of.nd rfl (Or.inl rfl) (pe_op op_add (pe_ix (ix_tupK K) (pe_ix (ix_tupK K) (pv 0) (pv 1) (fun _ _ => rfl)) (pv 3) (fun _ _ => rfl)) (pe_ix (ix_tupK K) (pe_ix (ix_tupK K) (pv 0) (pv 2) (fun _ _ => rfl)) (pv 4) (fun _ _ => rfl))))
      (pss_one (ps_ret (pe_op op_sub (pe_op op_add (pe_ix (ix_tupK K) (pe_ix (ix_tupK K) (pv 0) (pv 1) (fun _ _ => rfl)) (pv 4) (fun _ _ => rfl)) (pe_ix (ix_tupK K) (pe_ix (ix_tupK K) (pv 0) (pv 2) (fun _ _ => rfl)) (pv 3) (fun _ _ => rfl))) (pv 5))))), ?_⟩
    obtain ⟨a, vs, rfl, ha, hl2, hk⟩ := id ht
    obtain ⟨vs1, x1, ha1, _, hx1, b1, rfl, hb1⟩ := ht.at_ hr1
    obtain ⟨vs2, x2, ha2, _, hx2, b2, rfl, hb2⟩ := ht.at_ ho
    rw [ha] at ha1 ha2
    cases ha1
    cases ha2
    refine ⟨_, rfl, _, rfl, a, vs, r, .ref b1, rfl, rfl, SqT.of ha, atI_nat hx1, _, rfl, b1, _, c, _, rfl, rfl, SqT.of hb1, atI_nat (rowV_get hc), ?_⟩
    refine ⟨_, rfl, _, rfl, a, vs, o, .ref b2, rfl, rfl, SqT.of ha, atI_nat hx2, _, rfl, b2, _, l, _, rfl, rfl, SqT.of hb2, atI_nat (rowV_get hl), _, _, rfl, rfl, ?_⟩
    refine ⟨_, rfl, _, rfl, a, vs, r, .ref b1, rfl, rfl, SqT.of ha, atI_nat hx1, _, rfl, b1, _, l, _, rfl, rfl, SqT.of hb1, atI_nat (rowV_get hl), ?_⟩
    refine ⟨_, rfl, _, rfl, a, vs, o, .ref b2, rfl, rfl, SqT.of ha, atI_nat hx2, _, rfl, b2, _, c, _, rfl, rfl, SqT.of hb2, atI_nat (rowV_get hc), _, _, rfl, rfl, ?_⟩
    exact ⟨_, rfl, _, _, rfl, rfl, q⟩

theorem sc_mirrored_table : FnScope ["table"] ["table"] (defScope s_mirrored_table) := ⟨rfl, rfl, rfl, by decide +kernel, rfl, by decide +kernel, by decide +kernel⟩
theorem ok_mirrored_table (D : DefP K mg "mirrored_table" s_mirrored_table) : Cal P w K mg base 1 "mirrored_table" ["table"] (sp_mirrored_table) := by
  refine cal_mk (k := 0) D sc_mirrored_table (fun vs H Q E h => ?_) (fun _ _ _ _ _ _ us hl => match us, hl with | [_], _ => rfl) (fun f cdv A outer s H vs Q hgd hr h => ?_)
  · obtain ⟨v, m, n, f, rfl, _⟩ := h; rfl
  · obtain ⟨v, m, n, f, rfl, ht, q⟩ := h
    refine ⟨_, (pss_one (ps_ret (pe_revTK K (pv 0)))), ?_⟩
    obtain ⟨a, vs, rfl, ha, hl, hk⟩ := id ht
    refine ⟨_, rfl, a, vs, rfl, SqT.of ha, fun p np => q _ _ (go_new np) (tab_new (f := fun i j => f (m - 1 - i) j) (by rw [List.length_reverse, hl]) (fun i x hx => ?_) np)⟩
    have lt : i < vs.length := by
      have z := (List.getElem?_eq_some_iff.mp hx).1
      rw [List.length_reverse] at z
      exact z
    rw [List.getElem?_reverse lt, hl] at hx
    exact hk _ x hx

theorem sc_lifted_table : FnScope ["table", "rows", "columns", "found", "row", "more", "entry", "above"] ["table", "rows", "columns"] (defScope s_lifted_table) := ⟨rfl, rfl, rfl, by decide +kernel, rfl, by decide +kernel, by decide +kernel⟩
theorem ok_lifted_table (D : DefP K mg "lifted_table" s_lifted_table) (m_zip : mg "zip" = none) (m_tuple : mg "tuple" = none) : Cal P w K mg base 1 "lifted_table" ["table", "rows", "columns"] (sp_lifted_table) := by
  refine cal_mk (k := 0) D sc_lifted_table (fun vs H Q E h => ?_) (fun _ _ _ _ _ _ us hl => match us, hl with | [_, _, _], _ => rfl) (fun f cdv A outer s H vs Q hgd hr h => ?_)
  · obtain ⟨v, vr, vc, m, n, f, r, c, rfl, _⟩ := h; rfl
  · obtain ⟨v, vr, vc, m, n, f, r, c, rfl, ht, ⟨b, rfl, hb⟩, ⟨e, rfl, he⟩, hT, q⟩ := h
    refine ⟨_, (pss_cons (ps_set (i := 3) sc_lifted_table.nd rfl (Or.inl rfl) (pe_lst pa_nil))
      (pss_cons (ps_for PassesOwn.never rfl (pi_zipK K (by rfl) m_zip (pa_cons (pv 0) (pa_cons (pv 1) pa_nil))) (pg_tupK K (n := 2) rfl (pgs_cons (pg_name (i := 4) sc_lifted_table.nd rfl (Or.inl rfl)) (pgs_cons (pg_name (i := 5) sc_lifted_table.nd rfl (Or.inr rfl)) pgs_nil))) (pss_one (ps_expr (pe_bm PySem.F.plainAttrs_list PySem.F.slot_list_append PySem.F.type_list_append mt_append (pv 3) (pa_cons (pe_callTy (call_tuple_ofK K) (by rfl) m_tuple b_tuple (pa_cons (pe_lc (own := [("entry", 6), ("above", 7)]) rfl sc_lifted_table.nd (pi_zipK K (by rfl) m_zip (pa_cons (pv 4) (pa_cons (pv 2) pa_nil))) (blkOk_by (by kernel_rfl)) (fun _ _ _ _ _ => (pg_tupK K (n := 2) rfl (pgs_cons (pg_name (i := 6) sc_lifted_table.nd rfl (Or.inl rfl)) (pgs_cons (pg_name (i := 7) sc_lifted_table.nd rfl (Or.inl rfl)) pgs_nil)))) (fun _ _ _ _ _ => pts_nil) (fun _ _ _ _ _ => (pe_op op_add (pe_op op_add (pv 6) (pv 5)) (pv 7)))) pa_nil)) pa_nil)))))
      (pss_one (ps_ret (pe_callTy (call_tuple_ofK K) (by rfl) m_tuple b_tuple (pa_cons (pv 3) pa_nil)))))), ?_⟩
    obtain ⟨a, vs, rfl, ha, hl2, hk⟩ := id ht
    have h2 := hT.m9
    have h4 := hT.n9
    refine ⟨Nat.zero_le _, fun D nD => ?_⟩
    have g0 : Go [] H (upd H D (.lst [])) := go_new nD
    refine ⟨_, rfl, _, rfl, a, b, vs, rowV m r, rfl, .inr ⟨SqT.of (g0.tup ha), SqT.of (g0.tup hb), ?_⟩⟩
    refine for_it (walk_zipT (xs := vs) (ys := rowV m r) (n := m) (by omega) (by rw [rowV_len]; exact Nat.le_refl _) (.inl (by omega))) (fun i σ H1 => ∃ y4 y5, σ = [some (.ref a), some (.ref b), some (.ref e), some (.ref D), y4, y5, none, none] ∧ Go [] H H1 ∧ AccR H1 D i n (fun i j => f i j + r i + c j)) ⟨_, _, rfl, g0, accR_nil⟩ ?_ ?_ ?_
    · rintro i σ H1 _ ⟨y4, y5, rfl, g1, _⟩
      exact ⟨SqT.of (g1.tup ha), SqT.of (g1.tup hb)⟩
    · rintro i _ σ H1 _ hi ⟨y4, y5, rfl, g1, hA⟩ ⟨T, x, y, rfl, nT, rfl, ex, ey⟩
      have gT : Go [] H1 (upd H1 T (.tup [x, y])) := go_new nT
      obtain ⟨b2, rfl, hb2⟩ := hk i x ex
      obtain ⟨_, rfl⟩ := rowV_at ey
      refine ⟨T, _, rfl, SqT.of upd_same, rfl, _, _, rfl, _, [], rfl, rfl, ?_⟩
      obtain ⟨acc, hD, hacc, hrow⟩ := hA.go gT List.not_mem_nil
      refine ⟨_, rfl, .inl ⟨rfl, _, SqL.of hD⟩, ?_⟩
      refine ⟨_, rfl, _, rfl, b2, e, rowV n (f i), rowV n c, rfl, .inr ⟨SqT.of ((g1.trans gT).tup hb2), SqT.of ((g1.trans gT).tup he), fun D2 nD2 => ?_⟩⟩
      refine lcP2 (l := []) (walk_zipT (xs := rowV n (f i)) (ys := rowV n c) (n := n) (by rw [rowV_len]; exact Nat.le_refl _) (by rw [rowV_len]; exact Nat.le_refl _) (.inl (by rw [rowV_len]; exact Nat.le_refl _))) (fun _ _ => True) (fun j v _ => v = .int (f i j + r i + c j)) nD2 lq_nil (by omega) (lcs_val fun _ _ _ h => h) trivial (fun j H' g _ => ⟨SqT.of (((g1.trans gT).trans g).tup hb2), SqT.of (((g1.trans gT).trans g).tup he)⟩) ?_ ?_
      · intro j x y H2 H3 hj g2 _ ex ey gT2
        obtain ⟨_, rfl⟩ := rowV_at ex
        obtain ⟨_, rfl⟩ := rowV_at ey
        exact ⟨rfl, fun Q' q' => ⟨_, rfl, _, rfl, _, _, rfl, rfl, _, rfl, _, _, rfl, rfl, q' _ _ (Go.refl lq_nil) trivial rfl⟩⟩
      · intro H2 acc2 g2 _ hB hl hv
        have e := rowV_of hl hv
        subst e
        refine ⟨D2, _, rfl, .inl ⟨SqL.of hB, fun p np => ?_⟩⟩
        have g3 := g2.snew np (o := .tup (rowV n (fun j => f i j + r i + c j)))
        obtain ⟨acc, hD, hacc, hrow⟩ := (hA.go gT List.not_mem_nil).go g3 List.not_mem_nil
        refine ⟨D, acc, .ref p, rfl, rfl, hD, by rw [hacc]; exact small1000 (by omega), ?_⟩
        exact ⟨_, _, rfl, ((g1.trans gT).trans g3).mut nD, accR_push hD hacc hrow row_new⟩
    · rintro σ H1 ⟨y4, y5, rfl, g1, hA⟩
      have hA2 := hA
      obtain ⟨acc, hD, hacc, hrow⟩ := hA2
      refine ⟨_, rfl, D, acc, rfl, .inl ⟨SqL.of hD, fun p np => ?_⟩⟩
      exact q _ _ (g1.snew np) (accR_tab hA np hD)

theorem sc_added_table : FnScope ["table", "other", "found", "row", "line", "one", "more"] ["table", "other"] (defScope s_added_table) := ⟨rfl, rfl, rfl, by decide +kernel, rfl, by decide +kernel, by decide +kernel⟩
theorem ok_added_table (D : DefP K mg "added_table" s_added_table) (m_zip : mg "zip" = none) (m_tuple : mg "tuple" = none) : Cal P w K mg base 1 "added_table" ["table", "other"] (sp_added_table) := by
  refine cal_mk (k := 0) D sc_added_table (fun vs H Q E h => ?_) (fun _ _ _ _ _ _ us hl => match us, hl with | [_, _], _ => rfl) (fun f cdv A outer s H vs Q hgd hr h => ?_)
  · obtain ⟨v, v2, m, n, f, g, rfl, _⟩ := h; rfl
  · obtain ⟨v, v2, m, n, f, g, rfl, ht, hu, hT, q⟩ := h
    refine ⟨_, (pss_cons (ps_set (i := 2) sc_added_table.nd rfl (Or.inl rfl) (pe_lst pa_nil))
      (pss_cons (ps_for PassesOwn.never rfl (pi_zipK K (by rfl) m_zip (pa_cons (pv 0) (pa_cons (pv 1) pa_nil))) (pg_tupK K (n := 2) rfl (pgs_cons (pg_name (i := 3) sc_added_table.nd rfl (Or.inl rfl)) (pgs_cons (pg_name (i := 4) sc_added_table.nd rfl (Or.inl rfl)) pgs_nil))) (pss_one (ps_expr (pe_bm PySem.F.plainAttrs_list PySem.F.slot_list_append PySem.F.type_list_append mt_append (pv 2) (pa_cons (pe_callTy (call_tuple_ofK K) (by rfl) m_tuple b_tuple (pa_cons (pe_lc (own := [("one", 5), ("more", 6)]) rfl sc_added_table.nd (pi_zipK K (by rfl) m_zip (pa_cons (pv 3) (pa_cons (pv 4) pa_nil))) (blkOk_by (by kernel_rfl)) (fun _ _ _ _ _ => (pg_tupK K (n := 2) rfl (pgs_cons (pg_name (i := 5) sc_added_table.nd rfl (Or.inl rfl)) (pgs_cons (pg_name (i := 6) sc_added_table.nd rfl (Or.inl rfl)) pgs_nil)))) (fun _ _ _ _ _ => pts_nil) (fun _ _ _ _ _ => (pe_op op_add (pv 5) (pv 6)))) pa_nil)) pa_nil)))))
      (pss_one (ps_ret (pe_callTy (call_tuple_ofK K) (by rfl) m_tuple b_tuple (pa_cons (pv 2) pa_nil)))))), ?_⟩
    obtain ⟨a, vs, rfl, ha, hl2, hk⟩ := id ht
    obtain ⟨b, ws, rfl, hb, hl3, hk3⟩ := id hu
    have h2 := hT.m9
    have h4 := hT.n9
    refine ⟨Nat.zero_le _, fun D nD => ?_⟩
    have g0 : Go [] H (upd H D (.lst [])) := go_new nD
    refine ⟨_, rfl, _, rfl, a, b, vs, ws, rfl, .inr ⟨SqT.of (g0.tup ha), SqT.of (g0.tup hb), ?_⟩⟩
    refine for_it (walk_zipT (xs := vs) (ys := ws) (n := m) (by omega) (by omega) (.inl (by omega))) (fun i σ H1 => ∃ y4 y5, σ = [some (.ref a), some (.ref b), some (.ref D), y4, y5, none, none] ∧ Go [] H H1 ∧ AccR H1 D i n (fun i j => f i j + g i j)) ⟨_, _, rfl, g0, accR_nil⟩ ?_ ?_ ?_
    · rintro i σ H1 _ ⟨y4, y5, rfl, g1, _⟩
      exact ⟨SqT.of (g1.tup ha), SqT.of (g1.tup hb)⟩
    · rintro i _ σ H1 _ hi ⟨y4, y5, rfl, g1, hA⟩ ⟨T, x, y, rfl, nT, rfl, ex, ey⟩
      have gT : Go [] H1 (upd H1 T (.tup [x, y])) := go_new nT
      obtain ⟨b2, rfl, hb2⟩ := hk i x ex
      obtain ⟨e, rfl, he⟩ := hk3 i y ey
      refine ⟨T, _, rfl, SqT.of upd_same, rfl, _, _, rfl, _, [], rfl, rfl, ?_⟩
      obtain ⟨acc, hD, hacc, hrow⟩ := hA.go gT List.not_mem_nil
      refine ⟨_, rfl, .inl ⟨rfl, _, SqL.of hD⟩, ?_⟩
      refine ⟨_, rfl, _, rfl, b2, e, rowV n (f i), rowV n (g i), rfl, .inr ⟨SqT.of ((g1.trans gT).tup hb2), SqT.of ((g1.trans gT).tup he), fun D2 nD2 => ?_⟩⟩
      refine lcP2 (l := []) (walk_zipT (xs := rowV n (f i)) (ys := rowV n (g i)) (n := n) (by rw [rowV_len]; exact Nat.le_refl _) (by rw [rowV_len]; exact Nat.le_refl _) (.inl (by rw [rowV_len]; exact Nat.le_refl _))) (fun _ _ => True) (fun j v _ => v = .int (f i j + g i j)) nD2 lq_nil (by omega) (lcs_val fun _ _ _ h => h) trivial (fun j H' g _ => ⟨SqT.of (((g1.trans gT).trans g).tup hb2), SqT.of (((g1.trans gT).trans g).tup he)⟩) ?_ ?_
      · intro j x y H2 H3 hj g2 _ ex ey gT2
        obtain ⟨_, rfl⟩ := rowV_at ex
        obtain ⟨_, rfl⟩ := rowV_at ey
        exact ⟨rfl, fun Q' q' => ⟨_, rfl, _, rfl, _, _, rfl, rfl, q' _ _ (Go.refl lq_nil) trivial rfl⟩⟩
      · intro H2 acc2 g2 _ hB hl hv
        have e := rowV_of hl hv
        subst e
        refine ⟨D2, _, rfl, .inl ⟨SqL.of hB, fun p np => ?_⟩⟩
        have g3 := g2.snew np (o := .tup (rowV n (fun j => f i j + g i j)))
        obtain ⟨acc, hD, hacc, hrow⟩ := (hA.go gT List.not_mem_nil).go g3 List.not_mem_nil
        refine ⟨D, acc, .ref p, rfl, rfl, hD, by rw [hacc]; exact small1000 (by omega), ?_⟩
        exact ⟨_, _, rfl, ((g1.trans gT).trans g3).mut nD, accR_push hD hacc hrow row_new⟩
    · rintro σ H1 ⟨y4, y5, rfl, g1, hA⟩
      have hA2 := hA
      obtain ⟨acc, hD, hacc, hrow⟩ := hA2
      refine ⟨_, rfl, D, acc, rfl, .inl ⟨SqL.of hD, fun p np => ?_⟩⟩
      exact q _ _ (g1.snew np) (accR_tab hA np hD)

theorem sc_scaled_table : FnScope ["table", "times", "row", "entry"] ["table", "times"] (defScope s_scaled_table) := ⟨rfl, rfl, rfl, by decide +kernel, rfl, by decide +kernel, by decide +kernel⟩
theorem ok_scaled_table (D : DefP K mg "scaled_table" s_scaled_table) (m_tuple : mg "tuple" = none) : Cal P w K mg base 1 "scaled_table" ["table", "times"] (sp_scaled_table) := by
  refine cal_mk (k := 0) D sc_scaled_table (fun vs H Q E h => ?_) (fun _ _ _ _ _ _ us hl => match us, hl with | [_, _], _ => rfl) (fun f cdv A outer s H vs Q hgd hr h => ?_)
  · obtain ⟨v, m, n, f, t, rfl, _⟩ := h; rfl
  · obtain ⟨v, m, n, f, t, rfl, ht, hT, t0, t1, q⟩ := h
    refine ⟨_, (pss_one (ps_ret (pe_callTy (call_tuple_ofK K) (by rfl) m_tuple b_tuple (pa_cons (pe_lc (own := [("row", 2)]) rfl sc_scaled_table.nd (pi_tupK K (pv 0)) (blkOk_by (by kernel_rfl)) (fun _ _ _ _ _ => (pg_name (i := 2) sc_scaled_table.nd rfl (Or.inl rfl))) (fun _ _ _ _ _ => pts_nil) (fun _ _ _ _ _ => (pe_callTy (call_tuple_ofK K) (by rfl) m_tuple b_tuple (pa_cons (pe_lc (own := [("entry", 3)]) rfl sc_scaled_table.nd (pi_tupK K (pv 2)) (blkOk_by (by kernel_rfl)) (fun _ _ _ _ _ => (pg_name (i := 3) sc_scaled_table.nd rfl (Or.inl rfl))) (fun _ _ _ _ _ => pts_nil) (fun _ _ _ _ _ => (pe_op op_mul (pv 3) (pv 1)))) pa_nil)))) pa_nil)))), ?_⟩
    obtain ⟨a, vs, rfl, ha, hl, hk⟩ := id ht
    have h2 := hT.m9
    have h4 := hT.n9
    refine ⟨_, rfl, a, rfl, ⟨_, SqT.of ha⟩, fun D nD => ?_⟩
    refine lcN (l := []) walk_tup (fun _ _ => True) (fun i v H' => RowT H' v n (fun j => f i j * t)) nD lq_nil (by omega) (lcs_row (f := fun i j => f i j * t) fun _ _ _ h => h) trivial (fun i H' g _ => SqT.of (g.tup ha)) ?_ ?_
    · rintro i x H1 H2 hi g1 _ ⟨rfl, hx⟩
      obtain ⟨b, rfl, hb⟩ := hk i x hx
      refine ⟨rfl, fun Q' q' => ⟨_, rfl, b, rfl, ⟨_, SqT.of (g1.tup hb)⟩, fun D2 nD2 => ?_⟩⟩
      refine lcN (l := []) walk_tup (fun _ _ => True) (fun j v _ => v = .int (f i j * t)) nD2 lq_nil (by rw [rowV_len]; omega) (lcs_val fun _ _ _ h => h) trivial (fun i H' g _ => SqT.of ((g1.trans g).tup hb)) ?_ ?_
      · rintro j x H3 H4 hj g2 _ ⟨rfl, hx⟩
        obtain ⟨_, rfl⟩ := rowV_at hx
        exact ⟨rfl, fun Q2 q2 => ⟨_, rfl, _, rfl, _, _, rfl, rfl, .inr ⟨by omega, by omega⟩, q2 _ _ (Go.refl lq_nil) trivial rfl⟩⟩
      · intro H3 acc2 g2 _ hB hl2 hv
        have e := rowV_of (hl2.trans (rowV_len _ _)) hv
        subst e
        exact ⟨D2, _, rfl, .inl ⟨SqL.of hB, fun p np => q' _ _ (g2.snew np) trivial row_new⟩⟩
    · intro H' acc g1 _ hA hl2 hv
      exact ⟨D, _, rfl, .inl ⟨SqL.of hA, fun p np => q _ _ (g1.snew np) (tab_new (f := fun i j => f i j * t) (hl2.trans hl) hv np)⟩⟩

theorem sc_thinned_table : FnScope ["table", "rows", "columns", "row", "column"] ["table", "rows", "columns"] (defScope s_thinned_table) := ⟨rfl, rfl, rfl, by decide +kernel, rfl, by decide +kernel, by decide +kernel⟩
theorem ok_thinned_table (D : DefP K mg "thinned_table" s_thinned_table) (m_tuple : mg "tuple" = none) : Cal P w K mg base 1 "thinned_table" ["table", "rows", "columns"] (sp_thinned_table) := by
  refine cal_mk (k := 0) D sc_thinned_table (fun vs H Q E h => ?_) (fun _ _ _ _ _ _ us hl => match us, hl with | [_, _, _], _ => rfl) (fun f cdv A outer s H vs Q hgd hr h => ?_)
  · obtain ⟨v, vr, vc, m, n, f, p, r, q, c, rfl, _⟩ := h; rfl
  · obtain ⟨v, vr, vc, m, n, f, p, r, s, c, rfl, ht, hT, hr2, hc2, q⟩ := h
    refine ⟨_, (pss_one (ps_ret (pe_callTy (call_tuple_ofK K) (by rfl) m_tuple b_tuple (pa_cons (pe_lc (own := [("row", 3)]) rfl sc_thinned_table.nd (pi_tupK K (pv 1)) (blkOk_by (by kernel_rfl)) (fun _ _ _ _ _ => (pg_name (i := 3) sc_thinned_table.nd rfl (Or.inr rfl))) (fun _ _ _ _ _ => pts_nil) (fun _ _ _ _ _ => (pe_callTy (call_tuple_ofK K) (by rfl) m_tuple b_tuple (pa_cons (pe_lc (own := [("column", 4)]) rfl sc_thinned_table.nd (pi_tupK K (pv 2)) (blkOk_by (by kernel_rfl)) (fun _ _ _ _ _ => (pg_name (i := 4) sc_thinned_table.nd rfl (Or.inl rfl))) (fun _ _ _ _ _ => pts_nil) (fun _ _ _ _ _ => (pe_ix (ix_tupK K) (pe_ix (ix_tupK K) (pv 0) (pv 3) (fun _ _ => rfl)) (pv 4) (fun _ _ => rfl)))) pa_nil)))) pa_nil)))), ?_⟩
    obtain ⟨a, vs, rfl, ha, hl, hk⟩ := id ht
    obtain ⟨b, rfl, hb⟩ := hr2.row
    obtain ⟨e, rfl, he⟩ := hc2.row
    have h2 := hT.m9
    have h4 := hT.n9
    have n1 := hr2.nc
    have n2 := hc2.nc
    refine ⟨_, rfl, b, rfl, ⟨_, SqT.of hb⟩, fun D nD => ?_⟩
    refine lcN (l := []) walk_tup (fun _ _ => True) (fun i v H' => RowT H' v s (fun j => f (r i) (c j))) nD lq_nil (by rw [rowV_len]; omega) (lcs_row (f := fun i j => f (r i) (c j)) fun _ _ _ h => h) trivial (fun i H' g _ => SqT.of (g.tup hb)) ?_ ?_
    · rintro i x H1 H2 hi g1 _ ⟨rfl, hx⟩
      obtain ⟨lt, rfl⟩ := rowV_at hx
      obtain ⟨vs1, x1, ha1, _, hx1, b1, rfl, hb1⟩ := ht.at_ (hr2.lt i lt)
      rw [ha] at ha1
      cases ha1
      refine ⟨rfl, fun Q' q' => ⟨_, rfl, e, rfl, ⟨_, SqT.of (g1.tup he)⟩, fun D2 nD2 => ?_⟩⟩
      refine lcN (l := []) walk_tup (fun _ _ => True) (fun j v _ => v = .int (f (r i) (c j))) nD2 lq_nil (by rw [rowV_len]; omega) (lcs_val fun _ _ _ h => h) trivial (fun i H' g _ => SqT.of ((g1.trans g).tup he)) ?_ ?_
      · rintro j x H3 H4 hj g2 _ ⟨rfl, hx⟩
        obtain ⟨lt2, rfl⟩ := rowV_at hx
        exact ⟨rfl, fun Q2 q2 => ⟨_, rfl, _, rfl, a, vs, (r i : Int), .ref b1, rfl, rfl, SqT.of ((g1.trans g2).tup ha), atI_nat hx1, _, rfl, b1, _, (c j : Int), _, rfl, rfl, SqT.of ((g1.trans g2).tup hb1), atI_nat (rowV_get (hc2.lt j lt2)), q2 _ _ (Go.refl lq_nil) trivial rfl⟩⟩
      · intro H3 acc2 g2 _ hB hl2 hv
        have e := rowV_of (hl2.trans (rowV_len _ _)) hv
        subst e
        exact ⟨D2, _, rfl, .inl ⟨SqL.of hB, fun p np => q' _ _ (g2.snew np) trivial row_new⟩⟩
    · intro H' acc g1 _ hA hl2 hv
      exact ⟨D, _, rfl, .inl ⟨SqL.of hA, fun p np => q _ _ (g1.snew np) (tab_new (f := fun i j => f (r i) (c j)) (hl2.trans (rowV_len _ _)) hv np)⟩⟩

theorem sc_sums_up_to : FnScope ["numbers", "found", "number"] ["numbers"] (defScope s_sums_up_to) := ⟨rfl, rfl, rfl, by decide +kernel, rfl, by decide +kernel, by decide +kernel⟩
theorem ok_sums_up_to (D : DefP K mg "sums_up_to" s_sums_up_to) : Cal P w K mg base 1 "sums_up_to" ["numbers"] (sp_sums_up_to) := by
  refine cal_mk (k := 0) D sc_sums_up_to (fun vs H Q E h => ?_) (fun _ _ _ _ _ _ us hl => match us, hl with | [_], _ => rfl) (fun f cdv A outer s H vs Q hgd hr h => ?_)
  · obtain ⟨v, n, g, rfl, _⟩ := h; rfl
  · obtain ⟨v, n, g, rfl, ⟨a, rfl, ha⟩, hn, q⟩ := h
    refine ⟨_, (pss_cons (ps_set (i := 1) sc_sums_up_to.nd rfl (Or.inl rfl) (pe_lst (pa_cons pe_int pa_nil)))
      (pss_cons (ps_for PassesOwn.never rfl (pi_tupK K (pv 0)) (pg_name (i := 2) sc_sums_up_to.nd rfl (Or.inl rfl)) (pss_one (ps_expr (pe_bm PySem.F.plainAttrs_list PySem.F.slot_list_append PySem.F.type_list_append mt_append (pv 1) (pa_cons (pe_op op_add (pe_ix (ix_listK K) (pv 1) (pe_un un_neg pe_int) (fun _ _ => rfl)) (pv 2)) pa_nil)))))
      (pss_one (ps_ret (pv 1))))), ?_⟩
    refine ⟨by show 1 ≤ sizeLine; decide, fun D nD => ?_⟩
    have g0 : Go [] H (upd H D (.lst [.int 0])) := go_new nD
    refine ⟨_, rfl, a, rfl, ⟨_, SqT.of (g0.tup ha)⟩, ?_⟩
    refine for_it (walk_tup (xs := rowV n g)) (fun i σ H1 => ∃ y, σ = [some (.ref a), some (.ref D), y] ∧ Go [] H H1 ∧ H1 D = some (.lst (rowV (i + 1) (psum g)))) ⟨_, rfl, g0, upd_same⟩ ?_ ?_ ?_
    · rintro i σ H1 _ ⟨y, rfl, g1, _⟩
      exact SqT.of (g1.tup ha)
    · rintro i x σ H0 H1 hi ⟨y, rfl, g1, hD⟩ ⟨rfl, hx⟩
      obtain ⟨lt, rfl⟩ := rowV_at hx
      have hD2 := hD
      rw [rowV_succ] at hD2
      refine ⟨_, rfl, .inl ⟨rfl, _, SqL.of hD⟩, ?_⟩
      refine ⟨_, rfl, 1, rfl, D, _, -1, .int (psum g i), rfl, rfl, SqL.of hD2, atI_last _ _, _, rfl, _, _, rfl, rfl, D, _, _, rfl, rfl, hD, by rw [rowV_len]; exact small1000 (by omega), ?_⟩
      refine ⟨_, rfl, g1.mut nD, ?_⟩
      rw [upd_same, rowV_succ (i + 1)]
      rfl
    · rintro σ H1 ⟨y, rfl, g1, hD⟩
      rw [rowV_len] at hD
      exact ⟨_, rfl, q _ _ g1 ⟨D, rfl, hD⟩⟩

theorem sc_least_there : FnScope ["gains", "places", "found", "row", "column"] ["gains", "places"] (defScope s_least_there) := ⟨rfl, rfl, rfl, by decide +kernel, rfl, by decide +kernel, by decide +kernel⟩
theorem ok_least_there (D : DefP K mg "least_there" s_least_there) (m_len : mg "len" = none) (m_min : mg "min" = none) : Cal P w K mg base 1 "least_there" ["gains", "places"] (sp_least_there) := by
  refine cal_mk (k := 0) D sc_least_there (fun vs H Q E h => ?_) (fun _ _ _ _ _ _ us hl => match us, hl with | [_, _], _ => rfl) (fun f cdv A outer s H vs Q hgd hr h => ?_)
  · obtain ⟨vg, m, n, G, a, p1, p2, r1, c1, r2, c2, rfl, _⟩ := h; rfl
  · obtain ⟨vg, m, n, G, a, p1, p2, r1, c1, r2, c2, rfl, ht, ha, hp1, hp2, q⟩ := h
    refine ⟨_, (pss_cons (ps_set (i := 2) sc_least_there.nd rfl (Or.inl rfl) pe_non)
      (pss_cons (ps_for PassesOwn.never rfl (pi_listK K (pv 1)) (pg_tupK K (n := 2) rfl (pgs_cons (pg_name (i := 3) sc_least_there.nd rfl (Or.inl rfl)) (pgs_cons (pg_name (i := 4) sc_least_there.nd rfl (Or.inl rfl)) pgs_nil))) (pss_one (ps_if (PW.pt (pw_and (pt_chain op_le op_lt pe_int (pv 3) (pe_callB (call_lenK K) (by rfl) m_len b_len (pa_cons (pv 0) pa_nil))) (pw_and1 (pt_chain op_le op_lt pe_int (pv 4) (pe_callB (call_lenK K) (by rfl) m_len b_len (pa_cons (pe_ix (ix_tupK K) (pv 0) (pv 3) (fun _ _ => rfl)) pa_nil)))))) (pss_one (ps_set (i := 2) sc_least_there.nd rfl (Or.inl rfl) (pe_ifExp (pt_cmp (pc_isN (pv 2))) (pe_ix (ix_tupK K) (pe_ix (ix_tupK K) (pv 0) (pv 3) (fun _ _ => rfl)) (pv 4) (fun _ _ => rfl)) (pe_callB (call_min2 rfl) (by rfl) m_min b_min (pa_cons (pv 2) (pa_cons (pe_ix (ix_tupK K) (pe_ix (ix_tupK K) (pv 0) (pv 3) (fun _ _ => rfl)) (pv 4) (fun _ _ => rfl)) pa_nil)))))) pss_nil)))
      (pss_one (ps_ret (pv 2))))), ?_⟩
    obtain ⟨ag, vs, rfl, hg, hl, hk⟩ := id ht
    have key : ∀ i, i < 2 → ∃ (p : Addr) (r c : Int) (w0 : V), ([V.ref p1, V.ref p2] : List V)[i]? = some (.ref p) ∧ H p = some (.tup [.int r, .int c]) ∧ (w0 = .non ∨ ∃ x, w0 = .int x) ∧
        (if i = 0 then V.non else if i = 1 then stepV .non (cell m n G r1 c1) else leastV (cell m n G r1 c1) (cell m n G r2 c2)) = w0 ∧
        (if i + 1 = 0 then V.non else if i + 1 = 1 then stepV .non (cell m n G r1 c1) else leastV (cell m n G r1 c1) (cell m n G r2 c2)) = stepV w0 (cell m n G r c) := by
      intro i hi
      match i, hi with
      | 0, _ => exact ⟨p1, r1, c1, .non, rfl, hp1, .inl rfl, rfl, rfl⟩
      | 1, _ => exact ⟨p2, r2, c2, _, rfl, hp2, stepV_kind (.inl rfl) _, rfl, leastV_step _ _⟩
    refine ⟨_, rfl, a, rfl, ⟨_, SqL.of ha⟩, ?_⟩
    refine for_it (walk_list (xs := [.ref p1, .ref p2])) (fun i σ H1 => ∃ y3 y4, σ = [some (.ref ag), some (.ref a), some (if i = 0 then V.non else if i = 1 then stepV .non (cell m n G r1 c1) else leastV (cell m n G r1 c1) (cell m n G r2 c2)), y3, y4] ∧ Go [] H H1) ⟨_, _, rfl, go0⟩ ?_ ?_ ?_
    · rintro i σ H1 _ ⟨y3, y4, rfl, g1⟩
      exact SqL.of (g1.keep List.not_mem_nil ha)
    · rintro i x σ H0 H1 hi ⟨y3, y4, rfl, g1⟩ ⟨rfl, hx⟩
      obtain ⟨p, r, c, w0, hp, hH, hw, e1, e2⟩ := key i hi
      rw [hp] at hx
      cases hx
      rw [e1]
      refine ⟨p, _, rfl, SqT.of (g1.tup hH), rfl, _, _, rfl, _, [], rfl, rfl, ?_⟩
      have done : ∀ {w1 : V} {σ' : L2.St}, stepV w0 (cell m n G r c) = w1 → σ' = [some (.ref ag), some (.ref a), some w1, some (.int r), some (.int c)] →
          ∃ y3 y4, σ' = [some (.ref ag), some (.ref a), some (if i + 1 = 0 then V.non else if i + 1 = 1 then stepV .non (cell m n G r1 c1) else leastV (cell m n G r1 c1) (cell m n G r2 c2)), y3, y4] ∧ Go [] H H1 := by
        intro w1 σ' h1 h2
        rw [e2, h1]
        exact ⟨_, _, h2, g1⟩
      have off : ¬ (0 ≤ r ∧ r < (m : Int) ∧ 0 ≤ c ∧ c < (n : Int)) → stepV w0 (cell m n G r c) = w0 := by
        intro h
        unfold cell
        rw [if_neg h]
        cases w0 <;> rfl
      refine ⟨_, rfl, 0, r, rfl, rfl, _, rfl, ?_⟩
      by_cases h1 : 0 ≤ r
      · rw [decide_eq_true h1]
        refine iteT ⟨_, rfl, ag, vs, rfl, .inr (SqT.of (g1.tup hg)), r, _, rfl, rfl, _, rfl, ?_⟩
        by_cases h2 : r < ((vs.length : Nat) : Int)
        · rw [decide_eq_true h2]
          refine iteT ⟨_, rfl, 0, c, rfl, rfl, _, rfl, ?_⟩
          have hr : r.toNat < m := by omega
          obtain ⟨vs', x, hg', _, hx, b, rfl, hb⟩ := ht.at_ hr
          rw [hg] at hg'
          cases hg'
          have hb1 := g1.tup hb
          have hg1 := g1.tup hg
          have ir : atI vs r = some (.ref b) := at_of (j := r.toNat) (by omega) hx
          by_cases h3 : 0 ≤ c
          · rw [decide_eq_true h3]
            refine iteT ⟨_, rfl, _, rfl, ag, vs, r, _, rfl, rfl, SqT.of hg1, ir, b, _, rfl, .inr (SqT.of hb1), c, _, rfl, rfl, _, rfl, ?_⟩
            by_cases h4 : c < (((rowV n (G r.toNat)).length : Nat) : Int)
            · rw [decide_eq_true h4]
              rw [rowV_len] at h4
              have ic : atI (rowV n (G r.toNat)) c = some (.int (G r.toNat c.toNat)) := at_of (j := c.toNat) (by omega) (rowV_get (by omega))
              have on : cell m n G r c = some (G r.toNat c.toNat) := by
                unfold cell
                rw [if_pos ⟨h1, by omega, h3, h4⟩]
              rw [on] at done
              refine iteT ⟨_, rfl, _, rfl, ?_⟩
              rcases hw with rfl | ⟨x, rfl⟩
              · rw [decide_eq_true rfl]
                refine iteT ⟨_, rfl, _, rfl, ag, vs, r, _, rfl, rfl, SqT.of hg1, ir, _, rfl, b, _, c, _, rfl, rfl, SqT.of hb1, ic, ?_⟩
                exact done rfl rfl
              · rw [decide_eq_false (fun z => nomatch z)]
                refine iteF ⟨_, rfl, _, rfl, _, rfl, ag, vs, r, _, rfl, rfl, SqT.of hg1, ir, _, rfl, b, _, c, _, rfl, rfl, SqT.of hb1, ic, _, _, rfl, ?_⟩
                exact done rfl rfl
            · rw [decide_eq_false h4]
              rw [rowV_len] at h4
              refine iteF ?_
              exact done (off (by omega)) rfl
          · rw [decide_eq_false h3]
            refine iteF ⟨false, rfl, ?_⟩
            refine iteF ?_
            exact done (off (by omega)) rfl
        · rw [decide_eq_false h2]
          refine iteF ?_
          refine iteF ?_
          exact done (off (by omega)) rfl
      · rw [decide_eq_false h1]
        refine iteF ⟨false, rfl, ?_⟩
        refine iteF ?_
        refine iteF ?_
        exact done (off (by omega)) rfl
    · rintro σ H1 ⟨y3, y4, rfl, g1⟩
      exact ⟨_, rfl, q H1 g1⟩

theorem sc_l_feed : FnScope ["_law_script", "_law_k", "_law_cell"] ["_law_script", "_law_k"] (defScope s_l_feed) := ⟨rfl, rfl, rfl, by decide +kernel, rfl, by decide +kernel, by decide +kernel⟩
theorem ok_l_feed (D : DefP K mg "_law_feed" s_l_feed) (m_sum : mg "sum" = none) (m_len : mg "len" = none) (m_max : mg "max" = none) (m_int : mg "int" = none) : Cal P w K mg base 1 "_law_feed" ["_law_script", "_law_k"] (sp_l_feed K) := by
  refine cal_mk (k := 0) D sc_l_feed (fun vs H Q E h => ?_) (fun _ _ _ _ _ _ us hl => match us, hl with | [_, _], _ => rfl) (fun f cdv A outer s H vs Q hgd hr h => ?_)
  · obtain ⟨a, ns, k, rfl, _⟩ := h; rfl
  · obtain ⟨a, ns, k, rfl, hs, hk, hn, hb, q⟩ := h
    refine ⟨_, (pss_cons (ps_set (i := 2) sc_l_feed.nd rfl (Or.inl rfl) (pe_op op_add (pe_op op_mul pe_int (pv 1)) (pe_callB (cr_sumK K rfl) (by rfl) m_sum b_sum (pa_cons (pe_slice (sl_listK K) (pv 0) po_none (po_some pe_int)) pa_nil))))
      (pss_cons (ps_if (pt_cmpR op_lt (pv 1) (pe_callB (call_lenK K) (by rfl) m_len b_len (pa_cons (pv 0) pa_nil)) (nomark _)) (pss_one (ps_set (i := 2) sc_l_feed.nd rfl (Or.inl rfl) (pe_ix (ix_listK K) (pv 0) (pv 1) (fun _ _ => rfl)))) pss_nil)
      (pss_one (ps_ret (pe_lst (pa_cons (pe_callB (call_max2 rfl) (by rfl) m_max b_max (pa_cons pe_int (pa_cons (pe_op op_sub (pv 2) (pe_op op_pow pe_int pe_int)) pa_nil))) (pa_cons (pe_op op_mod (pe_callTy call_int1 (by rfl) m_int b_int (pa_cons (pe_op op_add (pe_op op_mul (pv 2) pe_int) (pe_op op_mul pe_int (pv 1))) pa_nil)) (pe_op op_add (pe_op op_pow pe_int pe_int) pe_int)) (pa_cons pe_int pa_nil)))))))), ?_⟩
    obtain ⟨N, hN⟩ : ∃ N : Nat, N = 1048576 := ⟨_, rfl⟩
    rw [← hN] at hb
    have fin : ∀ (c : Int) (b : Addr) (H1 : Hp), c.natAbs < 2 ^ (N + 13) → H1 b = none → Go [] H H1 → Q (.ref b) (upd H1 b (.lst [.int (if c - 10 ^ 18 > 0 then c - 10 ^ 18 else 0), .int ((c * 19 + 7 * (k : Int)) % (10 ^ 39 + 23)), .int 0])) := by
      intro c b H1 hc nb g1
      refine q b _ (g1.snew nb) (g1.fresh nb) ⟨_, _, _, N + 13, upd_same, ?_, ?_, by omega, ?_, ?_, by omega, by omega⟩
      · split <;> omega
      · split
        · omega
        · exact Nat.two_pow_pos _
      · exact Int.emod_nonneg _ (by decide)
      · have h1 := Int.emod_nonneg (c * 19 + 7 * (k : Int)) (show (10 ^ 39 + 23 : Int) ≠ 0 by decide)
        have h2 := Int.emod_lt_of_pos (c * 19 + 7 * (k : Int)) (show (0 : Int) < 10 ^ 39 + 23 by decide)
        generalize (c * 19 + 7 * (k : Int)) % (10 ^ 39 + 23) = z at h1 h2 ⊢
        have h3 : (2 : Nat) ^ 130 = 1361129467683753853853498429727072845824 := by decide
        have h4 : (10 ^ 39 + 23 : Int) = 1000000000000000000000000000000000000023 := by decide
        rw [h4] at h2
        omega
    have n0 : ∀ z ∈ ns, z.natAbs < 2 ^ N := fun z hz => bits_lt (hb z hz)
    refine ⟨_, rfl, _, _, rfl, rfl, .inl ⟨by decide, by decide⟩, _, rfl, ?_⟩
    unfold tNoPart
    refine ⟨1, rfl, a, _, rfl, hs, fun p np => ?_⟩
    rw [show cutV (ns.map V.int) none (some 1) = (ns.take 1).map V.int from (cut_to _ 1).trans List.map_take.symm]
    have g0 : Go [] H (upd H p (.lst ((ns.take 1).map V.int))) := go_new np
    refine ⟨p, _, rfl, SqL.of upd_same, _, _, rfl, rfl, ?_⟩
    have c0 : (977 * (k : Int) + (ns.take 1).sum).natAbs < 2 ^ (N + 13) := by
      cases ns with
      | nil =>
        show (977 * (k : Int) + 0).natAbs < 2 ^ (N + 13)
        have := abs_grow (a := 0) (b := 977 * (k : Int)) (n := N) (Nat.two_pow_pos N) (by omega)
        exact this
      | cons z r =>
        show (977 * (k : Int) + (z + 0)).natAbs < 2 ^ (N + 13)
        rw [Int.add_zero]
        exact abs_grow (n0 z List.mem_cons_self) (by omega)
    refine ⟨_, rfl, _, rfl, a, _, rfl, .inl (g0.sq hs), _, _, rfl, rfl, _, rfl, ?_⟩
    by_cases hlt : k < (ns.map V.int).length
    · rw [decide_eq_true (by omega)]
      refine iteT ?_
      have hx : k < ns.length := by rw [List.length_map] at hlt; exact hlt
      refine ⟨_, rfl, _, rfl, a, _, k, .int ns[k], rfl, rfl, g0.sq hs, atI_nat (by rw [List.getElem?_map, List.getElem?_eq_getElem hx]; rfl), ?_⟩
      refine ⟨_, rfl, _, _, rfl, rfl, ⟨by decide, by decide, by decide⟩, _, _, rfl, rfl, _, _, rfl, _, rfl, _, _, rfl, rfl, .inr ⟨by decide, by decide⟩, _, rfl, _, _, rfl, rfl, .inl ⟨by decide, by decide⟩, _, _, rfl, rfl, .inl ⟨_, rfl, _, _, rfl, rfl, ⟨by decide, by decide, by decide⟩, _, _, rfl, rfl, _, _, rfl, rfl, (show (0 : Int) < 10 ^ Int.toNat 39 + 23 by decide), (show 3 ≤ sizeLine by decide), fun b nb => ?_⟩⟩
      exact fin ns[k] b _ (Nat.lt_of_lt_of_le (n0 _ (List.getElem_mem hx)) (Nat.pow_le_pow_right (by decide) (by omega))) nb g0
    · rw [decide_eq_false (by omega)]
      refine iteF ?_
      refine ⟨_, rfl, _, _, rfl, rfl, ⟨by decide, by decide, by decide⟩, _, _, rfl, rfl, _, _, rfl, _, rfl, _, _, rfl, rfl, .inr ⟨by decide, by decide⟩, _, rfl, _, _, rfl, rfl, .inl ⟨by decide, by decide⟩, _, _, rfl, rfl, .inl ⟨_, rfl, _, _, rfl, rfl, ⟨by decide, by decide, by decide⟩, _, _, rfl, rfl, _, _, rfl, rfl, (show (0 : Int) < 10 ^ Int.toNat 39 + 23 by decide), (show 3 ≤ sizeLine by decide), fun b nb => ?_⟩⟩
      exact fin _ b _ c0 nb g0

theorem sc_l_draw : FnScope ["_law_feed_here", "_law_many", "_law_rest", "_law_got", "_law_stir"] ["_law_feed_here", "_law_many"] (defScope s_l_draw) := ⟨rfl, rfl, rfl, by decide +kernel, rfl, by decide +kernel, by decide +kernel⟩
theorem ok_l_draw (D : DefP K mg "_law_draw" s_l_draw) (m_int : mg "int" = none) : Cal P w K mg base 1 "_law_draw" ["_law_feed_here", "_law_many"] (sp_l_draw) := by
  refine cal_mk (k := 0) D sc_l_draw (fun vs H Q E h => ?_) (fun _ _ _ _ _ _ us hl => match us, hl with | [_, _], _ => rfl) (fun f cdv A outer s H vs Q hgd hr h => ?_)
  · obtain ⟨a, many, k, rfl, _⟩ := h; rfl
  · obtain ⟨a, many, k, rfl, ⟨x, y, z, N, ha, x0, xN, hN, y0, y1, z0, z1⟩, hk, m0, m1, q⟩ := h
    refine ⟨_, (pss_cons (ps_if (pt_cmpR op_gt (pe_ix (ix_listK K) (pv 0) pe_int (fun _ _ => rfl)) pe_int (nomark _)) (pss_cons (ps_set (i := 2) sc_l_draw.nd rfl (Or.inl rfl) (pe_op op_fdivW (pe_ix (ix_listK K) (pv 0) pe_int (fun _ _ => rfl)) (pv 1)))
      (pss_cons (ps_set (i := 3) sc_l_draw.nd rfl (Or.inl rfl) (pe_op op_sub (pe_ix (ix_listK K) (pv 0) pe_int (fun _ _ => rfl)) (pe_op op_mulB (pv 2) (pv 1))))
      (pss_cons (ps_asg (pv 2) (pg_sub (pv 0) pe_int set_list))
      (pss_one (ps_ret (pv 3)))))) pss_nil)
      (pss_cons (ps_asg (pe_op op_add (pe_ix (ix_listK K) (pv 0) pe_int (fun _ _ => rfl)) pe_int) (pg_sub (pv 0) pe_int set_list))
      (pss_cons (ps_set (i := 4) sc_l_draw.nd rfl (Or.inl rfl) (pe_op op_add (pe_ix (ix_listK K) (pv 0) pe_int (fun _ _ => rfl)) (pe_op op_mulB pe_int (pe_ix (ix_listK K) (pv 0) pe_int (fun _ _ => rfl)))))
      (pss_cons (ps_set (i := 4) sc_l_draw.nd rfl (Or.inl rfl) (pe_op op_mod (pe_callTy call_int1 (by rfl) m_int b_int (pa_cons (pe_op op_add (pe_op op_mulB (pe_op op_mulB (pv 4) (pv 4)) (pv 4)) (pe_op op_mulB pe_int (pe_ix (ix_listK K) (pv 0) pe_int (fun _ _ => rfl)))) pa_nil)) (pe_op op_add (pe_op op_pow pe_int pe_int) pe_int)))
      (pss_cons (ps_set (i := 4) sc_l_draw.nd rfl (Or.inl rfl) (pe_op op_mod (pe_callTy call_int1 (by rfl) m_int b_int (pa_cons (pe_op op_add (pe_op op_mulB (pv 4) (pv 4)) pe_int) pa_nil)) (pe_op op_add (pe_op op_pow pe_int pe_int) pe_int)))
      (pss_one (ps_ret (pe_op op_mod (pe_callTy call_int1 (by rfl) m_int b_int (pa_cons (pe_op op_fdivW (pv 4) (pe_op op_pow pe_int pe_int)) pa_nil)) (pv 1))))))))), ?_⟩
    refine ⟨_, rfl, a, _, 0, .int x, rfl, rfl, SqL.of ha, atI_nat (j := 0) rfl, _, _, rfl, rfl, _, rfl, ?_⟩
    by_cases hx : x > 0
    · rw [decide_eq_true hx]
      refine iteT ?_
      have hd : 0 ≤ x / many := Int.ediv_nonneg x0 (by omega)
      have hle : x / many ≤ x := Int.ediv_le_self _ x0
      have hm : (x / many).natAbs < 2 ^ N := by omega
      have hm2 : (x / many).natAbs < 2 ^ (N + 1) := Nat.lt_trans hm (Nat.pow_lt_pow_right (by decide) (by omega))
      have hr : x - x / many * many = x % many := by
        rw [Int.emod_def, Int.mul_comm]
      refine ⟨_, rfl, a, _, 0, .int x, rfl, rfl, SqL.of ha, atI_nat (j := 0) rfl, _, rfl, _, _, rfl, rfl, wide_div m0 m1 (by decide) (by decide), ?_⟩
      refine ⟨_, rfl, a, _, 0, .int x, rfl, rfl, SqL.of ha, atI_nat (j := 0) rfl, _, rfl, _, rfl, _, _, rfl, rfl, mulB_of hm2 m1 (by omega) (by decide) (by omega), _, _, rfl, rfl, ?_⟩
      refine ⟨_, rfl, _, rfl, a, _, 0, 0, rfl, rfl, ha, rfl, ?_⟩
      refine ⟨_, rfl, ?_⟩
      refine q _ _ (go_set ha) ⟨x / many, y, z, N, upd_same, hd, hm, hN, y0, y1, z0, by omega⟩ ?_ ?_
      · rw [hr]
        exact Int.emod_nonneg _ (by omega)
      · rw [hr]
        exact Int.emod_lt_of_pos _ m0
    · rw [decide_eq_false hx]
      refine iteF ?_
      have b1 : (2 : Nat) ^ 130 = 1361129467683753853853498429727072845824 := by decide
      have b2 : (2 : Nat) ^ 131 = 2722258935367507707706996859454145691648 := by decide
      have b3 : (2 : Nat) ^ 23 = 8388608 := by decide
      have b4 : (2 : Nat) ^ 20 = 1048576 := by decide
      have hz : (z + 1).natAbs < 2 ^ 20 := by rw [b4]; omega
      have hs : (y + 6700417 * (z + 1)).natAbs < 2 ^ 131 := by
        rw [b1] at y1
        rw [b2]
        omega
      refine ⟨_, rfl, a, _, 2, .int z, rfl, rfl, SqL.of ha, atI_nat (j := 2) rfl, _, _, rfl, rfl, _, rfl, a, _, 2, 2, rfl, rfl, ha, rfl, ?_⟩
      have h2 : upd H a (.lst [.int x, .int y, .int (z + 1)]) a = some (.lst [.int x, .int y, .int (z + 1)]) := upd_same
      have g2 : Go [a] H (upd H a (.lst [.int x, .int y, .int (z + 1)])) := go_set ha
      have F2 : Fd (upd H a (.lst [.int x, .int y, .int (z + 1)])) a (k + 1) := ⟨x, y, z + 1, N, upd_same, x0, xN, hN, y0, y1, by omega, by omega⟩
      refine ⟨_, rfl, a, _, 1, .int y, rfl, rfl, SqL.of h2, atI_nat (j := 1) rfl, _, rfl, a, _, 2, .int (z + 1), rfl, rfl, SqL.of h2, atI_nat (j := 2) rfl, _, _, rfl, rfl, mulB_of (p := 23) (q := 20) (by decide) hz (by decide) (by decide) (by decide), _, _, rfl, rfl, ?_⟩
      have hss := mul_abs hs hs
      refine ⟨_, rfl, _, rfl, _, _, rfl, rfl, mulB_of (p := 131) (q := 131) hs hs (by decide) (by decide) (by decide), _, rfl, _, _, rfl, rfl, mulB_of (p := 262) (q := 131) hss hs (by decide) (by decide) (by decide), ?_⟩
      refine ⟨_, rfl, a, _, 2, .int (z + 1), rfl, rfl, SqL.of h2, atI_nat (j := 2) rfl, _, _, rfl, rfl, mulB_of (p := 24) (q := 20) (by decide) hz (by decide) (by decide) (by decide), _, _, rfl, rfl, ?_⟩
      refine .inl ⟨_, rfl, _, _, rfl, rfl, ⟨by decide, by decide, by decide⟩, _, _, rfl, rfl, _, _, rfl, rfl, (show (0 : Int) < 10 ^ Int.toNat 43 + 57 by decide), ?_⟩
      have e2 : ∀ t : Int, (t % (10 ^ Int.toNat 43 + 57)).natAbs < 2 ^ 143 := fun t => emod_abs (by decide) (by decide)
      refine ⟨_, rfl, _, rfl, _, _, rfl, rfl, mulB_of (p := 143) (q := 143) (e2 _) (e2 _) (by decide) (by decide) (by decide), _, _, rfl, rfl, ?_⟩
      refine .inl ⟨_, rfl, _, _, rfl, rfl, ⟨by decide, by decide, by decide⟩, _, _, rfl, rfl, _, _, rfl, rfl, (show (0 : Int) < 10 ^ Int.toNat 38 + 133 by decide), ?_⟩
      refine ⟨_, rfl, _, _, rfl, rfl, ⟨by decide, by decide, by decide⟩, _, _, rfl, rfl, wide_div (b := 40) (show (0 : Int) < 10 ^ Int.toNat 9 by decide) (show ((10 : Int) ^ Int.toNat 9).natAbs < 2 ^ 40 by decide) (by decide) (by decide), .inl ⟨_, rfl, _, rfl, _, _, rfl, rfl, m0, ?_⟩⟩
      exact q _ _ g2 F2 (Int.emod_nonneg _ (by omega)) (Int.emod_lt_of_pos _ m0)

theorem sc_l_built : FnScope ["_law_left", "_law_top", "_law_gains", "_law_rows", "_law_at", "_law_first", "_law_row", "_law_to", "_law_more", "_law_below", "_law_line"] ["_law_left", "_law_top", "_law_gains"] (defScope s_l_built) := ⟨rfl, rfl, rfl, by decide +kernel, rfl, by decide +kernel, by decide +kernel⟩
theorem ok_l_built (D : DefP K mg "_law_built" s_l_built) (m_enumerate : mg "enumerate" = none) (m_sum : mg "sum" = none) (m_tuple : mg "tuple" = none) : Cal P w K mg base 1 "_law_built" ["_law_left", "_law_top", "_law_gains"] (sp_l_built) := by
  refine cal_mk (k := 0) D sc_l_built (fun vs H Q E h => ?_) (fun _ _ _ _ _ _ us hl => match us, hl with | [_, _, _], _ => rfl) (fun f cdv A outer s H vs Q hgd hr h => ?_)
  · obtain ⟨vl, vt, vg, m, n, gl, gt, G, rfl, _⟩ := h; rfl
  · obtain ⟨vl, vt, vg, m, n, gl, gt, G, rfl, ⟨al, rfl, hl⟩, ⟨at_, rfl, ht⟩, ⟨ag, gs, rfl, hg, hgl, hgk⟩, m1, m8, n7, q⟩ := h
    refine ⟨_, (pss_cons (ps_set (i := 3) sc_l_built.nd rfl (Or.inl rfl) (pe_lst pa_nil))
      (pss_cons (ps_for PassesOwn.never rfl (pi_enumLK K (by rfl) m_enumerate (pa_cons (pv 0) pa_nil)) (pg_tupK K (n := 2) rfl (pgs_cons (pg_name (i := 4) sc_l_built.nd rfl (Or.inl rfl)) (pgs_cons (pg_name (i := 5) sc_l_built.nd rfl (Or.inl rfl)) pgs_nil))) (pss_cons (ps_set (i := 6) sc_l_built.nd rfl (Or.inl rfl) (pe_lst (pa_cons (pv 5) pa_nil)))
      (pss_cons (ps_for PassesOwn.never rfl (pi_enumLK K (by rfl) m_enumerate (pa_cons (pv 1) pa_nil)) (pg_tupK K (n := 2) rfl (pgs_cons (pg_name (i := 7) sc_l_built.nd rfl (Or.inr rfl)) (pgs_cons (pg_name (i := 8) sc_l_built.nd rfl (Or.inl rfl)) pgs_nil))) (pss_cons (ps_set (i := 9) sc_l_built.nd rfl (Or.inl rfl) (pe_callB (cr_sumK K rfl) (by rfl) m_sum b_sum (pa_cons (pe_lc (own := [("_law_line", 10)]) rfl sc_l_built.nd (pi_listK K (pe_slice (sl_listK K) (pv 2) po_none (po_some (pv 4)))) (blkOk_by (by kernel_rfl)) (fun _ _ _ _ _ => (pg_name (i := 10) sc_l_built.nd rfl (Or.inl rfl))) (fun _ _ _ _ _ => pts_nil) (fun _ _ _ _ _ => (pe_callB (cr_sumK K rfl) (by rfl) m_sum b_sum (pa_cons (pe_slice (sl_listK K) (pv 10) po_none (po_some (pe_op op_add (pv 7) pe_int))) pa_nil)))) pa_nil)))
      (pss_one (ps_expr (pe_bm PySem.F.plainAttrs_list PySem.F.slot_list_append PySem.F.type_list_append mt_append (pv 6) (pa_cons (pe_op op_sub (pe_op op_add (pv 5) (pv 8)) (pv 9)) pa_nil))))))
      (pss_one (ps_expr (pe_bm PySem.F.plainAttrs_list PySem.F.slot_list_append PySem.F.type_list_append mt_append (pv 3) (pa_cons (pe_callTy (call_tuple_ofK K) (by rfl) m_tuple b_tuple (pa_cons (pv 6) pa_nil)) pa_nil)))))))
      (pss_one (ps_ret (pe_callTy (call_tuple_ofK K) (by rfl) m_tuple b_tuple (pa_cons (pv 3) pa_nil)))))), ?_⟩
    refine ⟨Nat.zero_le _, fun D nD => ?_⟩
    have g0 : Go [] H (upd H D (.lst [])) := go_new nD
    refine ⟨_, rfl, al, _, rfl, SqL.of (g0.keep List.not_mem_nil hl), ?_⟩
    refine for_it (walk_enum (xs := rowV m gl)) (fun i σ H1 => ∃ y4 y5 y6 y7 y8 y9, σ = [some (.ref al), some (.ref at_), some (.ref ag), some (.ref D), y4, y5, y6, y7, y8, y9, none] ∧ Go [] H H1 ∧ AccR H1 D i (n + 1) (bF gl gt G)) ⟨_, _, _, _, _, _, rfl, g0, accR_nil⟩ ?_ ?_ ?_
    · rintro i σ H1 _ ⟨y4, y5, y6, y7, y8, y9, rfl, g1, _⟩
      exact SqL.of (g1.keep List.not_mem_nil hl)
    · rintro i _ σ H1 _ hi ⟨y4, y5, y6, y7, y8, y9, rfl, g1, hA⟩ ⟨T, x, y, rfl, nT, rfl, ex, ey⟩
      rw [rowV_len] at hi
      have gT : Go [] H1 (upd H1 T (.tup [x, y])) := go_new nT
      obtain rfl := Option.some.inj ex
      obtain ⟨_, rfl⟩ := rowV_at ey
      refine ⟨T, _, rfl, SqT.of upd_same, rfl, _, _, rfl, _, [], rfl, rfl, ?_⟩
      refine ⟨_, rfl, (show 1 ≤ sizeLine by decide), fun L nL => ?_⟩
      have gL := go_new nL (o := .lst [.int (gl i)])
      have gTL := gT.trans gL
      refine ⟨_, rfl, at_, _, rfl, SqL.of ((g1.trans gTL).keep List.not_mem_nil ht), ?_⟩
      refine for_it (walk_enum (xs := rowV n gt)) (fun j σ H2 => ∃ y7 y8 y9, σ = [some (.ref al), some (.ref at_), some (.ref ag), some (.ref D), some (.int (i : Nat)), some (.int (gl i)), some (.ref L), y7, y8, y9, none] ∧ Go [] (upd H1 T (.tup [.int (i : Nat), .int (gl i)])) H2 ∧ H2 L = some (.lst (rowV (j + 1) (bF gl gt G i)))) ⟨_, _, _, rfl, gL, upd_same⟩ ?_ ?_ ?_
      · rintro j σ H2 _ ⟨y7, y8, y9, rfl, g2, _⟩
        exact SqL.of (((g1.trans gT).trans g2).keep List.not_mem_nil ht)
      · rintro j _ σ H2 _ hj ⟨y7, y8, y9, rfl, g2, hL⟩ ⟨T2, x2, z, rfl, nT2, rfl, ex2, ez⟩
        rw [rowV_len] at hj
        obtain rfl := Option.some.inj ex2
        obtain ⟨_, rfl⟩ := rowV_at ez
        have gT2 := go_new nT2 (o := .tup [.int (j : Nat), .int (gt j)])
        have gg := (((g1.trans gT).trans g2).trans gT2)
        refine ⟨T2, _, rfl, SqT.of upd_same, rfl, _, _, rfl, _, [], rfl, rfl, ?_⟩
        refine ⟨_, rfl, ?_⟩
        unfold tNoPart
        refine ⟨_, rfl, i, rfl, sl_to (k := i) rfl (SqL.of (gg.keep List.not_mem_nil hg)) fun S nS => ?_⟩
        have gS := go_new nS (o := .lst (gs.take i))
        have glen : (gs.take i).length = i := by rw [List.length_take]; omega
        refine ⟨S, rfl, ⟨_, SqL.of upd_same⟩, fun D2 nD2 => ?_⟩
        refine lcN (l := []) (walk_list (xs := gs.take i)) (fun _ _ => True) (fun a v _ => v = .int (psum (G a) (j + 1))) nD2 lq_nil (by omega) (lcs_val fun _ _ _ h => h) trivial (fun i H' g _ => SqL.of (g.keep List.not_mem_nil upd_same)) ?_ ?_
        · rintro c x H3 H4 hc g3 _ ⟨rfl, hx⟩
          rw [List.getElem?_take_of_lt (by omega)] at hx
          obtain ⟨b, rfl, hb⟩ := hgk c x hx
          refine ⟨rfl, fun Q' q' => ?_⟩
          refine ⟨_, rfl, ?_⟩
          refine ⟨_, rfl, _, _, rfl, rfl, _, rfl, sl_to (k := j + 1) rfl (SqL.of (((gg.trans gS).trans g3).keep List.not_mem_nil hb)) fun p np => ?_⟩
          rw [rowV_take (by omega)]
          exact sum_row upd_same (q' _ _ (go_new np) trivial rfl)
        · intro H3 acc3 g3 _ hB hl2 hv
          have e := rowV_of (hl2.trans glen) hv
          subst e
          refine ⟨D2, (List.range i).map (fun a => psum (G a) (j + 1)), rfl, SqL.of (by rw [← rowV_ints]; exact hB), ?_⟩
          rw [sum_psum]
          have gz := (gT2.trans gS).trans g3
          have hL3 := gz.keep List.not_mem_nil hL
          refine ⟨_, rfl, .inl ⟨rfl, _, SqL.of hL3⟩, _, rfl, _, rfl, _, _, rfl, rfl, _, rfl, _, _, rfl, rfl, L, _, _, rfl, rfl, hL3, small1000 (by rw [rowV_len]; omega), ?_⟩
          refine ⟨_, _, _, rfl, (g2.trans gz).mut nL, ?_⟩
          rw [upd_same, rowV_succ (j + 1)]
          rfl
      · rintro σ H2 ⟨y7, y8, y9, rfl, g2, hL⟩
        rw [rowV_len] at hL
        have hA2 := (hA.go gT List.not_mem_nil).go g2 List.not_mem_nil
        obtain ⟨acc, hD, hacc, hrow⟩ := id hA2
        refine ⟨_, rfl, .inl ⟨rfl, _, SqL.of hD⟩, ?_⟩
        refine ⟨_, rfl, L, _, rfl, .inl ⟨SqL.of hL, fun p np => ?_⟩⟩
        have g3 := go_new np (o := .tup (rowV (n + 1) (bF gl gt G i)))
        obtain ⟨acc, hD, hacc, hrow⟩ := hA2.go g3 List.not_mem_nil
        refine ⟨D, acc, .ref p, rfl, rfl, hD, by rw [hacc]; exact small1000 (by omega), ?_⟩
        exact ⟨_, _, _, _, _, _, rfl, (((g1.trans gT).trans g2).trans g3).mut nD, accR_push hD hacc hrow row_new⟩
    · rintro σ H1 ⟨y4, y5, y6, y7, y8, y9, rfl, g1, hA⟩
      rw [rowV_len] at hA
      have hA2 := hA
      obtain ⟨acc, hD, hacc, hrow⟩ := hA2
      refine ⟨_, rfl, D, acc, rfl, .inl ⟨SqL.of hD, fun p np => ?_⟩⟩
      exact q _ _ (g1.snew np) (accR_tab hA np hD)

theorem sc_l_set : FnScope ["_law_table_here", "_law_at", "_law_to", "_law_number", "_law_row"] ["_law_table_here", "_law_at", "_law_to", "_law_number"] (defScope s_l_set) := ⟨rfl, rfl, rfl, by decide +kernel, rfl, by decide +kernel, by decide +kernel⟩
theorem ok_l_set (D : DefP K mg "_law_set" s_l_set) : Cal P w K mg base 1 "_law_set" ["_law_table_here", "_law_at", "_law_to", "_law_number"] (sp_l_set) := by
  refine cal_mk (k := 0) D sc_l_set (fun vs H Q E h => ?_) (fun _ _ _ _ _ _ us hl => match us, hl with | [_, _, _, _], _ => rfl) (fun f cdv A outer s H vs Q hgd hr h => ?_)
  · obtain ⟨v, m, n, f, i, j, z, rfl, _⟩ := h; rfl
  · obtain ⟨v, m, n, f, i, j, z, rfl, ht, hT, hi, hj, q⟩ := h
    refine ⟨_, (pss_cons (ps_set (i := 4) sc_l_set.nd rfl (Or.inl rfl) (pe_ix (ix_tupK K) (pv 0) (pv 1) (fun _ _ => rfl)))
      (pss_one (ps_ret (pe_op (op_catAK K) (pe_op (op_catAK K) (pe_slice (sl_tupK K) (pv 0) po_none (po_some (pv 1))) (pe_tup (pa_cons (pe_op (op_catAK K) (pe_op (op_catAK K) (pe_slice (sl_tupK K) (pv 4) po_none (po_some (pv 2))) (pe_tup (pa_cons (pv 3) pa_nil))) (pe_slice (sl_tupK K) (pv 4) (po_some (pe_op op_add (pv 2) pe_int)) po_none)) pa_nil))) (pe_slice (sl_tupK K) (pv 0) (po_some (pe_op op_add (pv 1) pe_int)) po_none))))), ?_⟩
    obtain ⟨a, vs, rfl, ha, hl, hk⟩ := id ht
    obtain ⟨vs1, x1, ha1, _, hx1, b, rfl, hb⟩ := ht.at_ hi
    rw [ha] at ha1
    cases ha1
    have h2 := hT.m8
    have h4 := hT.n8
    refine ⟨_, rfl, _, rfl, a, vs, i, .ref b, rfl, rfl, SqT.of ha, atI_nat hx1, ?_⟩
    refine ⟨_, rfl, ?_⟩
    unfold tNoPart
    refine ⟨_, rfl, i, rfl, slT ha fun p1 H1 g1 e1 => ?_⟩
    refine ⟨_, rfl, _, rfl, j, rfl, slT (g1.tup hb) fun p2 H2 g2 e2 => ?_⟩
    refine ⟨_, rfl, (show 1 ≤ sizeLine by decide), fun p3 np3 => ?_⟩
    have g3 : Go [] H2 (upd H2 p3 (.tup [.int z])) := go_new np3
    rw [cut_to] at e1 e2
    refine catT (g3.tup e2) upd_same ?_ fun p4 H4 g4 e4 => ?_
    · exact small1000 (by rw [List.length_take, rowV_len]; omega)
    refine ⟨_, rfl, _, rfl, _, _, rfl, rfl, _, rfl, ?_⟩
    have gg := ((g1.trans g2).trans g3).trans g4
    refine slT (gg.tup hb) fun p5 H5 g5 e5 => ?_
    rw [show ((j : Int) + 1) = ((j + 1 : Nat) : Int) from rfl, cut_from] at e5
    refine catT (g5.tup e4) e5 ?_ fun p6 H6 g6 e6 => ?_
    · refine Nat.le_of_lt (small1000 ?_)
      rw [List.length_append, List.length_take, List.length_drop, rowV_len]
      show _ + 1 + _ ≤ _
      omega
    rw [put_at (by rw [rowV_len]; exact hj), rowV_set] at e6
    refine ⟨(show 1 ≤ sizeLine by decide), fun p7 np7 => ?_⟩
    have g7 : Go [] H6 (upd H6 p7 (.tup [.ref p6])) := go_new np7
    have g27 := ((((g2.trans g3).trans g4).trans g5).trans g6).trans g7
    refine catT (g27.tup e1) upd_same ?_ fun p8 H8 g8 e8 => ?_
    · exact small1000 (by rw [List.length_take]; omega)
    refine ⟨_, rfl, _, rfl, _, _, rfl, rfl, _, rfl, ?_⟩
    have g18 := (g1.trans g27).trans g8
    refine slT (g18.tup ha) fun p9 H9 g9 e9 => ?_
    rw [show ((i : Int) + 1) = ((i + 1 : Nat) : Int) from rfl, cut_from] at e9
    refine catT (g9.tup e8) e9 ?_ fun p10 H10 g10 e10 => ?_
    · refine Nat.le_of_lt (small1000 ?_)
      rw [List.length_append, List.length_take, List.length_drop]
      show _ + 1 + _ ≤ _
      omega
    rw [put_at (by omega)] at e10
    have gz := (g18.trans g9).trans g10
    refine q _ _ gz ⟨p10, _, rfl, e10, by rw [List.length_set, hl], fun k x hx => ?_⟩
    rw [List.getElem?_set] at hx
    by_cases h : i = k
    · subst h
      rw [if_pos rfl, if_pos (by omega)] at hx
      obtain rfl := Option.some.inj hx
      refine ⟨p6, rfl, ?_⟩
      have e := (((g7.trans g8).trans g9).trans g10).tup e6
      refine e.trans (congrArg some (congrArg HO.tup (rowV_congr fun j' _ => ?_)))
      by_cases hj' : j' = j
      · exact (if_pos hj').trans (if_pos (And.intro rfl hj')).symm
      · exact (if_neg hj').trans (if_neg (c := i = i ∧ j' = j) fun z => hj' z.2).symm
    · rw [if_neg h] at hx
      refine (gz.row (hk k x hx)).congr fun j' _ => ?_
      exact (if_neg fun z => h z.1.symm).symm

theorem sc_l_sums : FnScope ["_law_one_here", "_law_other", "_law_first", "_law_second"] ["_law_one_here", "_law_other"] (defScope s_l_sums) := ⟨rfl, rfl, rfl, by decide +kernel, rfl, by decide +kernel, by decide +kernel⟩
theorem ok_l_sums (D : DefP K mg "_law_sums" s_l_sums) (m_tuple : mg "tuple" = none) (m_zip : mg "zip" = none) : Cal P w K mg base 1 "_law_sums" ["_law_one_here", "_law_other"] (sp_l_sums) := by
  refine cal_mk (k := 0) D sc_l_sums (fun vs H Q E h => ?_) (fun _ _ _ _ _ _ us hl => match us, hl with | [_, _], _ => rfl) (fun f cdv A outer s H vs Q hgd hr h => ?_)
  · obtain ⟨v, v2, n, g, g', rfl, _⟩ := h; rfl
  · obtain ⟨v, v2, n, g, g', rfl, ⟨a, rfl, ha⟩, ⟨b, rfl, hb⟩, hn, q⟩ := h
    refine ⟨_, (pss_one (ps_ret (pe_callTy (call_tuple_ofK K) (by rfl) m_tuple b_tuple (pa_cons (pe_lc (own := [("_law_first", 2), ("_law_second", 3)]) rfl sc_l_sums.nd (pi_zipK K (by rfl) m_zip (pa_cons (pv 0) (pa_cons (pv 1) pa_nil))) (blkOk_by (by kernel_rfl)) (fun _ _ _ _ _ => (pg_tupK K (n := 2) rfl (pgs_cons (pg_name (i := 2) sc_l_sums.nd rfl (Or.inl rfl)) (pgs_cons (pg_name (i := 3) sc_l_sums.nd rfl (Or.inl rfl)) pgs_nil)))) (fun _ _ _ _ _ => pts_nil) (fun _ _ _ _ _ => (pe_op op_add (pv 2) (pv 3)))) pa_nil)))), ?_⟩
    refine ⟨_, rfl, _, rfl, a, b, rowV n g, rowV n g', rfl, .inr ⟨SqT.of ha, SqT.of hb, fun D nD => ?_⟩⟩
    refine lcP2 (l := []) (walk_zipT (xs := rowV n g) (ys := rowV n g') (n := n) (by rw [rowV_len]; exact Nat.le_refl _) (by rw [rowV_len]; exact Nat.le_refl _) (.inl (by rw [rowV_len]; exact Nat.le_refl _))) (fun _ _ => True) (fun j v _ => v = .int (g j + g' j)) nD lq_nil (by omega) (lcs_val fun _ _ _ h => h) trivial (fun j H' x _ => ⟨SqT.of (x.tup ha), SqT.of (x.tup hb)⟩) ?_ ?_
    · intro j x y H2 H3 hj g2 _ ex ey gT2
      obtain ⟨_, rfl⟩ := rowV_at ex
      obtain ⟨_, rfl⟩ := rowV_at ey
      exact ⟨rfl, fun Q' q' => ⟨_, rfl, _, rfl, _, _, rfl, rfl, q' _ _ (Go.refl lq_nil) trivial rfl⟩⟩
    · intro H2 acc2 g2 _ hB hl hv
      have e := rowV_of hl hv
      subst e
      exact ⟨D, _, rfl, .inl ⟨SqL.of hB, fun p np => q _ _ (g2.snew np) row_new⟩⟩

theorem sc_is_within : FnScope ["thing", "least", "most"] ["thing", "least", "most"] (defScope s_is_within) := ⟨rfl, rfl, rfl, by decide +kernel, rfl, by decide +kernel, by decide +kernel⟩
theorem ok_is_within (D : DefP K mg "is_within" s_is_within) (C_is_integer : Cal P w K mg base 1 "is_integer" ["thing"] (sp_is_integer)) : Cal P w K mg base 2 "is_within" ["thing", "least", "most"] (sp_is_within) := by
  refine cal_mk (k := 1) D sc_is_within (fun vs H Q E h => ?_) (fun _ _ _ _ _ _ us hl => match us, hl with | [_, _, _], _ => rfl) (fun f cdv A outer s H vs Q hgd hr h => ?_)
  · obtain ⟨x, l, m, rfl, _⟩ := h; rfl
  · obtain ⟨x, l, m, rfl, h1, h2, q⟩ := h
    refine ⟨_, (pss_one (ps_ret (pe_and (pe_cal C_is_integer hgd hr (pa_cons (pv 0) pa_nil)) (pe_one (pe_chain op_le op_le (pv 1) (pv 0) (pv 2)))))), ?_⟩
    refine ⟨_, rfl, x, rfl, true, rfl, iteT ?_⟩
    refine ⟨_, rfl, _, rfl, l, x, rfl, rfl, _, rfl, ?_⟩
    rw [decide_eq_true h1]
    refine iteT ⟨_, rfl, x, m, rfl, rfl, ?_⟩
    refine (?_ : Q (.bl (decide (_ ≤ m))) H)
    rw [decide_eq_true h2]
    exact q

theorem sc_are_integers : FnScope ["thing", "many", "one"] ["thing", "many"] (defScope s_are_integers) := ⟨rfl, rfl, rfl, by decide +kernel, rfl, by decide +kernel, by decide +kernel⟩
theorem ok_are_integers (D : DefP K mg "are_integers" s_are_integers) (C_is_row_of : Cal P w K mg base 1 "is_row_of" ["thing", "least", "most"] (sp_is_row_of)) (C_is_integer : Cal P w K mg base 1 "is_integer" ["thing"] (sp_is_integer)) (m_all : mg "all" = none) : Cal P w K mg base 2 "are_integers" ["thing", "many"] (sp_are_integers) := by
  refine cal_mk (k := 1) D sc_are_integers (fun vs H Q E h => ?_) (fun _ _ _ _ _ _ us hl => match us, hl with | [_, _], _ => rfl) (fun f cdv A outer s H vs Q hgd hr h => ?_)
  · obtain ⟨v, n, g, rfl, _⟩ := h; rfl
  · obtain ⟨v, n, g, rfl, ⟨a, rfl, ha⟩, hn, q⟩ := h
    refine ⟨_, (pss_one (ps_ret (pe_and (pe_cal C_is_row_of hgd hr (pa_cons (pv 0) (pa_cons (pv 1) (pa_cons (pv 1) pa_nil)))) (pe_one (pe_callB (cr_allK K rfl) (by rfl) m_all b_all (pa_cons (pe_lc (own := [("one", 2)]) rfl sc_are_integers.nd (pi_tupK K (pv 0)) (blkOk_by (by kernel_rfl)) (fun _ _ _ _ _ => (pg_name (i := 2) sc_are_integers.nd rfl (Or.inl rfl))) (fun _ _ _ _ _ => pts_nil) (fun _ _ _ _ _ => (pe_cal C_is_integer hgd hr (pa_cons (pv 2) pa_nil)))) pa_nil)))))), ?_⟩
    refine ⟨_, rfl, _, rfl, _, rfl, a, rowV n g, n, n, rfl, ha, by rw [rowV_len]; exact Int.le_refl _, by rw [rowV_len]; exact Int.le_refl _, true, rfl, iteT ?_⟩
    refine ⟨_, rfl, a, rfl, ⟨_, SqT.of ha⟩, fun D nD => ?_⟩
    refine lcN (l := []) walk_tup (fun _ _ => True) (fun _ v _ => v = .bl true) nD lq_nil (by rw [rowV_len]; omega) (lcs_val fun _ _ _ h => h) trivial (fun i H' g _ => SqT.of (g.tup ha)) ?_ ?_
    · rintro i x H1 H2 hi g1 _ ⟨rfl, hx⟩
      obtain ⟨_, ex⟩ := rowV_at hx
      refine ⟨rfl, fun Q' q' => ⟨_, rfl, _, by rw [ex]; rfl, q' _ _ (Go.refl lq_nil) trivial rfl⟩⟩
    · intro H' acc g1 _ hA hl hv
      have e := all_true hl hv
      refine ⟨D, _, rfl, SqL.of (e ▸ hA), ?_⟩
      rw [all_id]
      exact q H' g1

theorem sc_gain_at : FnScope ["table", "row", "column"] ["table", "row", "column"] (defScope s_gain_at) := ⟨rfl, rfl, rfl, by decide +kernel, rfl, by decide +kernel, by decide +kernel⟩
theorem ok_gain_at (D : DefP K mg "gain_at" s_gain_at) (C_gain_of : Cal P w K mg base 1 "gain_of" ["table", "row", "other", "column", "last"] (sp_gain_of)) : Cal P w K mg base 2 "gain_at" ["table", "row", "column"] (sp_gain_at) := by
  refine cal_mk (k := 1) D sc_gain_at (fun vs H Q E h => ?_) (fun _ _ _ _ _ _ us hl => match us, hl with | [_, _, _], _ => rfl) (fun f cdv A outer s H vs Q hgd hr h => ?_)
  · obtain ⟨v, m, n, f, r, c, rfl, _⟩ := h; rfl
  · obtain ⟨v, m, n, f, r, c, rfl, ht, hr1, hc, q⟩ := h
    refine ⟨_, (pss_one (ps_ret (pe_cal C_gain_of hgd hr (pa_cons (pv 0) (pa_cons (pv 1) (pa_cons (pe_op op_add (pv 1) pe_int) (pa_cons (pv 2) (pa_cons (pe_op op_add (pv 2) pe_int) pa_nil)))))))), ?_⟩
    refine ⟨_, rfl, _, rfl, _, rfl, _, _, rfl, rfl, _, rfl, _, rfl, _, _, rfl, rfl, ?_⟩
    exact ⟨v, m, n, f, r, r + 1, c, c + 1, rfl, ht, by omega, hr1, by omega, hc, q⟩

theorem sc_turned_table : FnScope ["table", "column"] ["table"] (defScope s_turned_table) := ⟨rfl, rfl, rfl, by decide +kernel, rfl, by decide +kernel, by decide +kernel⟩
theorem ok_turned_table (D : DefP K mg "turned_table" s_turned_table) (C_width : Cal P w K mg base 1 "width" ["table"] (sp_width)) (C_column_of : Cal P w K mg base 1 "column_of" ["table", "column"] (sp_column_of)) (m_tuple : mg "tuple" = none) (m_range : mg "range" = none) : Cal P w K mg base 2 "turned_table" ["table"] (sp_turned_table) := by
  refine cal_mk (k := 1) D sc_turned_table (fun vs H Q E h => ?_) (fun _ _ _ _ _ _ us hl => match us, hl with | [_], _ => rfl) (fun f cdv A outer s H vs Q hgd hr h => ?_)
  · obtain ⟨v, m, n, f, rfl, _⟩ := h; rfl
  · obtain ⟨v, m, n, f, rfl, ht, hT, q⟩ := h
    refine ⟨_, (pss_one (ps_ret (pe_callTy (call_tuple_ofK K) (by rfl) m_tuple b_tuple (pa_cons (pe_lc (own := [("column", 1)]) rfl sc_turned_table.nd (pi_range1 (by rfl) m_range (pa_cons (pe_cal C_width hgd hr (pa_cons (pv 0) pa_nil)) pa_nil)) (blkOk_by (by kernel_rfl)) (fun _ _ _ _ _ => (pg_name (i := 1) sc_turned_table.nd rfl (Or.inl rfl))) (fun _ _ _ _ _ => pts_nil) (fun _ _ _ _ _ => (pe_cal C_column_of hgd hr (pa_cons (pv 0) (pa_cons (pv 1) pa_nil))))) pa_nil)))), ?_⟩
    have h1 := hT.m1
    have h4 := hT.n9
    refine ⟨_, rfl, v, m, n, f, rfl, ht, h1, _, rfl, by omega, by omega, fun D nD => ?_⟩
    rw [Int.toNat_natCast]
    refine lcN (l := []) walk_range0 (fun _ _ => True) (fun j v H' => RowT H' v m (fun i => f i j)) nD lq_nil (by omega) (lcs_row (f := fun j i => f i j) fun _ _ _ h => h) trivial (fun _ _ _ _ => trivial) ?_ ?_
    · rintro j x H1 H2 hj g1 _ ⟨rfl, rfl⟩
      exact ⟨rfl, fun Q' q' => ⟨_, rfl, _, rfl, v, m, n, f, j, rfl, g1.tab ht, hj, hT.m9, fun u H3 g3 hu => q' _ _ g3 trivial hu⟩⟩
    · intro H' acc g1 _ hA hl2 hv
      exact ⟨D, _, rfl, .inl ⟨SqL.of hA, fun p np => q _ _ (g1.snew np) (tab_new (f := fun j i => f i j) hl2 hv np)⟩⟩

theorem sc_have_one_size : FnScope ["table", "other"] ["table", "other"] (defScope s_have_one_size) := ⟨rfl, rfl, rfl, by decide +kernel, rfl, by decide +kernel, by decide +kernel⟩
theorem ok_have_one_size (D : DefP K mg "have_one_size" s_have_one_size) (C_width : Cal P w K mg base 1 "width" ["table"] (sp_width)) (m_len : mg "len" = none) : Cal P w K mg base 2 "have_one_size" ["table", "other"] (sp_have_one_size) := by
  refine cal_mk (k := 1) D sc_have_one_size (fun vs H Q E h => ?_) (fun _ _ _ _ _ _ us hl => match us, hl with | [_, _], _ => rfl) (fun f cdv A outer s H vs Q hgd hr h => ?_)
  · obtain ⟨v, v2, m, n, f, g, rfl, _⟩ := h; rfl
  · obtain ⟨v, v2, m, n, f, g, rfl, ht, hu, hm, q⟩ := h
    refine ⟨_, (pss_one (ps_ret (pe_and (pe_cmpR op_eq (pe_callB (call_lenK K) (by rfl) m_len b_len (pa_cons (pv 0) pa_nil)) (pe_callB (call_lenK K) (by rfl) m_len b_len (pa_cons (pv 1) pa_nil)) (nomark _)) (pe_one (pe_cmpR op_eq (pe_cal C_width hgd hr (pa_cons (pv 0) pa_nil)) (pe_cal C_width hgd hr (pa_cons (pv 1) pa_nil)) (nomark _)))))), ?_⟩
    obtain ⟨a, vs, rfl, ha, hl2, hk⟩ := id ht
    obtain ⟨b, ws, rfl, hb, hl3, hk3⟩ := id hu
    refine ⟨_, rfl, a, vs, rfl, .inr (SqT.of ha), _, rfl, b, ws, rfl, .inr (SqT.of hb), rfl, _, rfl, ?_⟩
    rw [decide_eq_true (by rw [hl2, hl3])]
    refine iteT ⟨_, rfl, _, m, n, f, rfl, ht, hm, _, rfl, _, m, n, g, rfl, hu, hm, rfl, ?_⟩
    refine (?_ : Q (.bl (decide (V.int ((n : Nat) : Int) = V.int ((n : Nat) : Int)))) H)
    rw [decide_eq_true rfl]
    exact q

theorem sc_table_of_parts : FnScope ["left", "top", "gains", "above", "found", "row", "line", "step", "number", "entry", "less"] ["left", "top", "gains"] (defScope s_table_of_parts) := ⟨rfl, rfl, rfl, by decide +kernel, rfl, by decide +kernel, by decide +kernel⟩
theorem ok_table_of_parts (D : DefP K mg "table_of_parts" s_table_of_parts) (C_sums_up_to : Cal P w K mg base 1 "sums_up_to" ["numbers"] (sp_sums_up_to)) (m_tuple : mg "tuple" = none) (m_enumerate : mg "enumerate" = none) (m_zip : mg "zip" = none) : Cal P w K mg base 2 "table_of_parts" ["left", "top", "gains"] (sp_table_of_parts) := by
  refine cal_mk (k := 1) D sc_table_of_parts (fun vs H Q E h => ?_) (fun _ _ _ _ _ _ us hl => match us, hl with | [_, _, _], _ => rfl) (fun f cdv A outer s H vs Q hgd hr h => ?_)
  · obtain ⟨vl, vt, vg, m, n, h', rfl, _⟩ := h; rfl
  · obtain ⟨vl, vt, vg, m, n, h, rfl, ⟨al, rfl, hl⟩, ⟨at_, rfl, ht⟩, ⟨ag, vs, rfl, hg, hlen, hk⟩, hT, q⟩ := h
    refine ⟨_, (pss_cons (ps_set (i := 3) sc_table_of_parts.nd rfl (Or.inl rfl) (pe_op op_cat (pe_lst (pa_cons (pe_ix (ix_tupK K) (pv 0) pe_int (fun _ _ => rfl)) pa_nil)) (pe_lc (own := [("number", 8)]) rfl sc_table_of_parts.nd (pi_tupK K (pv 1)) (blkOk_by (by kernel_rfl)) (fun _ _ _ _ _ => (pg_name (i := 8) sc_table_of_parts.nd rfl (Or.inl rfl))) (fun _ _ _ _ _ => pts_nil) (fun _ _ _ _ _ => (pe_op op_add (pe_ix (ix_tupK K) (pv 0) pe_int (fun _ _ => rfl)) (pv 8))))))
      (pss_cons (ps_set (i := 4) sc_table_of_parts.nd rfl (Or.inl rfl) (pe_lst (pa_cons (pe_callTy (call_tuple_ofK K) (by rfl) m_tuple b_tuple (pa_cons (pv 3) pa_nil)) pa_nil)))
      (pss_cons (ps_for PassesOwn.never rfl (pi_enumTK K (by rfl) m_enumerate (pa_cons (pv 2) pa_nil)) (pg_tupK K (n := 2) rfl (pgs_cons (pg_name (i := 5) sc_table_of_parts.nd rfl (Or.inl rfl)) (pgs_cons (pg_name (i := 6) sc_table_of_parts.nd rfl (Or.inl rfl)) pgs_nil))) (pss_cons (ps_set (i := 7) sc_table_of_parts.nd rfl (Or.inr rfl) (pe_op op_sub (pe_ix (ix_tupK K) (pv 0) (pe_op op_add (pv 5) pe_int) (fun _ _ => rfl)) (pe_ix (ix_tupK K) (pv 0) (pv 5) (fun _ _ => rfl))))
      (pss_cons (ps_setLc (i := 3) (own := [("entry", 9), ("less", 10)]) rfl sc_table_of_parts.nd rfl rfl (sw_true rfl rfl rfl (by decide +kernel)) (pi_zipK K (by rfl) m_zip (pa_cons (pv 3) (pa_cons (pe_cal C_sums_up_to hgd hr (pa_cons (pv 6) pa_nil)) pa_nil))) (blkOk_by (by kernel_rfl)) (fun _ _ _ _ _ => (pg_tupK K (n := 2) rfl (pgs_cons (pg_name (i := 9) sc_table_of_parts.nd rfl (Or.inl rfl)) (pgs_cons (pg_name (i := 10) sc_table_of_parts.nd rfl (Or.inl rfl)) pgs_nil)))) (fun _ _ _ _ _ => pts_nil) (fun _ _ _ _ _ => (pe_op op_sub (pe_op op_add (pv 9) (pv 7)) (pv 10))))
      (pss_one (ps_expr (pe_bm PySem.F.plainAttrs_list PySem.F.slot_list_append PySem.F.type_list_append mt_append (pv 4) (pa_cons (pe_callTy (call_tuple_ofK K) (by rfl) m_tuple b_tuple (pa_cons (pv 3) pa_nil)) pa_nil)))))))
      (pss_one (ps_ret (pe_callTy (call_tuple_ofK K) (by rfl) m_tuple b_tuple (pa_cons (pv 4) pa_nil))))))), ?_⟩
    have h1 := hT.m1
    have h2 := hT.m8
    have h3 := hT.n1
    have h4 := hT.n8
    refine ⟨_, rfl, al, _, 0, _, rfl, rfl, SqT.of hl, atI_nat (rowV_get (j := 0) (by omega)), by show 1 ≤ sizeLine; decide, fun L nL => ?_⟩
    have g0 : Go [] H (upd H L (.lst [.int (h 0 0)])) := go_new nL
    refine ⟨_, rfl, at_, rfl, ⟨_, SqT.of (g0.tup ht)⟩, fun D nD => ?_⟩
    refine lcN (l := []) walk_tup (fun _ _ => True) (fun j v _ => v = .int (h 0 (j + 1))) nD lq_nil (by rw [rowV_len]; omega) (lcs_val fun _ _ _ h => h) trivial (fun i H' g _ => SqT.of ((g0.trans g).tup ht)) ?_ ?_
    · rintro j x H1 H2 hj g1 _ ⟨rfl, hx⟩
      obtain ⟨_, rfl⟩ := rowV_at hx
      refine ⟨rfl, fun Q' q' => ⟨_, rfl, al, _, 0, _, rfl, rfl, SqT.of ((g0.trans g1).tup hl), atI_nat (rowV_get (j := 0) (by omega)), _, rfl, _, _, rfl, rfl, q' _ _ (Go.refl lq_nil) trivial ?_⟩⟩
      exact congrArg V.int (show h 0 0 + (h 0 (j + 1) - h 0 0) = h 0 (j + 1) by omega)
    · intro H1 acc g1 _ hD hl2 hv
      have e := rowV_of (hl2.trans (rowV_len _ _)) hv
      subst e
      refine ⟨L, D, _, _, rfl, rfl, g1.keep List.not_mem_nil upd_same, hD, by rw [rowV_len]; show 1 + (n - 1) ≤ sizeLine; exact Nat.le_of_lt (small1000 (by omega)), fun A nA => ?_⟩
      rw [row_cons (k := h 0) h3]
      have g2 := (g0.trans g1).snew nA (o := .lst (rowV n (h 0)))
      refine ⟨_, rfl, A, _, rfl, .inl ⟨SqL.of upd_same, fun p np => ⟨by show 1 ≤ sizeLine; decide, fun F nF => ?_⟩⟩⟩
      have np' : (upd H1 A (.lst (rowV n (h 0)))) p = none := np
      have g3 := g2.snew np (o := .tup (rowV n (h 0)))
      have g4 := g3.snew nF (o := .lst [.ref p])
      have nAp : A ≠ p := fun z => by rw [← z, upd_same] at np'; cases np'
      have nAF : A ≠ F := fun z => by rw [← z, upd_ne nAp, upd_same] at nF; cases nF
      have nF0 : H F = none := g3.fresh nF
      refine ⟨_, rfl, ag, vs, rfl, SqT.of (g4.tup hg), ?_⟩
      refine for_it (walk_enumT (xs := vs)) (fun i σ H1 => ∃ B y5 y6 y7, σ = [some (.ref al), some (.ref at_), some (.ref ag), some (.ref B), some (.ref F), y5, y6, y7, none, none, none] ∧ Go [] H H1 ∧ B ≠ F ∧ H1 B = some (.lst (rowV n (h i))) ∧ AccR H1 F (i + 1) n h) ⟨A, none, none, none, rfl, g4, nAF, ?_, ?_⟩ ?_ ?_ ?_
      · rw [upd_ne nAF, upd_ne nAp, upd_same]
      · refine ⟨[.ref p], upd_same, rfl, fun j x hx => ?_⟩
        have lt : j < 1 := (List.getElem?_eq_some_iff.mp hx).1
        have ej : j = 0 := by omega
        subst ej
        have ex : V.ref p = x := Option.some.inj hx
        rw [← ex]
        exact (go_new nF).row row_new
      · rintro i σ H2 _ ⟨B, y5, y6, y7, rfl, g5, _⟩
        exact SqT.of (g5.tup hg)
      · rintro i _ σ H2 _ hi ⟨B, y5, y6, y7, rfl, g5, nBF, hB, hA⟩ ⟨T, x, y, rfl, nT, rfl, ex, ey⟩
        have gT : Go [] H2 (upd H2 T (.tup [x, y])) := go_new nT
        have ex2 : x = V.int ((i : Nat) : Int) := (Option.some.inj ex).symm
        subst ex2
        have hy := hk i y ey
        have g6 := g5.trans gT
        refine ⟨T, _, rfl, SqT.of upd_same, rfl, _, _, rfl, _, [], rfl, rfl, ?_⟩
        refine ⟨_, rfl, _, rfl, _, _, rfl, rfl, al, _, _, _, rfl, rfl, SqT.of (g6.tup hl), at_of (j := i + 1) rfl (rowV_get (by omega)), _, rfl, _, rfl, al, _, _, _, rfl, rfl, SqT.of (g6.tup hl), at_of (j := i) rfl (rowV_get (by omega)), _, _, rfl, rfl, ?_⟩
        refine ⟨_, rfl, _, rfl, y, n - 1, gnF h i, rfl, g6.row hy, by omega, ?_⟩
        rintro _ H3 g7 ⟨S, rfl, hS⟩
        rw [show n - 1 + 1 = n by omega] at hS
        have hB2 : H3 B = some (.lst (rowV n (h i))) := (gT.trans g7).keep List.not_mem_nil hB
        refine ⟨B, S, rowV n (h i), rowV n (psum (gnF h i)), rfl, .inl ⟨SqL.of hB2, SqL.of hS, fun D2 nD2 => ?_⟩⟩
        refine lcP2 (l := []) (walk_zip (xs := rowV n (h i)) (ys := rowV n (psum (gnF h i))) (n := n) (by rw [rowV_len, rowV_len]; omega)) (fun _ _ => True) (fun j v _ => v = .int (h (i + 1) j)) nD2 lq_nil (by omega) (lcs_val fun _ _ _ h => h) trivial (fun j H' g _ => ⟨SqL.of (g.keep List.not_mem_nil hB2), SqL.of (g.keep List.not_mem_nil hS)⟩) ?_ ?_
        · intro j x y H4 H5 hj g8 _ ex ey gT2
          obtain ⟨_, rfl⟩ := rowV_at ex
          obtain ⟨_, rfl⟩ := rowV_at ey
          refine ⟨rfl, fun Q' q' => ⟨_, rfl, _, rfl, _, _, rfl, rfl, _, rfl, _, _, rfl, rfl, q' _ _ (Go.refl lq_nil) trivial ?_⟩⟩
          refine congrArg V.int ?_
          have e := psum_gn h i j
          omega
        · intro H4 acc2 g8 _ hD2 hl3 hv2
          have e := rowV_of hl3 hv2
          subst e
          refine ⟨_, rfl, .inl ⟨rfl, ?_⟩, ?_⟩
          · obtain ⟨acc, hF, _, _⟩ := hA.go ((gT.trans g7).trans g8) List.not_mem_nil
            exact ⟨_, SqL.of hF⟩
          · refine ⟨_, rfl, D2, _, rfl, .inl ⟨SqL.of hD2, fun p2 np2 => ?_⟩⟩
            have g9 := ((gT.trans g7).trans g8).snew np2 (o := .tup (rowV n (h (i + 1))))
            obtain ⟨acc, hF, hacc, hrow⟩ := hA.go g9 List.not_mem_nil
            have nD2F : D2 ≠ F := fun z => by
              have hF3 := (hA.go (gT.trans g7) List.not_mem_nil)
              obtain ⟨acc3, hF3, _⟩ := hF3
              rw [z, hF3] at nD2
              cases nD2
            refine ⟨F, acc, .ref p2, rfl, rfl, hF, by rw [hacc]; exact small1000 (by omega), ?_⟩
            refine ⟨D2, _, _, _, rfl, (g5.trans g9).mut nF0, nD2F, ?_, accR_push hF hacc hrow row_new⟩
            rw [upd_ne nD2F]
            exact (go_new np2).keep List.not_mem_nil hD2
      · rintro σ H2 ⟨B, y5, y6, y7, rfl, g5, nBF, hB, hA⟩
        have em : vs.length + 1 = m := by omega
        rw [em] at hA
        have hA2 := hA
        obtain ⟨acc, hF, hacc, hrow⟩ := hA2
        refine ⟨_, rfl, F, acc, rfl, .inl ⟨SqL.of hF, fun p np => ?_⟩⟩
        exact q _ _ (g5.snew np) (accR_tab hA np hF)

theorem sc_room_of : FnScope ["gains", "row", "column", "down"] ["gains", "row", "column"] (defScope s_room_of) := ⟨rfl, rfl, rfl, by decide +kernel, rfl, by decide +kernel, by decide +kernel⟩
theorem ok_room_of (D : DefP K mg "room_of" s_room_of) (C_least_there : Cal P w K mg base 1 "least_there" ["gains", "places"] (sp_least_there)) : Cal P w K mg base 2 "room_of" ["gains", "row", "column"] (sp_room_of) := by
  refine cal_mk (k := 1) D sc_room_of (fun vs H Q E h => ?_) (fun _ _ _ _ _ _ us hl => match us, hl with | [_, _, _], _ => rfl) (fun f cdv A outer s H vs Q hgd hr h => ?_)
  · obtain ⟨vg, m, n, G, r, c, rfl, _⟩ := h; rfl
  · obtain ⟨vg, m, n, G, r, c, rfl, ht, q⟩ := h
    refine ⟨_, (pss_cons (ps_set (i := 3) sc_room_of.nd rfl (Or.inl rfl) (pe_cal C_least_there hgd hr (pa_cons (pv 0) (pa_cons (pe_lst (pa_cons (pe_tup (pa_cons (pe_op op_sub (pv 1) pe_int) (pa_cons (pv 2) pa_nil))) (pa_cons (pe_tup (pa_cons (pv 1) (pa_cons (pe_op op_sub (pv 2) pe_int) pa_nil))) pa_nil))) pa_nil))))
      (pss_one (ps_ret (pe_tup (pa_cons (pv 3) (pa_cons (pe_cal C_least_there hgd hr (pa_cons (pv 0) (pa_cons (pe_lst (pa_cons (pe_tup (pa_cons (pv 1) (pa_cons (pv 2) pa_nil))) (pa_cons (pe_tup (pa_cons (pe_op op_sub (pv 1) pe_int) (pa_cons (pe_op op_sub (pv 2) pe_int) pa_nil))) pa_nil))) pa_nil))) pa_nil)))))), ?_⟩
    refine ⟨_, rfl, _, rfl, _, _, rfl, rfl, _, rfl, by show 2 ≤ sizeLine; decide, fun p1 n1 => ?_⟩
    refine ⟨_, rfl, _, rfl, _, _, rfl, rfl, by show 2 ≤ sizeLine; decide, fun p2 n2 => ⟨by show 2 ≤ sizeLine; decide, fun L nL => ?_⟩⟩
    have g1 : Go [] H _ := ((go_new n1 (o := .tup [.int ((r : Int) - 1), .int (c : Int)])).snew n2 (o := .tup [.int (r : Int), .int ((c : Int) - 1)])).snew nL (o := .lst [.ref p1, .ref p2])
    refine ⟨vg, m, n, G, L, p1, p2, (r : Int) - 1, c, r, (c : Int) - 1, rfl, g1.tab ht, upd_same, (go_new nL).tup ((go_new n2).tup upd_same), (go_new nL).tup upd_same, fun H2 g2 => ?_⟩
    have g3 := g1.trans g2
    refine ⟨_, rfl, _, rfl, _, rfl, _, rfl, by show 2 ≤ sizeLine; decide, fun p3 n3 => ?_⟩
    refine ⟨_, rfl, _, _, rfl, rfl, _, rfl, _, _, rfl, rfl, by show 2 ≤ sizeLine; decide, fun p4 n4 => ⟨by show 2 ≤ sizeLine; decide, fun L2' nL2 => ?_⟩⟩
    have g4 : Go [] H2 _ := ((go_new n3 (o := .tup [.int (r : Int), .int (c : Int)])).snew n4 (o := .tup [.int ((r : Int) - 1), .int ((c : Int) - 1)])).snew nL2 (o := .lst [.ref p3, .ref p4])
    have g5 := g3.trans g4
    refine ⟨vg, m, n, G, L2', p3, p4, r, c, (r : Int) - 1, (c : Int) - 1, rfl, g5.tab ht, upd_same, (go_new nL2).tup ((go_new n4).tup upd_same), (go_new nL2).tup upd_same, fun H3 g6 => ⟨by show 2 ≤ sizeLine; decide, fun p np => ?_⟩⟩
    exact q p _ ((g5.trans g6).snew np) upd_same

theorem sc_l_one : FnScope ["_law_feed_here", "_law_things"] ["_law_feed_here", "_law_things"] (defScope s_l_one) := ⟨rfl, rfl, rfl, by decide +kernel, rfl, by decide +kernel, by decide +kernel⟩
theorem ok_l_one (D : DefP K mg "_law_one" s_l_one) (C_l_draw : Cal P w K mg base 1 "_law_draw" ["_law_feed_here", "_law_many"] (sp_l_draw)) (m_len : mg "len" = none) : Cal P w K mg base 2 "_law_one" ["_law_feed_here", "_law_things"] (sp_l_one) := by
  refine cal_mk (k := 1) D sc_l_one (fun vs H Q E h => ?_) (fun _ _ _ _ _ _ us hl => match us, hl with | [_, _], _ => rfl) (fun f cdv A outer s H vs Q hgd hr h => ?_)
  · obtain ⟨a, b, xs, k, rfl, _⟩ := h; rfl
  · obtain ⟨a, b, xs, k, rfl, F, hk, hb, nb, hl, hz, q⟩ := h
    refine ⟨_, (pss_one (ps_ret (pe_ix (ix_listK K) (pv 1) (pe_cal C_l_draw hgd hr (pa_cons (pv 0) (pa_cons (pe_callB (call_lenK K) (by rfl) m_len b_len (pa_cons (pv 1) pa_nil)) pa_nil))) (fun _ _ => rfl)))), ?_⟩
    refine ⟨_, rfl, _, rfl, _, rfl, b, xs, rfl, .inl (SqL.of hb), a, _, k, rfl, F, hk, by omega, ?_, ?_⟩
    · have e : (2 : Nat) ^ 110 = 1298074214633706907132624082305024 := by decide
      rw [e]
      omega
    · intro r H1 g1 F1 r0 r1
      obtain ⟨j, rfl⟩ := Int.eq_ofNat_of_zero_le r0
      have hj : j < xs.length := by omega
      refine ⟨b, xs, j, xs[j], rfl, rfl, SqL.of (g1.keep (fun z => nb (List.mem_singleton.mp z)) hb), atI_nat (List.getElem?_eq_getElem hj), ?_⟩
      exact q _ _ g1 F1 (List.getElem_mem hj)

theorem sc_l_great : FnScope ["_law_feed_here", "_law_rows", "_law_columns", "_law_left", "_law_top", "_law_turn", "_law_line"] ["_law_feed_here"] (defScope s_l_great) := ⟨rfl, rfl, rfl, by decide +kernel, rfl, by decide +kernel, by decide +kernel⟩
theorem ok_l_great (D : DefP K mg "_law_great" s_l_great) (C_l_draw : Cal P w K mg base 1 "_law_draw" ["_law_feed_here", "_law_many"] (sp_l_draw)) (C_l_built : Cal P w K mg base 1 "_law_built" ["_law_left", "_law_top", "_law_gains"] (sp_l_built)) (m_range : mg "range" = none) : Cal P w K mg base 2 "_law_great" ["_law_feed_here"] (sp_l_great) := by
  refine cal_mk (k := 1) D sc_l_great (fun vs H Q E h => ?_) (fun _ _ _ _ _ _ us hl => match us, hl with | [_], _ => rfl) (fun f cdv A outer s H vs Q hgd hr h => ?_)
  · obtain ⟨a, k, rfl, _⟩ := h; rfl
  · obtain ⟨a, k, rfl, F, hk, q⟩ := h
    refine ⟨_, (pss_cons (ps_asg (pe_tup (pa_cons (pe_op op_add pe_int (pe_cal C_l_draw hgd hr (pa_cons (pv 0) (pa_cons pe_int pa_nil)))) (pa_cons (pe_op op_add pe_int (pe_cal C_l_draw hgd hr (pa_cons (pv 0) (pa_cons pe_int pa_nil)))) pa_nil))) (pg_tupK K (n := 2) rfl (pgs_cons (pg_name (i := 1) sc_l_great.nd rfl (Or.inl rfl)) (pgs_cons (pg_name (i := 2) sc_l_great.nd rfl (Or.inr rfl)) pgs_nil))))
      (pss_cons (ps_setLc (i := 3) (own := [("_law_turn", 5)]) rfl sc_l_great.nd rfl rfl (sw_true rfl rfl rfl (by decide +kernel)) (pi_range1 (by rfl) m_range (pa_cons (pv 1) pa_nil)) (blkOk_by (by kernel_rfl)) (fun _ _ _ _ _ => (pg_name (i := 5) sc_l_great.nd rfl (Or.inl rfl))) (fun _ _ _ _ _ => pts_nil) (fun _ _ _ _ _ => (pe_op op_sub (pe_cal C_l_draw hgd hr (pa_cons (pv 0) (pa_cons (pe_op op_pow pe_int pe_int) pa_nil))) (pe_op op_mul pe_int (pe_op op_pow pe_int pe_int)))))
      (pss_cons (ps_setLc (i := 4) (own := [("_law_turn", 5)]) rfl sc_l_great.nd rfl rfl (sw_true rfl rfl rfl (by decide +kernel)) (pi_range1 (by rfl) m_range (pa_cons (pe_op op_sub (pv 2) pe_int) pa_nil)) (blkOk_by (by kernel_rfl)) (fun _ _ _ _ _ => (pg_name (i := 5) sc_l_great.nd rfl (Or.inl rfl))) (fun _ _ _ _ _ => pts_nil) (fun _ _ _ _ _ => (pe_op op_sub (pe_cal C_l_draw hgd hr (pa_cons (pv 0) (pa_cons (pe_op op_pow pe_int pe_int) pa_nil))) (pe_op op_mul pe_int (pe_op op_pow pe_int pe_int)))))
      (pss_one (ps_ret (pe_cal C_l_built hgd hr (pa_cons (pv 3) (pa_cons (pv 4) (pa_cons (pe_lc (own := [("_law_line", 6)]) rfl sc_l_great.nd (pi_range1 (by rfl) m_range (pa_cons (pe_op op_sub (pv 1) pe_int) pa_nil)) (blkOk_by (by kernel_rfl)) (fun _ _ _ _ _ => (pg_name (i := 6) sc_l_great.nd rfl (Or.inl rfl))) (fun _ _ _ _ _ => pts_nil) (fun _ _ _ _ _ => (pe_lc (own := [("_law_turn", 5)]) rfl sc_l_great.nd (pi_range1 (by rfl) m_range (pa_cons (pe_op op_sub (pv 2) pe_int) pa_nil)) (blkOk_by (by kernel_rfl)) (fun _ _ _ _ _ => (pg_name (i := 5) sc_l_great.nd rfl (Or.inl rfl))) (fun _ _ _ _ _ => pts_nil) (fun _ _ _ _ _ => (pe_cal C_l_draw hgd hr (pa_cons (pv 0) (pa_cons (pe_op op_pow pe_int pe_int) pa_nil))))))) pa_nil))))))))), ?_⟩
    refine ⟨_, rfl, a, 8, k, rfl, F, by omega, by decide, by decide, fun r H1 g1 F1 r0 r1 => ⟨_, _, rfl, rfl, _, rfl, a, 8, k + 1, rfl, F1, by omega, by decide, by decide, fun r2 H2 g2 F2 p0 p1 => ⟨_, _, rfl, rfl, ?_⟩⟩⟩
    obtain ⟨i, rfl⟩ := Int.eq_ofNat_of_zero_le r0
    obtain ⟨j, rfl⟩ := Int.eq_ofNat_of_zero_le p0
    refine ⟨(show 2 ≤ sizeLine by decide), fun T nT => ?_⟩
    refine ⟨T, _, rfl, SqT.of upd_same, rfl, _, _, rfl, _, [], rfl, rfl, ?_⟩
    have gC := (g1.trans g2).snew nT (o := .tup [.int (1 + (i : Int)), .int (1 + (j : Int))])
    have F3 := F2.new nT (o := .tup [.int (1 + (i : Int)), .int (1 + (j : Int))])
    have hT : TabOk (1 + i) (1 + j) := ⟨by omega, by omega, by omega, by omega⟩
    refine ⟨_, rfl, _, rfl, by omega, by omega, fun D nD => ?_⟩
    have nlD : D ∉ [a] := F3.lq.ne nD
    rw [show (1 + (i : Int)).toNat = 1 + i by omega]
    refine lcN (l := [a]) walk_range0 (fun c H' => Fd H' a (k + 2 + c)) (fun _ v _ => ∃ z : Int, v = .int z ∧ True) nD F3.lq (by omega) (lcs_val fun i H o h => h.upd (F3.ne nD)) F3 (fun _ _ _ _ => trivial) ?_ ?_
    · rintro c x H4 H5 hi g4 F4 ⟨rfl, rfl⟩
      refine ⟨rfl, fun Q' q' => ⟨_, rfl, _, _, rfl, rfl, ⟨by decide, by decide, by decide⟩, a, _, k + 2 + c, rfl, F4, by omega, by decide, by decide, fun r H6 g6 F6 r0 r1 => ⟨_, _, rfl, rfl, ⟨by decide, by decide, by decide⟩, _, _, rfl, rfl, .inl ⟨by decide, by decide⟩, _, _, rfl, rfl, q' _ _ g6 F6 ⟨_, rfl, trivial⟩⟩⟩⟩
    intro H4 acc4 g4 F4 hD4 hl4 hv4
    obtain ⟨gl, rfl, _⟩ := ints_ex (R := fun _ _ => True) hl4 hv4
    refine ⟨_, rfl, _, _, rfl, rfl, _, rfl, by omega, by omega, fun D2 nD2 => ?_⟩
    rw [show (1 + (j : Int) - 1).toNat = j by omega]
    have nlD2 : D2 ∉ [a] := F4.lq.ne nD2
    refine lcN (l := [a]) walk_range0 (fun c H' => Fd H' a (k + 2 + (1 + i) + c)) (fun _ v _ => ∃ z : Int, v = .int z ∧ True) nD2 F4.lq (by omega) (lcs_val fun i H o h => h.upd (F4.ne nD2)) F4 (fun _ _ _ _ => trivial) ?_ ?_
    · rintro c x H5 H6 hi g5 F5 ⟨rfl, rfl⟩
      refine ⟨rfl, fun Q' q' => ⟨_, rfl, _, _, rfl, rfl, ⟨by decide, by decide, by decide⟩, a, _, k + 2 + (1 + i) + c, rfl, F5, by omega, by decide, by decide, fun r H6 g6 F6 r0 r1 => ⟨_, _, rfl, rfl, ⟨by decide, by decide, by decide⟩, _, _, rfl, rfl, .inl ⟨by decide, by decide⟩, _, _, rfl, rfl, q' _ _ g6 F6 ⟨_, rfl, trivial⟩⟩⟩⟩
    intro H5 acc5 g5 F5 hD5 hl5 hv5
    obtain ⟨gt, rfl, _⟩ := ints_ex (R := fun _ _ => True) hl5 hv5
    refine ⟨_, rfl, _, rfl, _, rfl, _, _, rfl, rfl, _, rfl, by omega, by omega, fun E nE => ?_⟩
    rw [show (1 + (i : Int) - 1).toNat = i by omega]
    have nlE : E ∉ [a] := F5.lq.ne nE
    refine lcND (l := [a]) walk_range0 (fun c H' => Fd H' a (k + 20 + 20 * c)) (fun _ v H' => LiB [a] E j 1000000000000000000000000000 v H') nE F5.lq (by omega) (lcs_lib fun i H o h => h.upd (F5.ne nE)) (F5.mono (by omega)) (fun _ _ _ _ => trivial) ?_ ?_
    · rintro c x H6 H7 hi g6 F6 ⟨es, hE0⟩ ⟨rfl, rfl⟩
      refine ⟨rfl, fun Q' q' => ?_⟩
      refine ⟨_, rfl, _, _, rfl, rfl, _, rfl, by omega, by omega, fun D3 nD3 => ?_⟩
      rw [show (1 + (j : Int) - 1).toNat = j by omega]
      refine lcN (l := [a]) walk_range0 (fun d H' => Fd H' a (k + 20 + 20 * c + d)) (fun _ v _ => ∃ z : Int, v = .int z ∧ 0 ≤ z ∧ z ≤ 1000000000000000000000000000) nD3 F6.lq (by omega) (lcs_val fun i H o h => h.upd (F6.ne nD3)) F6 (fun _ _ _ _ => trivial) ?_ ?_
      · rintro d x H8 H9 hj g9 F9 ⟨rfl, rfl⟩
        refine ⟨rfl, fun Q2 q2 => ⟨_, rfl, _, _, rfl, rfl, ⟨by decide, by decide, by decide⟩, a, _, k + 20 + 20 * c + d, rfl, F9, by omega, by decide, by decide, fun r H10 g10 F10 r0 r1 => q2 _ _ g10 F10 ⟨_, rfl, r0, ?_⟩⟩⟩
        have e : (10 : Int) ^ Int.toNat 27 = 1000000000000000000000000000 := by decide
        rw [e] at r1
        omega
      · intro H8 acc8 g8 F8 hD8 hl8 hv8
        obtain ⟨gg, rfl, hgg⟩ := ints_ex (R := fun _ z => 0 ≤ z ∧ z ≤ 1000000000000000000000000000) hl8 hv8
        exact q' _ _ g8 (F8.mono (by omega)) ⟨D3, gg, rfl, F6.lq.ne nD3, fun z => ne_of_none hE0 nD3 z.symm, hD8, hgg⟩
    intro H6 acc6 g6 F6 hE6 hl6 hv6
    obtain ⟨G, hG, hGb⟩ := accB_tab ⟨acc6, hE6, hl6, hv6⟩
    have hD6 := g6.keep nlD (g5.keep nlD hD4)
    have hD26 := g6.keep nlD2 hD5
    refine ⟨.ref D, .ref D2, .ref E, 1 + i, j, gl, gt, G, rfl, ⟨D, rfl, hD6⟩, ⟨D2, rfl, hD26⟩, ?_, by omega, by omega, by omega, fun u H7 g7 hu => ?_⟩
    · rw [show 1 + i - 1 = i by omega]
      exact hG
    refine q u H7 _ _ _ ((((gC.trans g4).trans g5).trans g6).trans (g7.up F6.lq)) ((F6.keep g7).mono (by omega)) (hu.n (Nat.add_comm j 1)) hT (bF_straight fun p c hp hc => (hGb p c (by omega) (by omega)).1)

theorem sc_l_some : FnScope ["_law_feed_here", "_law_many", "_law_got", "_law_at"] ["_law_feed_here", "_law_many"] (defScope s_l_some) := ⟨rfl, rfl, rfl, by decide +kernel, rfl, by decide +kernel, by decide +kernel⟩
theorem ok_l_some (D : DefP K mg "_law_some" s_l_some) (C_l_draw : Cal P w K mg base 1 "_law_draw" ["_law_feed_here", "_law_many"] (sp_l_draw)) (m_range : mg "range" = none) (m_tuple : mg "tuple" = none) : Cal P w K mg base 2 "_law_some" ["_law_feed_here", "_law_many"] (sp_l_some) := by
  refine cal_mk (k := 1) D sc_l_some (fun vs H Q E h => ?_) (fun _ _ _ _ _ _ us hl => match us, hl with | [_, _], _ => rfl) (fun f cdv A outer s H vs Q hgd hr h => ?_)
  · obtain ⟨a, many, k, rfl, _⟩ := h; rfl
  · obtain ⟨a, many, k, rfl, F, hk, h1, h8, q⟩ := h
    refine ⟨_, (pss_cons (ps_setLc (i := 2) (own := [("_law_at", 3)]) rfl sc_l_some.nd rfl rfl (sw_true rfl rfl rfl (by decide +kernel)) (pi_range1 (by rfl) m_range (pa_cons (pv 1) pa_nil)) (blkOk_by (by kernel_rfl)) (fun _ _ _ _ _ => (pg_name (i := 3) sc_l_some.nd rfl (Or.inl rfl))) (fun _ _ _ _ _ => (pts_one (pt_cmpR op_gt (pe_cal C_l_draw hgd hr (pa_cons (pv 0) (pa_cons pe_int pa_nil))) pe_int (nomark _)))) (fun _ _ _ _ _ => (pv 3)))
      (pss_one (ps_ret (pe_ifExp (pt_cmpR (op_neDK K hr.units) (pv 2) (pe_lst pa_nil) (nomark _)) (pe_callTy (call_tuple_ofK K) (by rfl) m_tuple b_tuple (pa_cons (pv 2) pa_nil)) (pe_tup (pa_cons (pe_cal C_l_draw hgd hr (pa_cons (pv 0) (pa_cons (pv 1) pa_nil))) pa_nil)))))), ?_⟩
    refine ⟨_, rfl, _, rfl, by omega, by omega, fun D nD => ?_⟩
    rw [Int.toNat_natCast]
    have nl : D ∉ [a] := F.lq.ne nD
    have nl2 : a ≠ D := fun z => nl (List.mem_singleton.mpr z.symm)
    refine lc_it walk_range0 (fun i H' => Go [a] H H' ∧ Fd H' a (k + i) ∧ ∃ (n : Nat) (r : Nat → Nat), H' D = some (.lst (rowV n (fun j => (r j : Int)))) ∧ n ≤ i ∧ (∀ j, j < n → r j < i) ∧ ∀ j, j + 1 < n → r j < r (j + 1)) ⟨Go.new F.lq nD, F.upd nl2, 0, fun _ => 0, upd_same, Nat.le_refl _, fun j h => absurd h (Nat.not_lt_zero j), fun j h => absurd h (Nat.not_lt_zero _)⟩ (fun _ _ _ _ => trivial) ?_ ?_
    · rintro i x H2 H3 hi ⟨g2, F2, n, r, hD, hn, hr, hu⟩ ⟨rfl, rfl⟩
      refine ⟨rfl, ?_⟩
      refine ⟨_, rfl, a, 3, k + i, rfl, F2, by omega, by decide, by decide, fun r0 H4 g4 F4 p0 p1 => ⟨_, _, rfl, rfl, _, rfl, ?_⟩⟩
      have hD4 := g4.keep nl hD
      by_cases hz : r0 > 0
      · rw [decide_eq_true hz]
        refine iteT ⟨_, rfl, _, hD4, small1000 (by rw [rowV_len]; omega), (g2.trans g4).mut nD, F4.upd nl2, n + 1, ext n r i, ?_, by omega, ?_, ?_⟩
        · rw [upd_same, ext_row]
        · intro j hj
          by_cases hjn : j < n
          · rw [ext_lt hjn]
            have := hr j hjn
            omega
          · rw [ext_ge hjn]
            omega
        · intro j hj
          rw [ext_lt (by omega)]
          by_cases hjn : j + 1 < n
          · rw [ext_lt hjn]
            exact hu j hjn
          · rw [ext_ge hjn]
            exact hr j (by omega)
      · rw [decide_eq_false hz]
        exact iteF ⟨g2.trans g4, F4.mono (by omega), n, r, hD4, by omega, fun j hj => by have := hr j hj; omega, hu⟩
    · rintro H2 ⟨g2, F2, n, r, hD, hn, hr, hu⟩
      refine ⟨_, rfl, Nat.zero_le _, fun E nE => ?_⟩
      have gE := Go.new g2.z nE (o := .lst [])
      have hD3 := gE.keep nl hD
      have dD : Dp K (upd H2 E (.lst [])) (.ref D) (.list ((List.range n).map fun j => .int (r j))) := by
        refine .lst (SqL.of hD3) (dpAll_of _ _ (by rw [rowV_len, List.length_map, List.length_range]) fun i v d hv hd => ?_)
        obtain ⟨lt, e⟩ := rowV_at hv
        rw [List.getElem?_map, List.getElem?_range lt] at hd
        have ed : PyData.int (r i) = d := Option.some.inj hd
        rw [e, ← ed]
        exact .int _
      refine ⟨_, .list [], dD, .lst (SqL.of upd_same) .nil, ?_, by decide, ?_⟩
      · refine (good_lst fun d hd => ?_ : Good 1 _).shaped (by decide)
        obtain ⟨j, _, rfl⟩ := List.mem_map.mp hd
        exact good_int
      · refine ⟨_, rfl, ?_⟩
        have m110 : (many : Int).natAbs < 2 ^ 110 := by
          have e : (2 : Nat) ^ 110 = 1298074214633706907132624082305024 := by decide
          rw [e]
          omega
        cases n with
        | zero =>
          rw [eqv_nil0]
          refine iteF ?_
          refine ⟨_, rfl, _, rfl, a, many, k + many, rfl, F2.new nE, by omega, by omega, m110, fun r0 H4 g4 F4 p0 p1 => ?_⟩
          obtain ⟨j, rfl⟩ := Int.eq_ofNat_of_zero_le p0
          refine ⟨(show 1 ≤ sizeLine by decide), fun p np => ?_⟩
          refine q _ _ 1 (fun _ => j) (((g2.trans gE).trans g4).snew np) ((F4.new np).mono (by omega)) ⟨⟨p, rfl, upd_same⟩, Nat.le_refl 1, h1, fun _ _ => by omega, fun j hj => by omega⟩
        | succ n =>
          rw [eqv_nilS]
          refine iteT ⟨_, rfl, D, _, rfl, .inl ⟨SqL.of hD3, fun p np => ?_⟩⟩
          exact q _ _ (n + 1) r ((g2.trans gE).snew np) (((F2.new nE).new np).mono (by omega)) ⟨row_new, by omega, by omega, hr, hu⟩

theorem sc_are_numbers : FnScope ["thing", "many", "count", "one"] ["thing", "many", "count"] (defScope s_are_numbers) := ⟨rfl, rfl, rfl, by decide +kernel, rfl, by decide +kernel, by decide +kernel⟩
theorem ok_are_numbers (D : DefP K mg "are_numbers" s_are_numbers) (C_is_row_of : Cal P w K mg base 1 "is_row_of" ["thing", "least", "most"] (sp_is_row_of)) (C_is_within : Cal P w K mg base 2 "is_within" ["thing", "least", "most"] (sp_is_within)) (m_all : mg "all" = none) : Cal P w K mg base 3 "are_numbers" ["thing", "many", "count"] (sp_are_numbers) := by
  refine cal_mk (k := 2) D sc_are_numbers (fun vs H Q E h => ?_) (fun _ _ _ _ _ _ us hl => match us, hl with | [_, _, _], _ => rfl) (fun f cdv A outer s H vs Q hgd hr h => ?_)
  · obtain ⟨v, n, g, c, rfl, _⟩ := h; rfl
  · obtain ⟨v, n, g, c, rfl, ⟨a, rfl, ha⟩, hn, hb, q⟩ := h
    refine ⟨_, (pss_one (ps_ret (pe_and (pe_cal C_is_row_of hgd hr (pa_cons (pv 0) (pa_cons (pv 1) (pa_cons (pv 1) pa_nil)))) (pe_one (pe_callB (cr_allK K rfl) (by rfl) m_all b_all (pa_cons (pe_lc (own := [("one", 3)]) rfl sc_are_numbers.nd (pi_tupK K (pv 0)) (blkOk_by (by kernel_rfl)) (fun _ _ _ _ _ => (pg_name (i := 3) sc_are_numbers.nd rfl (Or.inl rfl))) (fun _ _ _ _ _ => pts_nil) (fun _ _ _ _ _ => (pe_cal C_is_within hgd hr (pa_cons (pv 3) (pa_cons pe_int (pa_cons (pe_op op_sub (pv 2) pe_int) pa_nil)))))) pa_nil)))))), ?_⟩
    refine ⟨_, rfl, _, rfl, _, rfl, a, rowV n g, n, n, rfl, ha, by rw [rowV_len]; exact Int.le_refl _, by rw [rowV_len]; exact Int.le_refl _, true, rfl, iteT ?_⟩
    refine ⟨_, rfl, a, rfl, ⟨_, SqT.of ha⟩, fun D nD => ?_⟩
    refine lcN (l := []) walk_tup (fun _ _ => True) (fun _ v _ => v = .bl true) nD lq_nil (by rw [rowV_len]; omega) (lcs_val fun _ _ _ h => h) trivial (fun i H' g _ => SqT.of (g.tup ha)) ?_ ?_
    · rintro i x H1 H2 hi g1 _ ⟨rfl, hx⟩
      obtain ⟨lt, rfl⟩ := rowV_at hx
      refine ⟨rfl, fun Q' q' => ⟨_, rfl, _, rfl, c, 1, rfl, rfl, g i, 0, c - 1, rfl, (hb i lt).1, (hb i lt).2, q' _ _ (Go.refl lq_nil) trivial rfl⟩⟩
    · intro H' acc g1 _ hA hl hv
      have e := all_true hl hv
      refine ⟨D, _, rfl, SqL.of (e ▸ hA), ?_⟩
      rw [all_id]
      exact q H' g1

theorem sc_need_number : FnScope ["number", "least", "most"] ["number", "least", "most"] (defScope s_need_number) := ⟨rfl, rfl, rfl, by decide +kernel, rfl, by decide +kernel, by decide +kernel⟩
theorem ok_need_number (D : DefP K mg "need_number" s_need_number) (C_is_within : Cal P w K mg base 2 "is_within" ["thing", "least", "most"] (sp_is_within)) : Cal P w K mg base 3 "need_number" ["number", "least", "most"] (sp_need_number) := by
  refine cal_mk (k := 2) D sc_need_number (fun vs H Q E h => ?_) (fun _ _ _ _ _ _ us hl => match us, hl with | [_, _, _], _ => rfl) (fun f cdv A outer s H vs Q hgd hr h => ?_)
  · obtain ⟨x, l, m, rfl, _⟩ := h; rfl
  · obtain ⟨x, l, m, rfl, h1, h2, q⟩ := h
    refine ⟨_, (pss_one (ps_if (pt_not (pt_val (pe_cal C_is_within hgd hr (pa_cons (pv 0) (pa_cons (pv 1) (pa_cons (pv 2) pa_nil)))))) (pss_one ps_never) pss_nil)), ?_⟩
    exact ⟨_, rfl, _, rfl, _, rfl, x, l, m, rfl, h1, h2, true, rfl, iteF q⟩

theorem sc_gains_of : FnScope ["table", "found", "row", "column"] ["table"] (defScope s_gains_of) := ⟨rfl, rfl, rfl, by decide +kernel, rfl, by decide +kernel, by decide +kernel⟩
theorem ok_gains_of (D : DefP K mg "gains_of" s_gains_of) (C_width : Cal P w K mg base 1 "width" ["table"] (sp_width)) (C_gain_at : Cal P w K mg base 2 "gain_at" ["table", "row", "column"] (sp_gain_at)) (m_range : mg "range" = none) (m_len : mg "len" = none) (m_tuple : mg "tuple" = none) : Cal P w K mg base 3 "gains_of" ["table"] (sp_gains_of) := by
  refine cal_mk (k := 2) D sc_gains_of (fun vs H Q E h => ?_) (fun _ _ _ _ _ _ us hl => match us, hl with | [_], _ => rfl) (fun f cdv A outer s H vs Q hgd hr h => ?_)
  · obtain ⟨v, m, n, f, rfl, _⟩ := h; rfl
  · obtain ⟨v, m, n, f, rfl, ht, hT, q⟩ := h
    refine ⟨_, (pss_cons (ps_set (i := 1) sc_gains_of.nd rfl (Or.inl rfl) (pe_lst pa_nil))
      (pss_cons (ps_for PassesOwn.never rfl (pi_range1 (by rfl) m_range (pa_cons (pe_op op_sub (pe_callB (call_lenK K) (by rfl) m_len b_len (pa_cons (pv 0) pa_nil)) pe_int) pa_nil)) (pg_name (i := 2) sc_gains_of.nd rfl (Or.inr rfl)) (pss_one (ps_expr (pe_bm PySem.F.plainAttrs_list PySem.F.slot_list_append PySem.F.type_list_append mt_append (pv 1) (pa_cons (pe_callTy (call_tuple_ofK K) (by rfl) m_tuple b_tuple (pa_cons (pe_lc (own := [("column", 3)]) rfl sc_gains_of.nd (pi_range1 (by rfl) m_range (pa_cons (pe_op op_sub (pe_cal C_width hgd hr (pa_cons (pv 0) pa_nil)) pe_int) pa_nil)) (blkOk_by (by kernel_rfl)) (fun _ _ _ _ _ => (pg_name (i := 3) sc_gains_of.nd rfl (Or.inl rfl))) (fun _ _ _ _ _ => pts_nil) (fun _ _ _ _ _ => (pe_cal C_gain_at hgd hr (pa_cons (pv 0) (pa_cons (pv 2) (pa_cons (pv 3) pa_nil)))))) pa_nil)) pa_nil)))))
      (pss_one (ps_ret (pe_callTy (call_tuple_ofK K) (by rfl) m_tuple b_tuple (pa_cons (pv 1) pa_nil)))))), ?_⟩
    obtain ⟨a, vs, rfl, ha, hl2, hk⟩ := id ht
    have h1 := hT.m1
    have h2 := hT.m9
    have h3 := hT.n1
    have h4 := hT.n9
    refine ⟨Nat.zero_le _, fun D nD => ?_⟩
    have g0 : Go [] H (upd H D (.lst [])) := go_new nD
    refine ⟨_, rfl, a, vs, rfl, .inr (SqT.of (g0.tup ha)), _, _, rfl, rfl, _, rfl, by omega, by omega, ?_⟩
    rw [show (((vs.length : Nat) : Int) - 1).toNat = m - 1 by omega]
    refine for_it walk_range0 (fun i σ H1 => ∃ y2, σ = [some (.ref a), some (.ref D), y2, none] ∧ Go [] H H1 ∧ AccR H1 D i (n - 1) (gnF f)) ⟨none, rfl, g0, accR_nil⟩ (fun _ _ _ _ _ => trivial) ?_ ?_
    · rintro i x σ H0 H1 hi ⟨y2, rfl, g1, hA⟩ ⟨rfl, rfl⟩
      have hA2 := hA
      obtain ⟨acc, hD, hacc, hrow⟩ := hA2
      refine ⟨_, rfl, .inl ⟨rfl, _, SqL.of hD⟩, ?_⟩
      refine ⟨_, rfl, _, m, n, f, rfl, g1.tab ht, by omega, _, _, rfl, rfl, _, rfl, by omega, by omega, ?_⟩
      rw [show (((n : Nat) : Int) - 1).toNat = n - 1 by omega]
      intro D2 nD2
      refine lcN (l := []) walk_range0 (fun _ _ => True) (fun j v _ => v = .int (gnF f i j)) nD2 lq_nil (by omega) (lcs_val fun _ _ _ h => h) trivial (fun _ _ _ _ => trivial) ?_ ?_
      · rintro j x H2 H3 hj g2 _ ⟨rfl, rfl⟩
        refine ⟨rfl, fun Q' q' => ⟨_, rfl, _, rfl, _, rfl, .ref a, m, n, f, i, j, rfl, (g1.trans g2).tab ht, by omega, by omega, q' _ _ (Go.refl lq_nil) trivial rfl⟩⟩
      · intro H2 acc2 g2 _ hB hl hv
        have e := rowV_of hl hv
        subst e
        refine ⟨D2, _, rfl, .inl ⟨SqL.of hB, fun p np => ?_⟩⟩
        have g3 : Go [] H1 (upd H2 p (.tup (rowV (n - 1) (gnF f i)))) := g2.snew np
        obtain ⟨acc, hD, hacc, hrow⟩ := hA.go g3 List.not_mem_nil
        refine ⟨D, acc, .ref p, rfl, rfl, hD, by rw [hacc]; exact small1000 (by omega), ?_⟩
        exact ⟨_, rfl, (g1.trans g3).mut nD, accR_push hD hacc hrow row_new⟩
    · rintro σ H1 ⟨y2, rfl, g1, hA⟩
      have hA2 := hA
      obtain ⟨acc, hD, hacc, hrow⟩ := hA2
      refine ⟨_, rfl, D, acc, rfl, .inl ⟨SqL.of hD, fun p np => ?_⟩⟩
      exact q _ _ (g1.snew np) (accR_tab hA np hD)

theorem sc_is_table_form : FnScope ["thing", "row"] ["thing"] (defScope s_is_table_form) := ⟨rfl, rfl, rfl, by decide +kernel, rfl, by decide +kernel, by decide +kernel⟩
theorem ok_is_table_form (D : DefP K mg "is_table_form" s_is_table_form) (C_is_row_of : Cal P w K mg base 1 "is_row_of" ["thing", "least", "most"] (sp_is_row_of)) (C_are_integers : Cal P w K mg base 2 "are_integers" ["thing", "many"] (sp_are_integers)) (m_all : mg "all" = none) (m_len : mg "len" = none) {t_MOST_ROWS : Tok} (c_MOST_ROWS : mg "MOST_ROWS" = some (.int 8 t_MOST_ROWS)) : Cal P w K mg base 3 "is_table_form" ["thing"] (sp_is_table_form) := by
  refine cal_mk (k := 2) D sc_is_table_form (fun vs H Q E h => ?_) (fun _ _ _ _ _ _ us hl => match us, hl with | [_], _ => rfl) (fun f cdv A outer s H vs Q hgd hr h => ?_)
  · obtain ⟨v, m, n, f, rfl, _⟩ := h; rfl
  · obtain ⟨v, m, n, f, rfl, ht, hT, q⟩ := h
    refine ⟨_, (pss_cons (ps_if (PW.pt (pw_or (pt_not (pt_val (pe_cal C_is_row_of hgd hr (pa_cons (pv 0) (pa_cons pe_int (pa_cons (pe_glob (v := .int 8) rfl c_MOST_ROWS ⟨_, rfl⟩) pa_nil)))))) (pw_or1 (pt_not (pt_val (pe_cal C_is_row_of hgd hr (pa_cons (pe_ix (ix_tupK K) (pv 0) pe_int (fun _ _ => rfl)) (pa_cons pe_int (pa_cons (pe_glob (v := .int 8) rfl c_MOST_ROWS ⟨_, rfl⟩) pa_nil))))))))) (pss_one (ps_ret pe_bl)) pss_nil)
      (pss_one (ps_ret (pe_callB (cr_allK K rfl) (by rfl) m_all b_all (pa_cons (pe_lc (own := [("row", 1)]) rfl sc_is_table_form.nd (pi_tupK K (pv 0)) (blkOk_by (by kernel_rfl)) (fun _ _ _ _ _ => (pg_name (i := 1) sc_is_table_form.nd rfl (Or.inl rfl))) (fun _ _ _ _ _ => pts_nil) (fun _ _ _ _ _ => (pe_cal C_are_integers hgd hr (pa_cons (pv 1) (pa_cons (pe_callB (call_lenK K) (by rfl) m_len b_len (pa_cons (pe_ix (ix_tupK K) (pv 0) pe_int (fun _ _ => rfl)) pa_nil)) pa_nil))))) pa_nil))))), ?_⟩
    obtain ⟨a, vs, rfl, ha, rfl, hk⟩ := id ht
    have h1 := hT.m1
    have h2 := hT.m8
    have h3 := hT.n1
    have h4 := hT.n8
    obtain ⟨vs', x, ha', hl', hx, b, rfl, hb⟩ := ht.at_ (i := 0) h1
    rw [ha] at ha'
    cases ha'
    refine ⟨_, rfl, a, vs, 1, 8, rfl, ha, by omega, by omega, true, rfl, iteF ?_⟩
    refine ⟨_, rfl, a, vs, 0, .ref b, rfl, rfl, SqT.of ha, atI_nat hx, b, _, 1, 8, rfl, hb, by rw [rowV_len]; omega, by rw [rowV_len]; omega, true, rfl, iteF ?_⟩
    refine ⟨_, rfl, a, rfl, ⟨_, SqT.of ha⟩, fun D nD => ?_⟩
    refine lcN (l := []) walk_tup (fun _ _ => True) (fun _ v _ => v = .bl true) nD lq_nil (by omega) (lcs_val fun _ _ _ h => h) trivial (fun i H' g _ => SqT.of (g.tup ha)) ?_ ?_
    · rintro i x H1 H2 hi g1 _ ⟨rfl, hx2⟩
      refine ⟨rfl, fun Q' q' => ⟨_, rfl, _, rfl, a, vs, 0, .ref b, rfl, rfl, SqT.of (g1.tup ha), atI_nat hx, b, _, rfl, .inr (SqT.of (g1.tup hb)), x, n, f i, ?_, g1.row (hk i x hx2), by omega, fun H3 g3 => q' _ _ g3 trivial rfl⟩⟩
      show [x, V.int (((rowV n (f 0)).length : Nat) : Int)] = _
      rw [rowV_len]
    · intro H' acc g1 _ hA hl hv
      have e := all_true hl hv
      refine ⟨D, _, rfl, SqL.of (e ▸ hA), ?_⟩
      rw [all_id]
      exact q H' g1

theorem sc_need_numbers : FnScope ["numbers", "many"] ["numbers", "many"] (defScope s_need_numbers) := ⟨rfl, rfl, rfl, by decide +kernel, rfl, by decide +kernel, by decide +kernel⟩
theorem ok_need_numbers (D : DefP K mg "need_numbers" s_need_numbers) (C_are_integers : Cal P w K mg base 2 "are_integers" ["thing", "many"] (sp_are_integers)) : Cal P w K mg base 3 "need_numbers" ["numbers", "many"] (sp_need_numbers) := by
  refine cal_mk (k := 2) D sc_need_numbers (fun vs H Q E h => ?_) (fun _ _ _ _ _ _ us hl => match us, hl with | [_, _], _ => rfl) (fun f cdv A outer s H vs Q hgd hr h => ?_)
  · obtain ⟨v, n, g, rfl, _⟩ := h; rfl
  · obtain ⟨v, n, g, rfl, hI, hc, q⟩ := h
    refine ⟨_, (pss_one (ps_if (pt_not (pt_val (pe_cal C_are_integers hgd hr (pa_cons (pv 0) (pa_cons (pv 1) pa_nil))))) (pss_one ps_never) pss_nil)), ?_⟩
    exact ⟨_, rfl, _, rfl, v, n, g, rfl, hI, hc, fun H1 g1 => ⟨true, rfl, iteF (q H1 g1)⟩⟩

theorem sc_are_parts : FnScope ["thing", "left", "top", "gains", "line"] ["thing"] (defScope s_are_parts) := ⟨rfl, rfl, rfl, by decide +kernel, rfl, by decide +kernel, by decide +kernel⟩
theorem ok_are_parts (D : DefP K mg "are_parts" s_are_parts) (C_is_row_of : Cal P w K mg base 1 "is_row_of" ["thing", "least", "most"] (sp_is_row_of)) (C_are_integers : Cal P w K mg base 2 "are_integers" ["thing", "many"] (sp_are_integers)) (m_len : mg "len" = none) (m_all : mg "all" = none) {t_MOST_LEFT : Tok} (c_MOST_LEFT : mg "MOST_LEFT" = some (.int 8 t_MOST_LEFT)) {t_MOST_TOP : Tok} (c_MOST_TOP : mg "MOST_TOP" = some (.int 7 t_MOST_TOP)) : Cal P w K mg base 3 "are_parts" ["thing"] (sp_are_parts) := by
  refine cal_mk (k := 2) D sc_are_parts (fun vs H Q E h => ?_) (fun _ _ _ _ _ _ us hl => match us, hl with | [_], _ => rfl) (fun f cdv A outer s H vs Q hgd hr h => ?_)
  · obtain ⟨v, m, n, f, rfl, _⟩ := h; rfl
  · obtain ⟨v, m, n, f, rfl, ⟨p, vl, vt, vg, rfl, hp, ⟨al, rfl, hl⟩, ⟨at_, rfl, ht⟩, ⟨ag, vs, rfl, hg, hlen, hk⟩⟩, hT, q⟩ := h
    refine ⟨_, (pss_cons (ps_if (pt_not (pt_val (pe_cal C_is_row_of hgd hr (pa_cons (pv 0) (pa_cons pe_int (pa_cons pe_int pa_nil)))))) (pss_one (ps_ret pe_bl)) pss_nil)
      (pss_cons (ps_asg (pv 0) (pg_tupK K (n := 3) rfl (pgs_cons (pg_name (i := 1) sc_are_parts.nd rfl (Or.inl rfl)) (pgs_cons (pg_name (i := 2) sc_are_parts.nd rfl (Or.inr rfl)) (pgs_cons (pg_name (i := 3) sc_are_parts.nd rfl (Or.inl rfl)) pgs_nil)))))
      (pss_cons (ps_if (PW.pt (pw_or (pt_not (pt_val (pe_cal C_is_row_of hgd hr (pa_cons (pv 1) (pa_cons pe_int (pa_cons (pe_glob (v := .int 8) rfl c_MOST_LEFT ⟨_, rfl⟩) pa_nil)))))) (pw_or1 (pt_not (pt_val (pe_cal C_are_integers hgd hr (pa_cons (pv 1) (pa_cons (pe_callB (call_lenK K) (by rfl) m_len b_len (pa_cons (pv 1) pa_nil)) pa_nil)))))))) (pss_one (ps_ret pe_bl)) pss_nil)
      (pss_cons (ps_if (PW.pt (pw_or (pt_not (pt_val (pe_cal C_is_row_of hgd hr (pa_cons (pv 2) (pa_cons pe_int (pa_cons (pe_glob (v := .int 7) rfl c_MOST_TOP ⟨_, rfl⟩) pa_nil)))))) (pw_or1 (pt_not (pt_val (pe_cal C_are_integers hgd hr (pa_cons (pv 2) (pa_cons (pe_callB (call_lenK K) (by rfl) m_len b_len (pa_cons (pv 2) pa_nil)) pa_nil)))))))) (pss_one (ps_ret pe_bl)) pss_nil)
      (pss_one (ps_ret (pe_and (pe_cal C_is_row_of hgd hr (pa_cons (pv 3) (pa_cons (pe_op op_sub (pe_callB (call_lenK K) (by rfl) m_len b_len (pa_cons (pv 1) pa_nil)) pe_int) (pa_cons (pe_op op_sub (pe_callB (call_lenK K) (by rfl) m_len b_len (pa_cons (pv 1) pa_nil)) pe_int) pa_nil)))) (pe_one (pe_callB (cr_allK K rfl) (by rfl) m_all b_all (pa_cons (pe_lc (own := [("line", 4)]) rfl sc_are_parts.nd (pi_tupK K (pv 3)) (blkOk_by (by kernel_rfl)) (fun _ _ _ _ _ => (pg_name (i := 4) sc_are_parts.nd rfl (Or.inl rfl))) (fun _ _ _ _ _ => pts_nil) (fun _ _ _ _ _ => (pe_cal C_are_integers hgd hr (pa_cons (pv 4) (pa_cons (pe_callB (call_lenK K) (by rfl) m_len b_len (pa_cons (pv 2) pa_nil)) pa_nil))))) pa_nil)))))))))), ?_⟩
    have h1 := hT.m1
    have h2 := hT.m8
    have h3 := hT.n1
    have h4 := hT.n8
    refine ⟨_, rfl, p, _, 3, 3, rfl, hp, by show (3 : Int) ≤ 3; decide, by show (3 : Int) ≤ 3; decide, true, rfl, iteF ?_⟩
    refine ⟨_, rfl, p, _, rfl, SqT.of hp, rfl, _, _, rfl, _, _, rfl, _, [], rfl, rfl, ?_⟩
    refine ⟨_, rfl, al, _, 1, 8, rfl, hl, by rw [rowV_len]; omega, by rw [rowV_len]; omega, true, rfl, iteF ?_⟩
    refine ⟨_, rfl, _, rfl, al, _, rfl, .inr (SqT.of hl), .ref al, m, _, by rw [rowV_len]; rfl, ⟨al, rfl, hl⟩, by omega, fun H1 g1 => ⟨true, rfl, iteF ?_⟩⟩
    refine ⟨_, rfl, at_, _, 0, 7, rfl, g1.tup ht, by rw [rowV_len]; omega, by rw [rowV_len]; omega, true, rfl, iteF ?_⟩
    refine ⟨_, rfl, _, rfl, at_, _, rfl, .inr (SqT.of (g1.tup ht)), .ref at_, n - 1, _, by rw [rowV_len]; rfl, ⟨at_, rfl, g1.tup ht⟩, by omega, fun H2 g2 => ⟨true, rfl, iteF ?_⟩⟩
    have g3 := g1.trans g2
    refine ⟨_, rfl, _, rfl, al, _, rfl, .inr (SqT.of (g3.tup hl)), _, _, rfl, rfl, _, rfl, al, _, rfl, .inr (SqT.of (g3.tup hl)), _, _, rfl, rfl, ag, vs, _, _, rfl, g3.tup hg, by rw [rowV_len]; omega, by rw [rowV_len]; omega, true, rfl, iteT ?_⟩
    refine ⟨_, rfl, ag, rfl, ⟨_, SqT.of (g3.tup hg)⟩, fun D nD => ?_⟩
    refine lcN (l := []) (walk_tup (xs := vs)) (fun _ _ => True) (fun _ v _ => v = .bl true) nD lq_nil (by omega) (lcs_val fun _ _ _ h => h) trivial (fun i H' g _ => SqT.of ((g3.trans g).tup hg)) ?_ ?_
    · rintro i x H3 H4 hi g4 _ ⟨rfl, hx⟩
      exact ⟨rfl, fun Q' q' => ⟨_, rfl, _, rfl, at_, _, rfl, .inr (SqT.of ((g3.trans g4).tup ht)), x, n - 1, _, by rw [rowV_len]; rfl, (g3.trans g4).row (hk i x hx), by omega, fun H5 g5 => q' _ _ g5 trivial rfl⟩⟩
    · intro H' acc g4 _ hA hl2 hv
      have e := all_true hl2 hv
      refine ⟨D, _, rfl, SqL.of (e ▸ hA), ?_⟩
      rw [all_id]
      exact q H' (g3.trans g4)

theorem sc_need_span : FnScope ["first", "second", "count"] ["first", "second", "count"] (defScope s_need_span) := ⟨rfl, rfl, rfl, by decide +kernel, rfl, by decide +kernel, by decide +kernel⟩
theorem ok_need_span (D : DefP K mg "need_span" s_need_span) (C_is_within : Cal P w K mg base 2 "is_within" ["thing", "least", "most"] (sp_is_within)) : Cal P w K mg base 3 "need_span" ["first", "second", "count"] (sp_need_span) := by
  refine cal_mk (k := 2) D sc_need_span (fun vs H Q E h => ?_) (fun _ _ _ _ _ _ us hl => match us, hl with | [_, _, _], _ => rfl) (fun f cdv A outer s H vs Q hgd hr h => ?_)
  · obtain ⟨a, b, c, rfl, _⟩ := h; rfl
  · obtain ⟨a, b, c, rfl, h1, h2, h3, q⟩ := h
    refine ⟨_, (pss_cons (ps_if (pt_not (pt_val (pe_cal C_is_within hgd hr (pa_cons (pv 0) (pa_cons pe_int (pa_cons (pe_op op_sub (pv 2) pe_int) pa_nil)))))) (pss_one ps_never) pss_nil)
      (pss_one (ps_if (pt_not (pt_val (pe_cal C_is_within hgd hr (pa_cons (pv 1) (pa_cons (pv 0) (pa_cons (pe_op op_sub (pv 2) pe_int) pa_nil)))))) (pss_one ps_never) pss_nil))), ?_⟩
    refine ⟨_, rfl, _, rfl, _, _, rfl, rfl, a, 0, c - 1, rfl, h1, by omega, true, rfl, iteF ?_⟩
    exact ⟨_, rfl, _, rfl, _, rfl, _, _, rfl, rfl, b, a, c - 1, rfl, h2, h3, true, rfl, iteF q⟩

theorem sc_l_sized : FnScope ["_law_feed_here", "_law_rows", "_law_columns", "_law_size", "_law_steep", "_law_left", "_law_top", "_law_gains", "_law_at", "_law_turn"] ["_law_feed_here", "_law_rows", "_law_columns"] (defScope s_l_sized) := ⟨rfl, rfl, rfl, by decide +kernel, rfl, by decide +kernel, by decide +kernel⟩
theorem ok_l_sized (D : DefP K mg "_law_sized" s_l_sized) (C_l_one : Cal P w K mg base 2 "_law_one" ["_law_feed_here", "_law_things"] (sp_l_one)) (C_l_draw : Cal P w K mg base 1 "_law_draw" ["_law_feed_here", "_law_many"] (sp_l_draw)) (C_l_built : Cal P w K mg base 1 "_law_built" ["_law_left", "_law_top", "_law_gains"] (sp_l_built)) (m_range : mg "range" = none) : Cal P w K mg base 3 "_law_sized" ["_law_feed_here", "_law_rows", "_law_columns"] (sp_l_sized) := by
  refine cal_mk (k := 2) D sc_l_sized (fun vs H Q E h => ?_) (fun _ _ _ _ _ _ us hl => match us, hl with | [_, _, _], _ => rfl) (fun f cdv A outer s H vs Q hgd hr h => ?_)
  · obtain ⟨a, m, n, k, rfl, _⟩ := h; rfl
  · obtain ⟨a, m, n, k, rfl, F, hk, hT, q⟩ := h
    refine ⟨_, (pss_cons (ps_asg (pe_tup (pa_cons (pe_cal C_l_one hgd hr (pa_cons (pv 0) (pa_cons (pe_lst (pa_cons pe_int (pa_cons pe_int (pa_cons pe_int (pa_cons (pe_op op_pow pe_int pe_int) (pa_cons (pe_op op_pow pe_int pe_int) pa_nil)))))) pa_nil))) (pa_cons (pe_cal C_l_one hgd hr (pa_cons (pv 0) (pa_cons (pe_lst (pa_cons pe_int (pa_cons pe_int (pa_cons pe_int (pa_cons pe_int (pa_cons (pe_op op_pow pe_int pe_int) pa_nil)))))) pa_nil))) pa_nil))) (pg_tupK K (n := 2) rfl (pgs_cons (pg_name (i := 3) sc_l_sized.nd rfl (Or.inr rfl)) (pgs_cons (pg_name (i := 4) sc_l_sized.nd rfl (Or.inr rfl)) pgs_nil))))
      (pss_cons (ps_setLc (i := 5) (own := [("_law_turn", 9)]) rfl sc_l_sized.nd rfl rfl (sw_true rfl rfl rfl (by decide +kernel)) (pi_range1 (by rfl) m_range (pa_cons (pv 1) pa_nil)) (blkOk_by (by kernel_rfl)) (fun _ _ _ _ _ => (pg_name (i := 9) sc_l_sized.nd rfl (Or.inl rfl))) (fun _ _ _ _ _ => pts_nil) (fun _ _ _ _ _ => (pe_op op_sub (pe_cal C_l_draw hgd hr (pa_cons (pv 0) (pa_cons (pe_op op_add (pe_op op_mul pe_int (pv 3)) pe_int) pa_nil))) (pv 3))))
      (pss_cons (ps_setLc (i := 6) (own := [("_law_turn", 9)]) rfl sc_l_sized.nd rfl rfl (sw_true rfl rfl rfl (by decide +kernel)) (pi_range1 (by rfl) m_range (pa_cons (pe_op op_sub (pv 2) pe_int) pa_nil)) (blkOk_by (by kernel_rfl)) (fun _ _ _ _ _ => (pg_name (i := 9) sc_l_sized.nd rfl (Or.inl rfl))) (fun _ _ _ _ _ => pts_nil) (fun _ _ _ _ _ => (pe_op op_sub (pe_cal C_l_draw hgd hr (pa_cons (pv 0) (pa_cons (pe_op op_add (pe_op op_mul pe_int (pv 3)) pe_int) pa_nil))) (pv 3))))
      (pss_cons (ps_set (i := 7) sc_l_sized.nd rfl (Or.inl rfl) (pe_lst pa_nil))
      (pss_cons (ps_for PassesOwn.never rfl (pi_range1 (by rfl) m_range (pa_cons (pe_op op_sub (pv 1) pe_int) pa_nil)) (pg_name (i := 8) sc_l_sized.nd rfl (Or.inl rfl)) (pss_one (ps_expr (pe_bm PySem.F.plainAttrs_list PySem.F.slot_list_append PySem.F.type_list_append mt_append (pv 7) (pa_cons (pe_lc (own := [("_law_turn", 9)]) rfl sc_l_sized.nd (pi_range1 (by rfl) m_range (pa_cons (pe_op op_sub (pv 2) pe_int) pa_nil)) (blkOk_by (by kernel_rfl)) (fun _ _ _ _ _ => (pg_name (i := 9) sc_l_sized.nd rfl (Or.inl rfl))) (fun _ _ _ _ _ => pts_nil) (fun _ _ _ _ _ => (pe_ifExp (pt_cmpR op_gt (pe_cal C_l_draw hgd hr (pa_cons (pv 0) (pa_cons pe_int pa_nil))) pe_int (nomark _)) (pe_cal C_l_draw hgd hr (pa_cons (pv 0) (pa_cons (pe_op op_add (pv 4) pe_int) pa_nil))) pe_int))) pa_nil)))))
      (pss_one (ps_ret (pe_cal C_l_built hgd hr (pa_cons (pv 5) (pa_cons (pv 6) (pa_cons (pv 7) pa_nil))))))))))), ?_⟩
    have m1 := hT.m1
    have m8 := hT.m8
    have n1 := hT.n1
    have n8 := hT.n8
    refine ⟨_, rfl, _, _, rfl, rfl, ⟨by decide, by decide, by decide⟩, _, _, rfl, rfl, ⟨by decide, by decide, by decide⟩, (show 5 ≤ sizeLine by decide), fun L1 nL1 => ?_⟩
    have gL1 := Go.new F.lq nL1 (o := .lst [.int 3, .int 3, .int 10, .int (10 ^ Int.toNat 6), .int (10 ^ Int.toNat 15)])
    refine ⟨a, L1, _, k, rfl, F.new nL1, by omega, upd_same, fun z => F.ne nL1 z.symm, by decide, by decide, fun x H1 g1 F1 hx => ?_⟩
    obtain ⟨size, rfl, s0, s1⟩ : ∃ z : Int, x = .int z ∧ 0 ≤ z ∧ z ≤ 1000000000000000 := by
      rcases List.mem_cons.mp hx with rfl | hx
      · exact ⟨_, rfl, by decide, by decide⟩
      rcases List.mem_cons.mp hx with rfl | hx
      · exact ⟨_, rfl, by decide, by decide⟩
      rcases List.mem_cons.mp hx with rfl | hx
      · exact ⟨_, rfl, by decide, by decide⟩
      rcases List.mem_cons.mp hx with rfl | hx
      · exact ⟨_, rfl, by decide, by decide⟩
      rcases List.mem_cons.mp hx with rfl | hx
      · exact ⟨_, rfl, by decide, by decide⟩
      cases hx
    have gA := gL1.trans g1
    refine ⟨_, rfl, _, _, rfl, rfl, ⟨by decide, by decide, by decide⟩, (show 5 ≤ sizeLine by decide), fun L2 nL2 => ?_⟩
    have gL2 := Go.new F1.lq nL2 (o := .lst [.int 1, .int 2, .int 3, .int 8, .int (10 ^ Int.toNat 9)])
    refine ⟨a, L2, _, k + 1, rfl, F1.new nL2, by omega, upd_same, fun z => F1.ne nL2 z.symm, by decide, by decide, fun x H2 g2 F2 hx => ?_⟩
    obtain ⟨steep, rfl, t0, t1⟩ : ∃ z : Int, x = .int z ∧ 0 ≤ z ∧ z ≤ 1000000000 := by
      rcases List.mem_cons.mp hx with rfl | hx
      · exact ⟨_, rfl, by decide, by decide⟩
      rcases List.mem_cons.mp hx with rfl | hx
      · exact ⟨_, rfl, by decide, by decide⟩
      rcases List.mem_cons.mp hx with rfl | hx
      · exact ⟨_, rfl, by decide, by decide⟩
      rcases List.mem_cons.mp hx with rfl | hx
      · exact ⟨_, rfl, by decide, by decide⟩
      rcases List.mem_cons.mp hx with rfl | hx
      · exact ⟨_, rfl, by decide, by decide⟩
      cases hx
    have gB := (gA.trans gL2).trans g2
    refine ⟨(show 2 ≤ sizeLine by decide), fun T nT => ?_⟩
    refine ⟨T, _, rfl, SqT.of upd_same, rfl, _, _, rfl, _, [], rfl, rfl, ?_⟩
    have gC := gB.snew nT (o := .tup [.int size, .int steep])
    have F3 := F2.new nT (o := .tup [.int size, .int steep])
    have gT := Go.new F2.lq nT (o := .tup [.int size, .int steep])
    refine ⟨_, rfl, _, rfl, by omega, by omega, fun D nD => ?_⟩
    have nlD : D ∉ [a] := F3.lq.ne nD
    rw [Int.toNat_natCast]
    refine lcN (l := [a]) walk_range0 (fun i H' => Fd H' a (k + 2 + i)) (fun _ v _ => ∃ z : Int, v = .int z ∧ -1000000000000000 ≤ z ∧ z ≤ 1000000000000000) nD F3.lq (by omega) (lcs_val fun i H o h => h.upd (F3.ne nD)) F3 (fun _ _ _ _ => trivial) ?_ ?_
    · rintro i x H4 H5 hi g4 F4 ⟨rfl, rfl⟩
      refine ⟨rfl, fun Q' q' => ⟨_, rfl, _, rfl, _, _, rfl, rfl, .inl ⟨by decide, by decide⟩, _, _, rfl, rfl, a, _, k + 2 + i, rfl, F4, by omega, by omega, by rw [p110]; omega, fun r H6 g6 F6 r0 r1 => ⟨_, rfl, _, _, rfl, rfl, q' _ _ g6 F6 ⟨_, rfl, by omega, by omega⟩⟩⟩⟩
    intro H4 acc4 g4 F4 hD4 hl4 hv4
    obtain ⟨gl, rfl, hgl⟩ := ints_ex (R := fun _ z => -1000000000000000 ≤ z ∧ z ≤ 1000000000000000) hl4 hv4
    refine ⟨_, rfl, _, _, rfl, rfl, _, rfl, by omega, by omega, fun D2 nD2 => ?_⟩
    rw [show ((n : Int) - 1).toNat = n - 1 by omega]
    have nlD2 : D2 ∉ [a] := F4.lq.ne nD2
    refine lcN (l := [a]) walk_range0 (fun i H' => Fd H' a (k + 2 + m + i)) (fun _ v _ => ∃ z : Int, v = .int z ∧ -1000000000000000 ≤ z ∧ z ≤ 1000000000000000) nD2 F4.lq (by omega) (lcs_val fun i H o h => h.upd (F4.ne nD2)) F4 (fun _ _ _ _ => trivial) ?_ ?_
    · rintro i x H5 H6 hi g5 F5 ⟨rfl, rfl⟩
      refine ⟨rfl, fun Q' q' => ⟨_, rfl, _, rfl, _, _, rfl, rfl, .inl ⟨by decide, by decide⟩, _, _, rfl, rfl, a, _, k + 2 + m + i, rfl, F5, by omega, by omega, by rw [p110]; omega, fun r H6 g6 F6 r0 r1 => ⟨_, rfl, _, _, rfl, rfl, q' _ _ g6 F6 ⟨_, rfl, by omega, by omega⟩⟩⟩⟩
    intro H5 acc5 g5 F5 hD5 hl5 hv5
    obtain ⟨gt, rfl, hgt⟩ := ints_ex (R := fun _ z => -1000000000000000 ≤ z ∧ z ≤ 1000000000000000) hl5 hv5
    refine ⟨Nat.zero_le _, fun E nE => ?_⟩
    have nlE : E ∉ [a] := F5.lq.ne nE
    have gE := Go.new F5.lq nE (o := .lst [])
    refine ⟨_, rfl, _, _, rfl, rfl, _, rfl, by omega, by omega, ?_⟩
    rw [show ((m : Int) - 1).toNat = m - 1 by omega]
    refine for_it walk_range0 (fun i σ H' => ∃ y8, σ = [some (.ref a), some (.int m), some (.int n), some (.int size), some (.int steep), some (.ref D), some (.ref D2), some (.ref E), y8, none] ∧ Go [a] H5 H' ∧ Fd H' a (k + 20 + 20 * i) ∧ AccB [a] H' E i (n - 1) 1000000000) ⟨_, rfl, gE, (F5.new nE).mono (by omega), accB_nil⟩ (fun _ _ _ _ _ => trivial) ?_ ?_
    · rintro i x σ H6 H7 hi ⟨y8, rfl, g7, F7, hA⟩ ⟨rfl, rfl⟩
      obtain ⟨acc, hE0, _, _⟩ := id hA
      refine ⟨_, rfl, .inl ⟨rfl, _, SqL.of hE0⟩, ?_⟩
      refine ⟨_, rfl, _, _, rfl, rfl, _, rfl, by omega, by omega, fun D3 nD3 => ?_⟩
      rw [show ((n : Int) - 1).toNat = n - 1 by omega]
      refine lcN (l := [a]) walk_range0 (fun j H' => Fd H' a (k + 20 + 20 * i + 2 * j)) (fun _ v _ => ∃ z : Int, v = .int z ∧ 0 ≤ z ∧ z ≤ 1000000000) nD3 F7.lq (by omega) (lcs_val fun i H o h => h.upd (F7.ne nD3)) F7 (fun _ _ _ _ => trivial) ?_ ?_
      · rintro j x H8 H9 hj g9 F9 ⟨rfl, rfl⟩
        refine ⟨rfl, fun Q' q' => ?_⟩
        refine ⟨_, rfl, a, 3, k + 20 + 20 * i + 2 * j, rfl, F9, by omega, by decide, by decide, fun r0 H10 g10 F10 p0 p1 => ⟨_, _, rfl, rfl, _, rfl, ?_⟩⟩
        by_cases hz : r0 > 0
        · rw [decide_eq_true hz]
          exact iteT ⟨_, rfl, _, rfl, _, _, rfl, rfl, a, _, k + 20 + 20 * i + 2 * j + 1, rfl, F10, by omega, by omega, by rw [p110]; omega, fun r H11 g11 F11 r0 r1 => q' _ _ (g10.trans g11) F11 ⟨_, rfl, r0, by omega⟩⟩
        · rw [decide_eq_false hz]
          exact iteF (q' _ _ g10 (F10.mono (by omega)) ⟨_, rfl, by decide, by decide⟩)
      · intro H8 acc8 g8 F8 hD8 hl8 hv8
        obtain ⟨gg, rfl, hgg⟩ := ints_ex (R := fun _ z => 0 ≤ z ∧ z ≤ 1000000000) hl8 hv8
        obtain ⟨acc, hE, hacc, hrow⟩ := hA.go g8 nlE
        refine ⟨E, acc, .ref D3, rfl, rfl, hE, by rw [hacc]; exact small1000 (by omega), ?_⟩
        refine ⟨_, rfl, (g7.trans g8).mut nE, (F8.upd (F5.ne nE)).mono (by omega), accB_push hacc hrow ⟨D3, gg, rfl, F7.lq.ne nD3, fun z => ne_of_none hE0 nD3 z.symm, hD8, hgg⟩⟩
    · rintro σ H6 ⟨y8, rfl, g6, F6, hA⟩
      obtain ⟨G, hG, hGb⟩ := accB_tab hA
      have hD6 := g6.keep nlD (g5.keep nlD hD4)
      have hD26 := g6.keep nlD2 hD5
      refine ⟨_, rfl, _, rfl, _, rfl, .ref D, .ref D2, .ref E, m, n - 1, gl, gt, G, rfl, ⟨D, rfl, hD6⟩, ⟨D2, rfl, hD26⟩, hG, m1, m8, by omega, fun u H7 g7 hu => ?_⟩
      refine q u H7 _ ((((gC.trans g4).trans g5).trans g6).trans (g7.up F6.lq)) ((F6.keep g7).mono (by omega)) (hu.n (by omega)) (bF_straight fun i j hi hj => (hGb i j (by omega) (by omega)).1) (bF_bd m8 n8 hgl hgt hGb)

theorem sc_are_indexes : FnScope ["thing", "count"] ["thing", "count"] (defScope s_are_indexes) := ⟨rfl, rfl, rfl, by decide +kernel, rfl, by decide +kernel, by decide +kernel⟩
theorem ok_are_indexes (D : DefP K mg "are_indexes" s_are_indexes) (C_is_row_of : Cal P w K mg base 1 "is_row_of" ["thing", "least", "most"] (sp_is_row_of)) (C_are_numbers : Cal P w K mg base 3 "are_numbers" ["thing", "many", "count"] (sp_are_numbers)) (C_are_rising : Cal P w K mg base 1 "are_rising" ["numbers"] (sp_are_rising)) (m_len : mg "len" = none) : Cal P w K mg base 4 "are_indexes" ["thing", "count"] (sp_are_indexes) := by
  refine cal_mk (k := 3) D sc_are_indexes (fun vs H Q E h => ?_) (fun _ _ _ _ _ _ us hl => match us, hl with | [_, _], _ => rfl) (fun f cdv A outer s H vs Q hgd hr h => ?_)
  · obtain ⟨v, c, n, r, rfl, _⟩ := h; rfl
  · obtain ⟨v, c, n, r, rfl, hI, hc, q⟩ := h
    refine ⟨_, (pss_one (ps_ret (pe_and (pe_cal C_is_row_of hgd hr (pa_cons (pv 0) (pa_cons pe_int (pa_cons (pv 1) pa_nil)))) (pe_and (pe_cal C_are_numbers hgd hr (pa_cons (pv 0) (pa_cons (pe_callB (call_lenK K) (by rfl) m_len b_len (pa_cons (pv 0) pa_nil)) (pa_cons (pv 1) pa_nil)))) (pe_one (pe_cal C_are_rising hgd hr (pa_cons (pv 0) pa_nil))))))), ?_⟩
    obtain ⟨a, rfl, ha⟩ := hI.row
    have h1 := hI.n1
    have h2 := hI.nc
    have hl : (((rowV n (fun j => (r j : Int))).length : Nat) : Int) = (n : Int) := by rw [rowV_len]
    refine ⟨_, rfl, _, rfl, a, _, 1, c, rfl, ha, by rw [hl]; omega, by rw [hl]; omega, true, rfl, iteT ?_⟩
    refine ⟨_, rfl, _, rfl, a, _, rfl, .inr (SqT.of ha), _, rfl, .ref a, n, _, c, ?_, ⟨a, rfl, ha⟩, by omega, fun j hj => ⟨Int.natCast_nonneg _, ?_⟩, fun H1 g1 => ⟨true, rfl, iteT ?_⟩⟩
    · show [V.ref a, V.int (((rowV n (fun j => (r j : Int))).length : Nat) : Int), V.int (c : Int)] = _
      rw [hl]
    · have := hI.lt j hj
      show ((r j : Nat) : Int) ≤ (c : Int) - 1
      omega
    · refine ⟨_, rfl, .ref a, n, _, rfl, ⟨a, rfl, g1.tup ha⟩, h1, by omega, fun j hj => ?_, fun H2 g2 => q H2 (g1.trans g2)⟩
      have := hI.up j hj
      show ((r j : Nat) : Int) < ((r (j + 1) : Nat) : Int)
      omega

theorem sc_first_paying : FnScope ["table", "row", "gains", "column", "gain"] ["table"] (defScope s_first_paying) := ⟨rfl, rfl, rfl, by decide +kernel, rfl, by decide +kernel, by decide +kernel⟩
theorem ok_first_paying (D : DefP K mg "first_paying" s_first_paying) (C_gains_of : Cal P w K mg base 3 "gains_of" ["table"] (sp_gains_of)) (m_enumerate : mg "enumerate" = none) : Cal P w K mg base 4 "first_paying" ["table"] (sp_first_paying) := by
  refine cal_mk (k := 3) D sc_first_paying (fun vs H Q E h => ?_) (fun _ _ _ _ _ _ us hl => match us, hl with | [_], _ => rfl) (fun f cdv A outer s H vs Q hgd hr h => ?_)
  · obtain ⟨v, m, n, f, rfl, _⟩ := h; rfl
  · obtain ⟨v, m, n, f, rfl, ht, hT, hS, q⟩ := h
    refine ⟨_, (pss_cons (ps_for PassesOwn.never rfl (pi_enumTK K (by rfl) m_enumerate (pa_cons (pe_cal C_gains_of hgd hr (pa_cons (pv 0) pa_nil)) pa_nil)) (pg_tupK K (n := 2) rfl (pgs_cons (pg_name (i := 1) sc_first_paying.nd rfl (Or.inl rfl)) (pgs_cons (pg_name (i := 2) sc_first_paying.nd rfl (Or.inl rfl)) pgs_nil))) (pss_one (ps_for PassesOwn.never rfl (pi_enumTK K (by rfl) m_enumerate (pa_cons (pv 2) pa_nil)) (pg_tupK K (n := 2) rfl (pgs_cons (pg_name (i := 3) sc_first_paying.nd rfl (Or.inl rfl)) (pgs_cons (pg_name (i := 4) sc_first_paying.nd rfl (Or.inl rfl)) pgs_nil))) (pss_one (ps_if (pt_cmpR op_lt (pv 4) pe_int (nomark _)) (pss_one (ps_ret (pe_tup (pa_cons (pv 1) (pa_cons (pv 3) pa_nil))))) pss_nil)))))
      (pss_one (ps_ret pe_non))), ?_⟩
    refine ⟨_, rfl, v, m, n, f, rfl, ht, hT, ?_⟩
    rintro _ H1 g1 ⟨b, vs, rfl, hb, hl, hk⟩
    refine ⟨b, vs, rfl, SqT.of hb, ?_⟩
    refine for_it (walk_enumT (xs := vs)) (fun _ σ H2 => ∃ y1 y2 y3 y4, σ = [some v, y1, y2, y3, y4] ∧ Go [] H1 H2) ⟨_, _, _, _, rfl, go0⟩ ?_ ?_ ?_
    · rintro i σ H2 _ ⟨y1, y2, y3, y4, rfl, g2⟩
      exact SqT.of (g2.tup hb)
    · rintro i _ σ H2 _ hi ⟨y1, y2, y3, y4, rfl, g2⟩ ⟨T, x, y, rfl, nT, rfl, ex, ey⟩
      have g3 : Go [] H1 (upd H2 T (.tup [x, y])) := g2.snew nT
      refine ⟨T, [x, y], rfl, SqT.of upd_same, rfl, x, [y], rfl, y, [], rfl, rfl, ?_⟩
      obtain ⟨c, rfl, hc⟩ := hk i y ey
      refine ⟨_, rfl, c, _, rfl, SqT.of (g3.tup hc), ?_⟩
      refine for_it (walk_enumT (xs := rowV (n - 1) (gnF f i))) (fun _ σ H3 => ∃ y3 y4, σ = [some v, some x, some (.ref c), y3, y4] ∧ Go [] H1 H3) ⟨_, _, rfl, g3⟩ ?_ ?_ ?_
      · rintro j σ H3 _ ⟨y3, y4, rfl, g4⟩
        exact SqT.of (g4.tup hc)
      · rintro j _ σ H3 _ hj ⟨y3, y4, rfl, g4⟩ ⟨T2, x2, z, rfl, nT2, rfl, ex2, ez⟩
        refine ⟨T2, [x2, z], rfl, SqT.of upd_same, rfl, x2, [z], rfl, z, [], rfl, rfl, ?_⟩
        obtain ⟨lt, rfl⟩ := rowV_at ez
        have nn : 0 ≤ gnF f i j := hS i j (by omega) (by omega)
        refine ⟨_, rfl, gnF f i j, 0, rfl, rfl, _, rfl, ?_⟩
        rw [decide_eq_false (by omega)]
        exact iteF ⟨_, _, rfl, g4.snew nT2⟩
      · rintro σ H3 ⟨y3, y4, rfl, g4⟩
        exact ⟨_, _, _, _, rfl, g4⟩
    · rintro σ H2 ⟨y1, y2, y3, y4, rfl, g2⟩
      exact q H2 (g1.trans g2)

theorem sc_need_table : FnScope ["table"] ["table"] (defScope s_need_table) := ⟨rfl, rfl, rfl, by decide +kernel, rfl, by decide +kernel, by decide +kernel⟩
theorem ok_need_table (D : DefP K mg "need_table" s_need_table) (C_is_table_form : Cal P w K mg base 3 "is_table_form" ["thing"] (sp_is_table_form)) : Cal P w K mg base 4 "need_table" ["table"] (sp_need_table) := by
  refine cal_mk (k := 3) D sc_need_table (fun vs H Q E h => ?_) (fun _ _ _ _ _ _ us hl => match us, hl with | [_], _ => rfl) (fun f cdv A outer s H vs Q hgd hr h => ?_)
  · obtain ⟨v, m, n, f, rfl, _⟩ := h; rfl
  · obtain ⟨v, m, n, f, rfl, ht, hT, q⟩ := h
    refine ⟨_, (pss_one (ps_if (pt_not (pt_val (pe_cal C_is_table_form hgd hr (pa_cons (pv 0) pa_nil)))) (pss_one ps_never) pss_nil)), ?_⟩
    exact ⟨_, rfl, v, m, n, f, rfl, ht, hT, fun H1 g1 => ⟨true, rfl, iteF (q H1 g1)⟩⟩

theorem sc_rooms_of : FnScope ["table", "gains", "row", "column"] ["table"] (defScope s_rooms_of) := ⟨rfl, rfl, rfl, by decide +kernel, rfl, by decide +kernel, by decide +kernel⟩
theorem ok_rooms_of (D : DefP K mg "rooms_of" s_rooms_of) (C_gains_of : Cal P w K mg base 3 "gains_of" ["table"] (sp_gains_of)) (C_room_of : Cal P w K mg base 2 "room_of" ["gains", "row", "column"] (sp_room_of)) (m_range : mg "range" = none) (m_len : mg "len" = none) : Cal P w K mg base 4 "rooms_of" ["table"] (sp_rooms_of) := by
  refine cal_mk (k := 3) D sc_rooms_of (fun vs H Q E h => ?_) (fun _ _ _ _ _ _ us hl => match us, hl with | [_], _ => rfl) (fun f cdv A outer s H vs Q hgd hr h => ?_)
  · obtain ⟨v, m, n, f, rfl, _⟩ := h; rfl
  · obtain ⟨v, m, n, f, rfl, ht, hT, q⟩ := h
    refine ⟨_, (pss_cons (ps_set (i := 1) sc_rooms_of.nd rfl (Or.inr rfl) (pe_cal C_gains_of hgd hr (pa_cons (pv 0) pa_nil)))
      (pss_one (ps_ret (pe_lc (own := [("row", 2)]) rfl sc_rooms_of.nd (pi_range1 (by rfl) m_range (pa_cons (pe_callB (call_lenK K) (by rfl) m_len b_len (pa_cons (pv 0) pa_nil)) pa_nil)) (blkOk_by (by kernel_rfl)) (fun _ _ _ _ _ => (pg_name (i := 2) sc_rooms_of.nd rfl (Or.inr rfl))) (fun _ _ _ _ _ => pts_nil) (fun _ _ _ _ _ => (pe_lc (own := [("column", 3)]) rfl sc_rooms_of.nd (pi_range1 (by rfl) m_range (pa_cons (pe_callB (call_lenK K) (by rfl) m_len b_len (pa_cons (pe_ix (ix_tupK K) (pv 0) pe_int (fun _ _ => rfl)) pa_nil)) pa_nil)) (blkOk_by (by kernel_rfl)) (fun _ _ _ _ _ => (pg_name (i := 3) sc_rooms_of.nd rfl (Or.inl rfl))) (fun _ _ _ _ _ => pts_nil) (fun _ _ _ _ _ => (pe_cal C_room_of hgd hr (pa_cons (pv 1) (pa_cons (pv 2) (pa_cons (pv 3) pa_nil))))))))))), ?_⟩
    obtain ⟨a, vs, rfl, ha, hl, hk⟩ := id ht
    have h1 := hT.m1
    have h2 := hT.m8
    have h3 := hT.n1
    have h4 := hT.n8
    obtain ⟨vs', x0, ha', _, hx0, b, rfl, hb⟩ := ht.at_ (i := 0) h1
    rw [ha] at ha'
    cases ha'
    refine ⟨_, rfl, .ref a, m, n, f, rfl, ht, hT.t1, fun vg H1 g1 hG => ?_⟩
    refine ⟨_, rfl, a, vs, rfl, .inr (SqT.of (g1.tup ha)), _, rfl, by omega, by omega, fun D nD => ?_⟩
    rw [Int.toNat_natCast, hl]
    refine lcND (l := []) walk_range0 (fun _ _ => True) (fun i v H' => ∃ b ws, v = .ref b ∧ b ≠ D ∧ H' b = some (.lst ws) ∧ ws.length = n ∧ ∀ (j : Nat) (y : V), ws[j]? = some y → ∃ p, y = .ref p ∧ H' p = some (.tup [downV (m - 1) (n - 1) (gnF f) i j, upV (m - 1) (n - 1) (gnF f) i j])) nD lq_nil (by omega) ?_ trivial (fun _ _ _ _ => trivial) ?_ ?_
    · refine ⟨fun _ _ _ h => h, ?_, ?_⟩
      · rintro i v H' H2 ⟨b, ws, e1, e2, e3, e4, e5⟩ g
        refine ⟨b, ws, e1, e2, g.keep List.not_mem_nil e3, e4, fun j y hy => ?_⟩
        obtain ⟨p, e6, e7⟩ := e5 j y hy
        exact ⟨p, e6, g.tup e7⟩
      · rintro i v H' o xs ⟨b, ws, e1, e2, e3, e4, e5⟩ hD
        refine ⟨b, ws, e1, e2, by rw [upd_ne e2]; exact e3, e4, fun j y hy => ?_⟩
        obtain ⟨p, e6, e7⟩ := e5 j y hy
        exact ⟨p, e6, by rw [upd_ne (ne_of e7 hD (by intro z; cases z))]; exact e7⟩
    · rintro i x H2 H3 hi g2 _ hD3 ⟨rfl, rfl⟩
      refine ⟨rfl, fun Q' q' => ?_⟩
      refine ⟨_, rfl, a, vs, 0, .ref b, rfl, rfl, SqT.of ((g1.trans g2).tup ha), atI_nat hx0, b, _, rfl, .inr (SqT.of ((g1.trans g2).tup hb)), _, rfl, by rw [rowV_len]; omega, by rw [rowV_len]; omega, fun D2 nD2 => ?_⟩
      rw [Int.toNat_natCast, rowV_len]
      refine lcN (l := []) walk_range0 (fun _ _ => True) (fun j y H' => ∃ p, y = .ref p ∧ H' p = some (.tup [downV (m - 1) (n - 1) (gnF f) i j, upV (m - 1) (n - 1) (gnF f) i j])) nD2 lq_nil (by omega) ?_ trivial (fun _ _ _ _ => trivial) ?_ ?_
      · refine ⟨fun _ _ _ h => h, ?_, ?_⟩
        · rintro j y H' H4 ⟨p, e6, e7⟩ g
          exact ⟨p, e6, g.tup e7⟩
        · rintro j y H' o xs ⟨p, e6, e7⟩ hD
          exact ⟨p, e6, by rw [upd_ne (ne_of e7 hD (by intro z; cases z))]; exact e7⟩
      · rintro j y H4 H5 hj g3 _ ⟨rfl, rfl⟩
        exact ⟨rfl, fun Q2 q2 => ⟨_, rfl, _, rfl, _, rfl, vg, m - 1, n - 1, gnF f, i, j, rfl, (g2.trans g3).tab hG, fun p H6 g6 hp => q2 _ _ g6 trivial ⟨p, rfl, hp⟩⟩⟩
      · intro H4 ws g3 _ hB hl2 hv
        have nDD : D2 ≠ D := fun z => by
          rw [z] at nD2
          obtain ⟨xs, hx⟩ := hD3
          rw [nD2] at hx
          cases hx
        exact q' _ _ g3 trivial ⟨D2, ws, rfl, nDD, hB, hl2, hv⟩
    · intro H2 acc g2 _ hA hl2 hv
      refine q _ _ (g1.trans g2) ⟨D, acc, rfl, hA, hl2, fun i x hx => ?_⟩
      obtain ⟨b, ws, e1, _, e3, e4, e5⟩ := hv i x hx
      exact ⟨b, ws, e1, e3, e4, e5⟩

theorem sc_built : FnScope ["told", "left", "top", "gains"] ["told"] (defScope s_built) := ⟨rfl, rfl, rfl, by decide +kernel, rfl, by decide +kernel, by decide +kernel⟩
theorem ok_built (D : DefP K mg "built" s_built) (C_are_parts : Cal P w K mg base 3 "are_parts" ["thing"] (sp_are_parts)) (C_table_of_parts : Cal P w K mg base 2 "table_of_parts" ["left", "top", "gains"] (sp_table_of_parts)) : Cal P w K mg base 4 "built" ["told"] (sp_built) := by
  refine cal_mk (k := 3) D sc_built (fun vs H Q E h => ?_) (fun _ _ _ _ _ _ us hl => match us, hl with | [_], _ => rfl) (fun f cdv A outer s H vs Q hgd hr h => ?_)
  · obtain ⟨v, m, n, f, rfl, _⟩ := h; rfl
  · obtain ⟨v, m, n, f, rfl, hp, hT, q⟩ := h
    refine ⟨_, (pss_cons (ps_if (pt_not (pt_val (pe_cal C_are_parts hgd hr (pa_cons (pv 0) pa_nil)))) (pss_one ps_never) pss_nil)
      (pss_cons (ps_asg (pv 0) (pg_tupK K (n := 3) rfl (pgs_cons (pg_name (i := 1) sc_built.nd rfl (Or.inl rfl)) (pgs_cons (pg_name (i := 2) sc_built.nd rfl (Or.inl rfl)) (pgs_cons (pg_name (i := 3) sc_built.nd rfl (Or.inl rfl)) pgs_nil)))))
      (pss_one (ps_ret (pe_cal C_table_of_parts hgd hr (pa_cons (pv 1) (pa_cons (pv 2) (pa_cons (pv 3) pa_nil)))))))), ?_⟩
    obtain ⟨p, vl, vt, vg, rfl, h1, h2, h3, h4⟩ := id hp
    refine ⟨_, rfl, .ref p, m, n, f, rfl, hp, hT, fun H1 g1 => ⟨true, rfl, iteF ?_⟩⟩
    refine ⟨_, rfl, p, _, rfl, SqT.of (g1.tup h1), rfl, _, _, rfl, _, _, rfl, _, [], rfl, rfl, ?_⟩
    exact ⟨_, rfl, _, rfl, _, rfl, vl, vt, vg, m, n, f, rfl, g1.row h2, g1.row h3, g1.tab h4, hT, fun u H2 g2 hu => q u H2 (g1.trans g2) hu⟩

theorem sc_l_table : FnScope ["_law_feed_here", "_law_many", "_law_wide", "_law_rows", "_law_columns"] ["_law_feed_here", "_law_many", "_law_wide"] (defScope s_l_table) := ⟨rfl, rfl, rfl, by decide +kernel, rfl, by decide +kernel, by decide +kernel⟩
theorem ok_l_table (D : DefP K mg "_law_table" s_l_table) (C_l_draw : Cal P w K mg base 1 "_law_draw" ["_law_feed_here", "_law_many"] (sp_l_draw)) (C_l_sized : Cal P w K mg base 3 "_law_sized" ["_law_feed_here", "_law_rows", "_law_columns"] (sp_l_sized)) : Cal P w K mg base 4 "_law_table" ["_law_feed_here", "_law_many", "_law_wide"] (sp_l_table) := by
  refine cal_mk (k := 3) D sc_l_table (fun vs H Q E h => ?_) (fun _ _ _ _ _ _ us hl => match us, hl with | [_, _, _], _ => rfl) (fun f cdv A outer s H vs Q hgd hr h => ?_)
  · obtain ⟨a, mm, ww, k, rfl, _⟩ := h; rfl
  · obtain ⟨a, mm, ww, k, rfl, F, hk, m1, m8, w1, w8, q⟩ := h
    refine ⟨_, (pss_cons (ps_par (by rfl) sc_l_table.nd (i := 3) (j := 4) rfl rfl (by decide) rfl rfl (pa_cons (pe_op op_add pe_int (pe_cal C_l_draw hgd hr (pa_cons (pv 0) (pa_cons (pv 1) pa_nil)))) (pa_cons (pe_op op_add pe_int (pe_cal C_l_draw hgd hr (pa_cons (pv 0) (pa_cons (pv 2) pa_nil)))) pa_nil)) (by rfl))
      (pss_one (ps_ret (pe_cal C_l_sized hgd hr (pa_cons (pv 0) (pa_cons (pv 3) (pa_cons (pv 4) pa_nil))))))), ?_⟩
    refine ⟨_, rfl, _, rfl, a, mm, k, rfl, F, by omega, by omega, by rw [p110]; omega, fun r H1 g1 F1 r0 r1 => ⟨_, _, rfl, rfl, _, rfl, _, rfl, a, ww, k + 1, rfl, F1, by omega, by omega, by rw [p110]; omega, fun r2 H2 g2 F2 p0 p1 => ⟨_, _, rfl, rfl, _, _, rfl, ?_⟩⟩⟩
    obtain ⟨i, rfl⟩ := Int.eq_ofNat_of_zero_le r0
    obtain ⟨j, rfl⟩ := Int.eq_ofNat_of_zero_le p0
    have hT : TabOk (1 + i) (1 + j) := ⟨by omega, by omega, by omega, by omega⟩
    refine ⟨_, rfl, _, rfl, _, rfl, a, 1 + i, 1 + j, k + 2, rfl, F2, by omega, hT, fun u H3 f g3 F3 hu hs hb => ?_⟩
    exact q u H3 _ _ f ((g1.trans g2).trans g3) (F3.mono (by omega)) hu hT hs hb

theorem sc_is_straight_table : FnScope ["table"] ["table"] (defScope s_is_straight_table) := ⟨rfl, rfl, rfl, by decide +kernel, rfl, by decide +kernel, by decide +kernel⟩
theorem ok_is_straight_table (D : DefP K mg "is_straight_table" s_is_straight_table) (C_first_paying : Cal P w K mg base 4 "first_paying" ["table"] (sp_first_paying)) : Cal P w K mg base 5 "is_straight_table" ["table"] (sp_is_straight_table) := by
  refine cal_mk (k := 4) D sc_is_straight_table (fun vs H Q E h => ?_) (fun _ _ _ _ _ _ us hl => match us, hl with | [_], _ => rfl) (fun f cdv A outer s H vs Q hgd hr h => ?_)
  · obtain ⟨v, m, n, f, rfl, _⟩ := h; rfl
  · obtain ⟨v, m, n, f, rfl, ht, hT, hS, q⟩ := h
    refine ⟨_, (pss_one (ps_ret (pe_cmp (pc_isN (pe_cal C_first_paying hgd hr (pa_cons (pv 0) pa_nil)))))), ?_⟩
    exact ⟨_, rfl, v, m, n, f, rfl, ht, hT, hS, fun H1 g1 => q H1 g1⟩

theorem sc_need_indexes : FnScope ["indexes", "count"] ["indexes", "count"] (defScope s_need_indexes) := ⟨rfl, rfl, rfl, by decide +kernel, rfl, by decide +kernel, by decide +kernel⟩
theorem ok_need_indexes (D : DefP K mg "need_indexes" s_need_indexes) (C_are_indexes : Cal P w K mg base 4 "are_indexes" ["thing", "count"] (sp_are_indexes)) : Cal P w K mg base 5 "need_indexes" ["indexes", "count"] (sp_need_indexes) := by
  refine cal_mk (k := 4) D sc_need_indexes (fun vs H Q E h => ?_) (fun _ _ _ _ _ _ us hl => match us, hl with | [_, _], _ => rfl) (fun f cdv A outer s H vs Q hgd hr h => ?_)
  · obtain ⟨v, c, n, r, rfl, _⟩ := h; rfl
  · obtain ⟨v, c, n, r, rfl, hI, hc, q⟩ := h
    refine ⟨_, (pss_one (ps_if (pt_not (pt_val (pe_cal C_are_indexes hgd hr (pa_cons (pv 0) (pa_cons (pv 1) pa_nil))))) (pss_one ps_never) pss_nil)), ?_⟩
    exact ⟨_, rfl, _, rfl, v, c, n, r, rfl, hI, hc, fun H1 g1 => ⟨true, rfl, iteF (q H1 g1)⟩⟩

theorem sc_lifted : FnScope ["table", "rows", "columns"] ["table", "rows", "columns"] (defScope s_lifted) := ⟨rfl, rfl, rfl, by decide +kernel, rfl, by decide +kernel, by decide +kernel⟩
theorem ok_lifted (D : DefP K mg "lifted" s_lifted) (C_need_table : Cal P w K mg base 4 "need_table" ["table"] (sp_need_table)) (C_need_numbers : Cal P w K mg base 3 "need_numbers" ["numbers", "many"] (sp_need_numbers)) (C_width : Cal P w K mg base 1 "width" ["table"] (sp_width)) (C_lifted_table : Cal P w K mg base 1 "lifted_table" ["table", "rows", "columns"] (sp_lifted_table)) (m_len : mg "len" = none) : Cal P w K mg base 5 "lifted" ["table", "rows", "columns"] (sp_lifted) := by
  refine cal_mk (k := 4) D sc_lifted (fun vs H Q E h => ?_) (fun _ _ _ _ _ _ us hl => match us, hl with | [_, _, _], _ => rfl) (fun f cdv A outer s H vs Q hgd hr h => ?_)
  · obtain ⟨v, vr, vc, m, n, f, r, c, rfl, _⟩ := h; rfl
  · obtain ⟨v, vr, vc, m, n, f, r, c, rfl, ht, hr2, hc2, hT, q⟩ := h
    refine ⟨_, (pss_cons (ps_expr (pe_cal C_need_table hgd hr (pa_cons (pv 0) pa_nil)))
      (pss_cons (ps_expr (pe_cal C_need_numbers hgd hr (pa_cons (pv 1) (pa_cons (pe_callB (call_lenK K) (by rfl) m_len b_len (pa_cons (pv 0) pa_nil)) pa_nil))))
      (pss_cons (ps_expr (pe_cal C_need_numbers hgd hr (pa_cons (pv 2) (pa_cons (pe_cal C_width hgd hr (pa_cons (pv 0) pa_nil)) pa_nil))))
      (pss_one (ps_ret (pe_cal C_lifted_table hgd hr (pa_cons (pv 0) (pa_cons (pv 1) (pa_cons (pv 2) pa_nil))))))))), ?_⟩
    obtain ⟨a, vs, rfl, ha, rfl, hk⟩ := id ht
    have h2 := hT.m8
    have h4 := hT.n8
    refine ⟨_, rfl, _, vs.length, n, f, rfl, ht, hT, fun H1 g1 => ?_⟩
    refine ⟨_, rfl, _, rfl, a, vs, rfl, .inr (SqT.of (g1.tup ha)), vr, vs.length, r, rfl, g1.row hr2, by omega, fun H2 g2 => ?_⟩
    have g3 := g1.trans g2
    refine ⟨_, rfl, _, rfl, _, vs.length, n, f, rfl, g3.tab ht, hT.m1, vc, n, c, rfl, g3.row hc2, by omega, fun H3 g4 => ?_⟩
    have g5 := g3.trans g4
    exact ⟨_, rfl, _, rfl, _, rfl, _, vr, vc, vs.length, n, f, r, c, rfl, g5.tab ht, g5.row hr2, g5.row hc2, hT.t1, fun u H4 g6 hu => q u H4 (g5.trans g6) hu⟩

theorem sc_added : FnScope ["table", "other"] ["table", "other"] (defScope s_added) := ⟨rfl, rfl, rfl, by decide +kernel, rfl, by decide +kernel, by decide +kernel⟩
theorem ok_added (D : DefP K mg "added" s_added) (C_need_table : Cal P w K mg base 4 "need_table" ["table"] (sp_need_table)) (C_have_one_size : Cal P w K mg base 2 "have_one_size" ["table", "other"] (sp_have_one_size)) (C_added_table : Cal P w K mg base 1 "added_table" ["table", "other"] (sp_added_table)) : Cal P w K mg base 5 "added" ["table", "other"] (sp_added) := by
  refine cal_mk (k := 4) D sc_added (fun vs H Q E h => ?_) (fun _ _ _ _ _ _ us hl => match us, hl with | [_, _], _ => rfl) (fun f cdv A outer s H vs Q hgd hr h => ?_)
  · obtain ⟨v, v2, m, n, f, g, rfl, _⟩ := h; rfl
  · obtain ⟨v, v2, m, n, f, g, rfl, ht, hu, hT, q⟩ := h
    refine ⟨_, (pss_cons (ps_expr (pe_cal C_need_table hgd hr (pa_cons (pv 0) pa_nil)))
      (pss_cons (ps_expr (pe_cal C_need_table hgd hr (pa_cons (pv 1) pa_nil)))
      (pss_cons (ps_if (pt_not (pt_val (pe_cal C_have_one_size hgd hr (pa_cons (pv 0) (pa_cons (pv 1) pa_nil))))) (pss_one ps_never) pss_nil)
      (pss_one (ps_ret (pe_cal C_added_table hgd hr (pa_cons (pv 0) (pa_cons (pv 1) pa_nil)))))))), ?_⟩
    refine ⟨_, rfl, v, m, n, f, rfl, ht, hT, fun H1 g1 => ?_⟩
    refine ⟨_, rfl, v2, m, n, g, rfl, g1.tab hu, hT, fun H2 g2 => ?_⟩
    have g3 := g1.trans g2
    refine ⟨_, rfl, _, rfl, v, v2, m, n, f, g, rfl, g3.tab ht, g3.tab hu, hT.m1, true, rfl, iteF ?_⟩
    exact ⟨_, rfl, _, rfl, v, v2, m, n, f, g, rfl, g3.tab ht, g3.tab hu, hT.t1, fun u H4 g6 hu => q u H4 (g3.trans g6) hu⟩

theorem sc_scaled : FnScope ["table", "times"] ["table", "times"] (defScope s_scaled) := ⟨rfl, rfl, rfl, by decide +kernel, rfl, by decide +kernel, by decide +kernel⟩
theorem ok_scaled (D : DefP K mg "scaled" s_scaled) (C_need_table : Cal P w K mg base 4 "need_table" ["table"] (sp_need_table)) (C_need_number : Cal P w K mg base 3 "need_number" ["number", "least", "most"] (sp_need_number)) (C_scaled_table : Cal P w K mg base 1 "scaled_table" ["table", "times"] (sp_scaled_table)) {t_MOST_TIMES : Tok} (c_MOST_TIMES : mg "MOST_TIMES" = some (.int 1000000000 t_MOST_TIMES)) : Cal P w K mg base 5 "scaled" ["table", "times"] (sp_scaled) := by
  refine cal_mk (k := 4) D sc_scaled (fun vs H Q E h => ?_) (fun _ _ _ _ _ _ us hl => match us, hl with | [_, _], _ => rfl) (fun f cdv A outer s H vs Q hgd hr h => ?_)
  · obtain ⟨v, m, n, f, t, rfl, _⟩ := h; rfl
  · obtain ⟨v, m, n, f, t, rfl, ht, hT, t0, t1, q⟩ := h
    refine ⟨_, (pss_cons (ps_expr (pe_cal C_need_table hgd hr (pa_cons (pv 0) pa_nil)))
      (pss_cons (ps_expr (pe_cal C_need_number hgd hr (pa_cons (pv 1) (pa_cons pe_int (pa_cons (pe_glob (v := .int 1000000000) rfl c_MOST_TIMES ⟨_, rfl⟩) pa_nil)))))
      (pss_one (ps_ret (pe_cal C_scaled_table hgd hr (pa_cons (pv 0) (pa_cons (pv 1) pa_nil))))))), ?_⟩
    refine ⟨_, rfl, v, m, n, f, rfl, ht, hT, fun H1 g1 => ?_⟩
    refine ⟨_, rfl, t, 0, 1000000000, rfl, t0, t1, ?_⟩
    exact ⟨_, rfl, _, rfl, v, m, n, f, t, rfl, g1.tab ht, hT.t1, t0, t1, fun u H4 g6 hu => q u H4 (g1.trans g6) hu⟩

theorem sc_turned : FnScope ["table"] ["table"] (defScope s_turned) := ⟨rfl, rfl, rfl, by decide +kernel, rfl, by decide +kernel, by decide +kernel⟩
theorem ok_turned (D : DefP K mg "turned" s_turned) (C_need_table : Cal P w K mg base 4 "need_table" ["table"] (sp_need_table)) (C_turned_table : Cal P w K mg base 2 "turned_table" ["table"] (sp_turned_table)) : Cal P w K mg base 5 "turned" ["table"] (sp_turned) := by
  refine cal_mk (k := 4) D sc_turned (fun vs H Q E h => ?_) (fun _ _ _ _ _ _ us hl => match us, hl with | [_], _ => rfl) (fun f cdv A outer s H vs Q hgd hr h => ?_)
  · obtain ⟨v, m, n, f, rfl, _⟩ := h; rfl
  · obtain ⟨v, m, n, f, rfl, ht, hT, q⟩ := h
    refine ⟨_, (pss_cons (ps_expr (pe_cal C_need_table hgd hr (pa_cons (pv 0) pa_nil)))
      (pss_one (ps_ret (pe_cal C_turned_table hgd hr (pa_cons (pv 0) pa_nil))))), ?_⟩
    refine ⟨_, rfl, v, m, n, f, rfl, ht, hT, fun H1 g1 => ?_⟩
    exact ⟨_, rfl, v, m, n, f, rfl, g1.tab ht, hT.t1, fun u H4 g6 hu => q u H4 (g1.trans g6) hu⟩

theorem sc_mirrored : FnScope ["table"] ["table"] (defScope s_mirrored) := ⟨rfl, rfl, rfl, by decide +kernel, rfl, by decide +kernel, by decide +kernel⟩
theorem ok_mirrored (D : DefP K mg "mirrored" s_mirrored) (C_need_table : Cal P w K mg base 4 "need_table" ["table"] (sp_need_table)) (C_mirrored_table : Cal P w K mg base 1 "mirrored_table" ["table"] (sp_mirrored_table)) : Cal P w K mg base 5 "mirrored" ["table"] (sp_mirrored) := by
  refine cal_mk (k := 4) D sc_mirrored (fun vs H Q E h => ?_) (fun _ _ _ _ _ _ us hl => match us, hl with | [_], _ => rfl) (fun f cdv A outer s H vs Q hgd hr h => ?_)
  · obtain ⟨v, m, n, f, rfl, _⟩ := h; rfl
  · obtain ⟨v, m, n, f, rfl, ht, hT, q⟩ := h
    refine ⟨_, (pss_cons (ps_expr (pe_cal C_need_table hgd hr (pa_cons (pv 0) pa_nil)))
      (pss_one (ps_ret (pe_cal C_mirrored_table hgd hr (pa_cons (pv 0) pa_nil))))), ?_⟩
    refine ⟨_, rfl, v, m, n, f, rfl, ht, hT, fun H1 g1 => ?_⟩
    exact ⟨_, rfl, v, m, n, f, rfl, g1.tab ht, fun u H4 g6 hu => q u H4 (g1.trans g6) hu⟩

theorem sc_parts : FnScope ["table", "left", "row", "entry"] ["table"] (defScope s_parts) := ⟨rfl, rfl, rfl, by decide +kernel, rfl, by decide +kernel, by decide +kernel⟩
theorem ok_parts (D : DefP K mg "parts" s_parts) (C_need_table : Cal P w K mg base 4 "need_table" ["table"] (sp_need_table)) (C_gains_of : Cal P w K mg base 3 "gains_of" ["table"] (sp_gains_of)) (m_tuple : mg "tuple" = none) : Cal P w K mg base 5 "parts" ["table"] (sp_parts) := by
  refine cal_mk (k := 4) D sc_parts (fun vs H Q E h => ?_) (fun _ _ _ _ _ _ us hl => match us, hl with | [_], _ => rfl) (fun f cdv A outer s H vs Q hgd hr h => ?_)
  · obtain ⟨v, m, n, f, rfl, _⟩ := h; rfl
  · obtain ⟨v, m, n, f, rfl, ht, hT, q⟩ := h
    refine ⟨_, (pss_cons (ps_expr (pe_cal C_need_table hgd hr (pa_cons (pv 0) pa_nil)))
      (pss_cons (ps_set (i := 1) sc_parts.nd rfl (Or.inr rfl) (pe_callTy (call_tuple_ofK K) (by rfl) m_tuple b_tuple (pa_cons (pe_lc (own := [("row", 2)]) rfl sc_parts.nd (pi_tupK K (pv 0)) (blkOk_by (by kernel_rfl)) (fun _ _ _ _ _ => (pg_name (i := 2) sc_parts.nd rfl (Or.inl rfl))) (fun _ _ _ _ _ => pts_nil) (fun _ _ _ _ _ => (pe_ix (ix_tupK K) (pv 2) pe_int (fun _ _ => rfl)))) pa_nil)))
      (pss_one (ps_ret (pe_tup (pa_cons (pv 1) (pa_cons (pe_callTy (call_tuple_ofK K) (by rfl) m_tuple b_tuple (pa_cons (pe_lc (own := [("entry", 3)]) rfl sc_parts.nd (pi_tupK K (pe_slice (sl_tupK K) (pe_ix (ix_tupK K) (pv 0) pe_int (fun _ _ => rfl)) (po_some pe_int) po_none)) (blkOk_by (by kernel_rfl)) (fun _ _ _ _ _ => (pg_name (i := 3) sc_parts.nd rfl (Or.inl rfl))) (fun _ _ _ _ _ => pts_nil) (fun _ _ _ _ _ => (pe_op op_sub (pv 3) (pe_ix (ix_tupK K) (pv 1) pe_int (fun _ _ => rfl))))) pa_nil)) (pa_cons (pe_cal C_gains_of hgd hr (pa_cons (pv 0) pa_nil)) pa_nil)))))))), ?_⟩
    obtain ⟨a, vs, rfl, ha, hl, hk⟩ := id ht
    have h1 := hT.m1
    have h2 := hT.m8
    have h3 := hT.n1
    have h4 := hT.n8
    obtain ⟨vs', x0, ha', _, hx0, b, rfl, hb⟩ := ht.at_ (i := 0) h1
    rw [ha] at ha'
    cases ha'
    refine ⟨_, rfl, .ref a, m, n, f, rfl, ht, hT, fun H1 g1 => ?_⟩
    refine ⟨_, rfl, a, rfl, ⟨_, SqT.of (g1.tup ha)⟩, fun D nD => ?_⟩
    refine lcN (l := []) (walk_tup (xs := vs)) (fun _ _ => True) (fun i v _ => v = .int (f i 0)) nD lq_nil (by omega) (lcs_val fun _ _ _ h => h) trivial (fun i H' g _ => SqT.of ((g1.trans g).tup ha)) ?_ ?_
    · rintro i x H2 H3 hi g2 _ ⟨rfl, hx⟩
      obtain ⟨c, rfl, hc⟩ := hk i x hx
      exact ⟨rfl, fun Q' q' => ⟨_, rfl, c, _, 0, _, rfl, rfl, SqT.of ((g1.trans g2).tup hc), atI_nat (rowV_get (j := 0) (by omega)), q' _ _ (Go.refl lq_nil) trivial rfl⟩⟩
    · intro H2 acc g2 _ hA hl2 hv
      have e := rowV_of (hl2.trans hl) hv
      subst e
      refine ⟨D, _, rfl, .inl ⟨SqL.of hA, fun al nl => ?_⟩⟩
      have g3 := (g1.trans g2).snew nl (o := .tup (rowV m (fun i => f i 0)))
      refine ⟨_, rfl, _, rfl, a, vs, 0, _, rfl, rfl, SqT.of (g3.tup ha), atI_nat hx0, 1, rfl, ?_⟩
      unfold tNoPart
      refine slice_one (g3.tup hb) h3 fun p np => ?_
      have g4 := g3.snew np (o := .tup (rowV (n - 1) (fun j => f 0 (j + 1))))
      have hal := (go_new np (o := .tup (rowV (n - 1) (fun j => f 0 (j + 1))))).row (row_new (H := H2) (p := al) (n := m) (g := fun i => f i 0))
      refine ⟨p, rfl, ⟨_, SqT.of upd_same⟩, fun D2 nD2 => ?_⟩
      refine lcN (l := []) (walk_tup (xs := rowV (n - 1) (fun j => f 0 (j + 1)))) (fun _ _ => True) (fun j v _ => v = .int (f 0 (j + 1) - f 0 0)) nD2 lq_nil (by rw [rowV_len]; omega) (lcs_val fun _ _ _ h => h) trivial (fun i H' g _ => SqT.of (g.tup upd_same)) ?_ ?_
      · rintro j x H4 H5 hj g5 _ ⟨rfl, hx⟩
        obtain ⟨_, rfl⟩ := rowV_at hx
        obtain ⟨al2, e1, e2⟩ := g5.row hal
        cases e1
        exact ⟨rfl, fun Q' q' => ⟨_, rfl, _, rfl, al, _, 0, _, rfl, rfl, SqT.of e2, atI_nat (rowV_get (j := 0) (by omega)), _, _, rfl, rfl, q' _ _ (Go.refl lq_nil) trivial rfl⟩⟩
      · intro H4 acc2 g5 _ hB hl3 hv3
        have e := rowV_of (hl3.trans (rowV_len _ _)) hv3
        subst e
        refine ⟨D2, _, rfl, .inl ⟨SqL.of hB, fun bt nt => ?_⟩⟩
        have g6 := g5.snew nt (o := .tup (rowV (n - 1) (fun j => f 0 (j + 1) - f 0 0)))
        have g7 := g4.trans g6
        refine ⟨_, rfl, .ref a, m, n, f, rfl, g7.tab ht, hT.t1, fun vg H6 g8 hG => ?_⟩
        refine ⟨by show 3 ≤ sizeLine; decide, fun r nr => ?_⟩
        refine q _ _ ((g7.trans g8).snew nr) ⟨r, .ref al, .ref bt, vg, rfl, upd_same, (go_new nr).row (g8.row (g6.row hal)), (go_new nr).row (g8.row row_new), (go_new nr).tab hG⟩

theorem sc_gain : FnScope ["table", "row", "other", "column", "last"] ["table", "row", "other", "column", "last"] (defScope s_gain) := ⟨rfl, rfl, rfl, by decide +kernel, rfl, by decide +kernel, by decide +kernel⟩
theorem ok_gain (D : DefP K mg "gain" s_gain) (C_need_table : Cal P w K mg base 4 "need_table" ["table"] (sp_need_table)) (C_need_span : Cal P w K mg base 3 "need_span" ["first", "second", "count"] (sp_need_span)) (C_width : Cal P w K mg base 1 "width" ["table"] (sp_width)) (C_gain_of : Cal P w K mg base 1 "gain_of" ["table", "row", "other", "column", "last"] (sp_gain_of)) (m_len : mg "len" = none) : Cal P w K mg base 5 "gain" ["table", "row", "other", "column", "last"] (sp_gain) := by
  refine cal_mk (k := 4) D sc_gain (fun vs H Q E h => ?_) (fun _ _ _ _ _ _ us hl => match us, hl with | [_, _, _, _, _], _ => rfl) (fun f cdv A outer s H vs Q hgd hr h => ?_)
  · obtain ⟨v, m, n, f, r, o, c, l, rfl, _⟩ := h; rfl
  · obtain ⟨v, m, n, f, r, o, c, l, rfl, ht, hT, h1, h2, h3, h4, q⟩ := h
    refine ⟨_, (pss_cons (ps_expr (pe_cal C_need_table hgd hr (pa_cons (pv 0) pa_nil)))
      (pss_cons (ps_expr (pe_cal C_need_span hgd hr (pa_cons (pv 1) (pa_cons (pv 2) (pa_cons (pe_callB (call_lenK K) (by rfl) m_len b_len (pa_cons (pv 0) pa_nil)) pa_nil)))))
      (pss_cons (ps_expr (pe_cal C_need_span hgd hr (pa_cons (pv 3) (pa_cons (pv 4) (pa_cons (pe_cal C_width hgd hr (pa_cons (pv 0) pa_nil)) pa_nil)))))
      (pss_one (ps_ret (pe_cal C_gain_of hgd hr (pa_cons (pv 0) (pa_cons (pv 1) (pa_cons (pv 2) (pa_cons (pv 3) (pa_cons (pv 4) pa_nil))))))))))), ?_⟩
    obtain ⟨a, vs, rfl, ha, rfl, hk⟩ := id ht
    refine ⟨_, rfl, _, vs.length, n, f, rfl, ht, hT, fun H1 g1 => ?_⟩
    refine ⟨_, rfl, _, rfl, _, rfl, a, vs, rfl, .inr (SqT.of (g1.tup ha)), r, o, vs.length, rfl, by omega, by omega, by omega, ?_⟩
    refine ⟨_, rfl, _, rfl, _, rfl, _, vs.length, n, f, rfl, g1.tab ht, hT.m1, c, l, n, rfl, by omega, by omega, by omega, ?_⟩
    exact ⟨_, rfl, _, rfl, _, rfl, _, rfl, _, rfl, _, vs.length, n, f, r, o, c, l, rfl, g1.tab ht, by omega, h2, by omega, h4, q H1 g1⟩

theorem sc_l_loose : FnScope ["_law_feed_here", "_law_many", "_law_wide", "_law_table_here", "_law_way", "_law_at", "_law_to", "_law_size", "_law_row", "_law_entry"] ["_law_feed_here", "_law_many", "_law_wide"] (defScope s_l_loose) := ⟨rfl, rfl, rfl, by decide +kernel, rfl, by decide +kernel, by decide +kernel⟩
theorem ok_l_loose (D : DefP K mg "_law_loose" s_l_loose) (C_l_table : Cal P w K mg base 4 "_law_table" ["_law_feed_here", "_law_many", "_law_wide"] (sp_l_table)) (C_l_draw : Cal P w K mg base 1 "_law_draw" ["_law_feed_here", "_law_many"] (sp_l_draw)) (C_l_set : Cal P w K mg base 1 "_law_set" ["_law_table_here", "_law_at", "_law_to", "_law_number"] (sp_l_set)) (C_l_one : Cal P w K mg base 2 "_law_one" ["_law_feed_here", "_law_things"] (sp_l_one)) (m_len : mg "len" = none) (m_tuple : mg "tuple" = none) : Cal P w K mg base 5 "_law_loose" ["_law_feed_here", "_law_many", "_law_wide"] (sp_l_loose) := by
  refine cal_mk (k := 4) D sc_l_loose (fun vs H Q E h => ?_) (fun _ _ _ _ _ _ us hl => match us, hl with | [_, _, _], _ => rfl) (fun f cdv A outer s H vs Q hgd hr h => ?_)
  · obtain ⟨a, mm, ww, k, rfl, _⟩ := h; rfl
  · obtain ⟨a, mm, ww, k, rfl, F, hk, m1, m8, w1, w8, q⟩ := h
    refine ⟨_, (pss_cons (ps_par (by rfl) sc_l_loose.nd (i := 3) (j := 4) rfl rfl (by decide) rfl rfl (pa_cons (pe_cal C_l_table hgd hr (pa_cons (pv 0) (pa_cons (pv 1) (pa_cons (pv 2) pa_nil)))) (pa_cons (pe_cal C_l_draw hgd hr (pa_cons (pv 0) (pa_cons pe_int pa_nil))) pa_nil)) (by rfl))
      (pss_cons (ps_if (pt_cmpR op_eq (pv 4) pe_int (nomark _)) (pss_one (ps_ret (pv 3))) pss_nil)
      (pss_cons (ps_if (pt_cmpR op_eq (pv 4) pe_int (nomark _)) (pss_cons (ps_par (by rfl) sc_l_loose.nd (i := 5) (j := 6) rfl rfl (by decide) rfl rfl (pa_cons (pe_cal C_l_draw hgd hr (pa_cons (pv 0) (pa_cons (pe_callB (call_lenK K) (by rfl) m_len b_len (pa_cons (pv 3) pa_nil)) pa_nil))) (pa_cons (pe_cal C_l_draw hgd hr (pa_cons (pv 0) (pa_cons (pe_callB (call_lenK K) (by rfl) m_len b_len (pa_cons (pe_ix (ix_tupK K) (pv 3) pe_int (fun _ _ => rfl)) pa_nil)) pa_nil))) pa_nil)) (by rfl))
      (pss_one (ps_ret (pe_cal C_l_set hgd hr (pa_cons (pv 3) (pa_cons (pv 5) (pa_cons (pv 6) (pa_cons (pe_op op_sub (pe_op op_add (pe_ix (ix_tupK K) (pe_ix (ix_tupK K) (pv 3) (pv 5) (fun _ _ => rfl)) (pv 6) (fun _ _ => rfl)) (pe_cal C_l_draw hgd hr (pa_cons (pv 0) (pa_cons pe_int pa_nil)))) pe_int) pa_nil)))))))) pss_nil)
      (pss_cons (ps_set (i := 7) sc_l_loose.nd rfl (Or.inr rfl) (pe_cal C_l_one hgd hr (pa_cons (pv 0) (pa_cons (pe_lst (pa_cons pe_int (pa_cons pe_int (pa_cons pe_int (pa_cons (pe_op op_pow pe_int pe_int) pa_nil))))) pa_nil))))
      (pss_one (ps_ret (pe_callTy (call_tuple_ofK K) (by rfl) m_tuple b_tuple (pa_cons (pe_lc (own := [("_law_row", 8)]) rfl sc_l_loose.nd (pi_tupK K (pv 3)) (blkOk_by (by kernel_rfl)) (fun _ _ _ _ _ => (pg_name (i := 8) sc_l_loose.nd rfl (Or.inl rfl))) (fun _ _ _ _ _ => pts_nil) (fun _ _ _ _ _ => (pe_callTy (call_tuple_ofK K) (by rfl) m_tuple b_tuple (pa_cons (pe_lc (own := [("_law_entry", 9)]) rfl sc_l_loose.nd (pi_tupK K (pv 8)) (blkOk_by (by kernel_rfl)) (fun _ _ _ _ _ => (pg_name (i := 9) sc_l_loose.nd rfl (Or.inl rfl))) (fun _ _ _ _ _ => pts_nil) (fun _ _ _ _ _ => (pe_op op_sub (pe_cal C_l_draw hgd hr (pa_cons (pv 0) (pa_cons (pe_op op_add (pe_op op_mul pe_int (pv 7)) pe_int) pa_nil))) (pv 7)))) pa_nil)))) pa_nil)))))))), ?_⟩
    refine ⟨_, rfl, _, rfl, _, rfl, a, mm, ww, k, rfl, F, by omega, m1, m8, w1, w8, fun u H1 m n f g1 F1 hu hT hs hb => ⟨_, rfl, a, 3, k + 300, rfl, F1, by omega, by decide, by decide, fun r H2 g2 F2 r0 r1 => ⟨_, _, rfl, ?_⟩⟩⟩
    have h1 := hT.m1
    have h2 := hT.m8
    have h3 := hT.n1
    have h4 := hT.n8
    have hu2 := g2.tab hu
    have g12 := g1.trans g2
    refine ⟨_, rfl, rfl, _, rfl, ?_⟩
    by_cases hz : r = 0
    · rw [decide_eq_true (congrArg V.int hz)]
      exact iteT ⟨_, rfl, q u H2 m n f g12 (F2.mono (by omega)) hu2 hT (hb.mono (by decide))⟩
    rw [decide_eq_false fun z => hz (V.int.inj z)]
    refine iteF ⟨_, rfl, rfl, _, rfl, ?_⟩
    obtain ⟨p, vs, rfl, hp, hl, hkk⟩ := id hu2
    by_cases hz1 : r = 1
    · rw [decide_eq_true (congrArg V.int hz1)]
      obtain ⟨vs', x0, hp', _, hx0, b, rfl, hbb⟩ := hu2.at_ (i := 0) h1
      rw [hp] at hp'
      cases hp'
      refine iteT ⟨_, rfl, _, rfl, p, vs, rfl, .inr (SqT.of hp), a, _, k + 301, rfl, F2, by omega, by omega, by rw [p110]; omega, fun ri H3 g3 F3 i0 i1 => ?_⟩
      refine ⟨_, rfl, _, rfl, p, vs, 0, .ref b, rfl, rfl, SqT.of (g3.tup hp), atI_nat hx0, b, _, rfl, .inr (SqT.of (g3.tup hbb)), a, _, k + 302, rfl, F3, by omega, by rw [rowV_len]; omega, by rw [p110, rowV_len]; omega, fun rj H4 g4 F4 j0 j1 => ⟨_, _, rfl, ?_⟩⟩
      rw [rowV_len] at j1
      obtain ⟨i, rfl⟩ := Int.eq_ofNat_of_zero_le i0
      obtain ⟨j, rfl⟩ := Int.eq_ofNat_of_zero_le j0
      have hi : i < m := by omega
      have hj : j < n := by omega
      have g34 := g3.trans g4
      obtain ⟨vs', xi, hp', _, hxi, bi, rfl, hbi⟩ := hu2.at_ hi
      rw [hp] at hp'
      cases hp'
      refine ⟨_, rfl, _, rfl, _, rfl, _, rfl, _, rfl, p, vs, i, .ref bi, rfl, rfl, SqT.of (g34.tup hp), atI_nat hxi, _, rfl, bi, _, j, _, rfl, rfl, SqT.of (g34.tup hbi), atI_nat (rowV_get hj), _, rfl, a, 7, k + 303, rfl, F4, by omega, by decide, by decide, fun r7 H5 g5 F5 s0 s1 => ⟨_, _, rfl, rfl, _, _, rfl, rfl, .ref p, m, n, f, i, j, _, rfl, (g34.trans g5).tab hu2, hT, hi, hj, fun u H6 g6 hu6 => ?_⟩⟩
      refine q u H6 m n _ ((g12.trans (g34.trans g5)).trans (g6.up F5.lq)) ((F5.keep g6).mono (by omega)) hu6 hT fun i' j' hi' hj' => ?_
      have b1 := hb i j hi hj
      have b2 := hb i' j' hi' hj'
      show -100000000000000000000 ≤ (if i' = i ∧ j' = j then f i j + r7 - 3 else f i' j') ∧ (if i' = i ∧ j' = j then f i j + r7 - 3 else f i' j') ≤ 100000000000000000000
      split <;> omega
    rw [decide_eq_false fun z => hz1 (V.int.inj z)]
    refine iteF ?_
    refine ⟨_, rfl, _, _, rfl, rfl, ⟨by decide, by decide, by decide⟩, (show 4 ≤ sizeLine by decide), fun L nL => ?_⟩
    have gL := Go.new F2.lq nL (o := .lst [.int 2, .int 4, .int 10, .int (10 ^ Int.toNat 12)])
    refine ⟨a, L, _, k + 301, rfl, F2.new nL, by omega, upd_same, fun z => F2.ne nL z.symm, by decide, by decide, fun x H3 g3 F3 hx => ?_⟩
    obtain ⟨size, rfl, s0, s1⟩ : ∃ z : Int, x = .int z ∧ 0 ≤ z ∧ z ≤ 1000000000000 := by
      rcases List.mem_cons.mp hx with rfl | hx
      · exact ⟨_, rfl, by decide, by decide⟩
      rcases List.mem_cons.mp hx with rfl | hx
      · exact ⟨_, rfl, by decide, by decide⟩
      rcases List.mem_cons.mp hx with rfl | hx
      · exact ⟨_, rfl, by decide, by decide⟩
      rcases List.mem_cons.mp hx with rfl | hx
      · exact ⟨_, rfl, by decide, by decide⟩
      cases hx
    have gA := gL.trans g3
    refine ⟨_, rfl, p, rfl, ⟨_, SqT.of (gA.tup hp)⟩, fun D nD => ?_⟩
    have nlD : D ∉ [a] := F3.lq.ne nD
    refine lcN (l := [a]) (walk_tup (xs := vs)) (fun i H' => Fd H' a (k + 310 + 10 * i)) (fun _ v H' => RoB n 1000000000000 v H') nD F3.lq (by omega) (lcs_rob fun i H o h => h.upd (F3.ne nD)) (F3.mono (by omega)) (fun i H' g _ => SqT.of ((gA.trans g).tup hp)) ?_ ?_
    · rintro i x H4 H5 hi g4 F4 ⟨rfl, hx⟩
      obtain ⟨b, rfl, hbb⟩ := hkk i x hx
      refine ⟨rfl, fun Q' q' => ⟨_, rfl, b, rfl, ⟨_, SqT.of ((gA.trans g4).tup hbb)⟩, fun D2 nD2 => ?_⟩⟩
      refine lcN (l := [a]) (walk_tup (xs := rowV n (f i))) (fun j H' => Fd H' a (k + 310 + 10 * i + j)) (fun _ v _ => ∃ z : Int, v = .int z ∧ -1000000000000 ≤ z ∧ z ≤ 1000000000000) nD2 F4.lq (by rw [rowV_len]; omega) (lcs_val fun i H o h => h.upd (F4.ne nD2)) F4 (fun i H' g _ => SqT.of (((gA.trans g4).trans g).tup hbb)) ?_ ?_
      · rintro j x H6 H7 hj g6 F6 ⟨rfl, hx⟩
        rw [rowV_len] at hj
        refine ⟨rfl, fun Q2 q2 => ⟨_, rfl, _, rfl, _, _, rfl, rfl, .inl ⟨by decide, by decide⟩, _, _, rfl, rfl, a, _, k + 310 + 10 * i + j, rfl, F6, by omega, by omega, by rw [p110]; omega, fun r H8 g8 F8 r0 r1 => ⟨_, rfl, _, _, rfl, rfl, q2 _ _ g8 F8 ⟨_, rfl, by omega, by omega⟩⟩⟩⟩
      · intro H6 acc6 g6 F6 hA6 hl6 hv6
        obtain ⟨gg, rfl, hgg⟩ := ints_ex (R := fun _ z => -1000000000000 ≤ z ∧ z ≤ 1000000000000) (hl6.trans (rowV_len _ _)) hv6
        rw [rowV_len] at F6
        exact ⟨D2, _, rfl, .inl ⟨SqL.of hA6, fun p2 np2 => q' _ _ (g6.snew np2) ((F6.new np2).mono (by omega)) ⟨gg, row_new, hgg⟩⟩⟩
    intro H4 acc4 g4 F4 hA4 hl4 hv4
    refine ⟨D, _, rfl, .inl ⟨SqL.of hA4, fun p4 np4 => ?_⟩⟩
    obtain ⟨f', ht', hb'⟩ := rob_tab np4 (hl4.trans hl) hv4
    exact q _ _ m n f' (((g12.trans gA).trans g4).snew np4) ((F4.new np4).mono (by omega)) ht' hT (hb'.mono (by decide))

theorem sc_l_some_table : FnScope ["_law_feed_here"] ["_law_feed_here"] (defScope s_l_some_table) := ⟨rfl, rfl, rfl, by decide +kernel, rfl, by decide +kernel, by decide +kernel⟩
theorem ok_l_some_table (D : DefP K mg "_law_some_table" s_l_some_table) (C_l_draw : Cal P w K mg base 1 "_law_draw" ["_law_feed_here", "_law_many"] (sp_l_draw)) (C_l_great : Cal P w K mg base 2 "_law_great" ["_law_feed_here"] (sp_l_great)) (C_l_table : Cal P w K mg base 4 "_law_table" ["_law_feed_here", "_law_many", "_law_wide"] (sp_l_table)) : Cal P w K mg base 5 "_law_some_table" ["_law_feed_here"] (sp_l_some_table) := by
  refine cal_mk (k := 4) D sc_l_some_table (fun vs H Q E h => ?_) (fun _ _ _ _ _ _ us hl => match us, hl with | [_], _ => rfl) (fun f cdv A outer s H vs Q hgd hr h => ?_)
  · obtain ⟨a, k, rfl, _⟩ := h; rfl
  · obtain ⟨a, k, rfl, F, hk, q⟩ := h
    refine ⟨_, (pss_one (ps_ret (pe_ifExp (pt_cmpR op_eq (pe_cal C_l_draw hgd hr (pa_cons (pv 0) (pa_cons pe_int pa_nil))) pe_int (nomark _)) (pe_cal C_l_great hgd hr (pa_cons (pv 0) pa_nil)) (pe_cal C_l_table hgd hr (pa_cons (pv 0) (pa_cons pe_int (pa_cons pe_int pa_nil))))))), ?_⟩
    refine ⟨_, rfl, a, 6, k, rfl, F, by omega, by decide, by decide, fun r H1 g1 F1 r0 r1 => ⟨rfl, _, rfl, ?_⟩⟩
    by_cases hz : r = 0
    · rw [decide_eq_true (congrArg V.int hz)]
      refine iteT ⟨_, rfl, a, k + 1, rfl, F1, by omega, fun u H2 m n f g2 F2 hu hT hs => ?_⟩
      exact q u H2 m n f (g1.trans g2) (F2.mono (by omega)) hu hT hs
    · rw [decide_eq_false fun z => hz (V.int.inj z)]
      refine iteF ⟨_, rfl, a, 8, 8, k + 1, rfl, F1, by omega, by decide, by decide, by decide, by decide, fun u H2 m n f g2 F2 hu hT hs _ => ?_⟩
      exact q u H2 m n f (g1.trans g2) (F2.mono (by omega)) hu hT hs

theorem sc_need_straight : FnScope ["table"] ["table"] (defScope s_need_straight) := ⟨rfl, rfl, rfl, by decide +kernel, rfl, by decide +kernel, by decide +kernel⟩
theorem ok_need_straight (D : DefP K mg "need_straight" s_need_straight) (C_need_table : Cal P w K mg base 4 "need_table" ["table"] (sp_need_table)) (C_is_straight_table : Cal P w K mg base 5 "is_straight_table" ["table"] (sp_is_straight_table)) : Cal P w K mg base 6 "need_straight" ["table"] (sp_need_straight) := by
  refine cal_mk (k := 5) D sc_need_straight (fun vs H Q E h => ?_) (fun _ _ _ _ _ _ us hl => match us, hl with | [_], _ => rfl) (fun f cdv A outer s H vs Q hgd hr h => ?_)
  · obtain ⟨v, m, n, f, rfl, _⟩ := h; rfl
  · obtain ⟨v, m, n, f, rfl, ht, hT, hS, q⟩ := h
    refine ⟨_, (pss_cons (ps_expr (pe_cal C_need_table hgd hr (pa_cons (pv 0) pa_nil)))
      (pss_one (ps_if (pt_not (pt_val (pe_cal C_is_straight_table hgd hr (pa_cons (pv 0) pa_nil)))) (pss_one ps_never) pss_nil))), ?_⟩
    exact ⟨_, rfl, v, m, n, f, rfl, ht, hT, fun H1 g1 => ⟨_, rfl, v, m, n, f, rfl, g1.tab ht, hT.t1, hS, fun H2 g2 => ⟨true, rfl, iteF (q H2 (g1.trans g2))⟩⟩⟩

theorem sc_thinned : FnScope ["table", "rows", "columns"] ["table", "rows", "columns"] (defScope s_thinned) := ⟨rfl, rfl, rfl, by decide +kernel, rfl, by decide +kernel, by decide +kernel⟩
theorem ok_thinned (D : DefP K mg "thinned" s_thinned) (C_need_table : Cal P w K mg base 4 "need_table" ["table"] (sp_need_table)) (C_need_indexes : Cal P w K mg base 5 "need_indexes" ["indexes", "count"] (sp_need_indexes)) (C_width : Cal P w K mg base 1 "width" ["table"] (sp_width)) (C_thinned_table : Cal P w K mg base 1 "thinned_table" ["table", "rows", "columns"] (sp_thinned_table)) (m_len : mg "len" = none) : Cal P w K mg base 6 "thinned" ["table", "rows", "columns"] (sp_thinned) := by
  refine cal_mk (k := 5) D sc_thinned (fun vs H Q E h => ?_) (fun _ _ _ _ _ _ us hl => match us, hl with | [_, _, _], _ => rfl) (fun f cdv A outer s H vs Q hgd hr h => ?_)
  · obtain ⟨v, vr, vc, m, n, f, p, r, q, c, rfl, _⟩ := h; rfl
  · obtain ⟨v, vr, vc, m, n, f, p, r, s, c, rfl, ht, hT, hr2, hc2, q⟩ := h
    refine ⟨_, (pss_cons (ps_expr (pe_cal C_need_table hgd hr (pa_cons (pv 0) pa_nil)))
      (pss_cons (ps_expr (pe_cal C_need_indexes hgd hr (pa_cons (pv 1) (pa_cons (pe_callB (call_lenK K) (by rfl) m_len b_len (pa_cons (pv 0) pa_nil)) pa_nil))))
      (pss_cons (ps_expr (pe_cal C_need_indexes hgd hr (pa_cons (pv 2) (pa_cons (pe_cal C_width hgd hr (pa_cons (pv 0) pa_nil)) pa_nil))))
      (pss_one (ps_ret (pe_cal C_thinned_table hgd hr (pa_cons (pv 0) (pa_cons (pv 1) (pa_cons (pv 2) pa_nil))))))))), ?_⟩
    obtain ⟨a, vs, rfl, ha, rfl, hk⟩ := id ht
    have h2 := hT.m8
    have h4 := hT.n8
    refine ⟨_, rfl, _, vs.length, n, f, rfl, ht, hT, fun H1 g1 => ?_⟩
    refine ⟨_, rfl, _, rfl, a, vs, rfl, .inr (SqT.of (g1.tup ha)), vr, vs.length, p, r, rfl, g1.idx hr2, by omega, fun H2 g2 => ?_⟩
    have g3 := g1.trans g2
    refine ⟨_, rfl, _, rfl, _, vs.length, n, f, rfl, g3.tab ht, hT.m1, vc, n, s, c, rfl, g3.idx hc2, by omega, fun H3 g4 => ?_⟩
    have g5 := g3.trans g4
    exact ⟨_, rfl, _, rfl, _, rfl, _, vr, vc, vs.length, n, f, p, r, s, c, rfl, g5.tab ht, hT.t1, g5.idx hr2, g5.idx hc2, fun u H4 g6 hu => q u H4 (g5.trans g6) hu⟩

theorem sc_l_added_right : FnScope ["_law_feed_here", "_law_table_here", "_law_left", "_law_top", "_law_gains", "_law_size", "_law_other", "_law_more", "_law_high", "_law_lines", "_law_due", "_law_rows", "_law_columns", "_law_times", "_law_row", "_law_entry", "_law_one_here", "_law_line"] ["_law_feed_here", "_law_table_here"] (defScope s_l_added_right) := ⟨rfl, rfl, rfl, by decide +kernel, rfl, by decide +kernel, by decide +kernel⟩
theorem ok_l_added_right (D : DefP K mg "_law_added_right" s_l_added_right) (C_parts : Cal P w K mg base 5 "parts" ["table"] (sp_parts)) (C_l_one : Cal P w K mg base 2 "_law_one" ["_law_feed_here", "_law_things"] (sp_l_one)) (C_l_draw : Cal P w K mg base 1 "_law_draw" ["_law_feed_here", "_law_many"] (sp_l_draw)) (C_l_sums : Cal P w K mg base 1 "_law_sums" ["_law_one_here", "_law_other"] (sp_l_sums)) (C_added : Cal P w K mg base 5 "added" ["table", "other"] (sp_added)) (C_built : Cal P w K mg base 4 "built" ["told"] (sp_built)) (C_lifted : Cal P w K mg base 5 "lifted" ["table", "rows", "columns"] (sp_lifted)) (C_scaled : Cal P w K mg base 5 "scaled" ["table", "times"] (sp_scaled)) (m_tuple : mg "tuple" = none) (m_zip : mg "zip" = none) (m_repr : mg "repr" = none) : Cal P w K mg base 6 "_law_added_right" ["_law_feed_here", "_law_table_here"] (sp_l_added_right) := by
  refine cal_mk (k := 5) D sc_l_added_right (fun vs H Q E h => ?_) (fun _ _ _ _ _ _ us hl => match us, hl with | [_, _], _ => rfl) (fun f cdv A outer s H vs Q hgd hr h => ?_)
  · obtain ⟨a, k, v, m, n, f, rfl, _⟩ := h; rfl
  · obtain ⟨a, k, v, m, n, f, rfl, F, hk, ht, hT, hb, q⟩ := h
    refine ⟨_, (pss_cons (ps_asg (pe_cal C_parts hgd hr (pa_cons (pv 1) pa_nil)) (pg_tupK K (n := 3) rfl (pgs_cons (pg_name (i := 2) sc_l_added_right.nd rfl (Or.inl rfl)) (pgs_cons (pg_name (i := 3) sc_l_added_right.nd rfl (Or.inl rfl)) (pgs_cons (pg_name (i := 4) sc_l_added_right.nd rfl (Or.inl rfl)) pgs_nil)))))
      (pss_cons (ps_set (i := 5) sc_l_added_right.nd rfl (Or.inr rfl) (pe_cal C_l_one hgd hr (pa_cons (pv 0) (pa_cons (pe_lst (pa_cons pe_int (pa_cons pe_int (pa_cons (pe_op op_pow pe_int pe_int) pa_nil)))) pa_nil))))
      (pss_cons (ps_set (i := 6) sc_l_added_right.nd rfl (Or.inl rfl) (pe_callTy (call_tuple_ofK K) (by rfl) m_tuple b_tuple (pa_cons (pe_lc (own := [("_law_row", 14)]) rfl sc_l_added_right.nd (pi_tupK K (pv 1)) (blkOk_by (by kernel_rfl)) (fun _ _ _ _ _ => (pg_name (i := 14) sc_l_added_right.nd rfl (Or.inl rfl))) (fun _ _ _ _ _ => pts_nil) (fun _ _ _ _ _ => (pe_callTy (call_tuple_ofK K) (by rfl) m_tuple b_tuple (pa_cons (pe_lc (own := [("_law_entry", 15)]) rfl sc_l_added_right.nd (pi_tupK K (pv 14)) (blkOk_by (by kernel_rfl)) (fun _ _ _ _ _ => (pg_name (i := 15) sc_l_added_right.nd rfl (Or.inl rfl))) (fun _ _ _ _ _ => pts_nil) (fun _ _ _ _ _ => (pe_op op_sub (pe_cal C_l_draw hgd hr (pa_cons (pv 0) (pa_cons (pv 5) pa_nil))) pe_int))) pa_nil)))) pa_nil)))
      (pss_cons (ps_asg (pe_cal C_parts hgd hr (pa_cons (pv 6) pa_nil)) (pg_tupK K (n := 3) rfl (pgs_cons (pg_name (i := 7) sc_l_added_right.nd rfl (Or.inl rfl)) (pgs_cons (pg_name (i := 8) sc_l_added_right.nd rfl (Or.inl rfl)) (pgs_cons (pg_name (i := 9) sc_l_added_right.nd rfl (Or.inl rfl)) pgs_nil)))))
      (pss_cons (ps_set (i := 10) sc_l_added_right.nd rfl (Or.inl rfl) (pe_tup (pa_cons (pe_cal C_l_sums hgd hr (pa_cons (pv 2) (pa_cons (pv 7) pa_nil))) (pa_cons (pe_cal C_l_sums hgd hr (pa_cons (pv 3) (pa_cons (pv 8) pa_nil))) (pa_cons (pe_callTy (call_tuple_ofK K) (by rfl) m_tuple b_tuple (pa_cons (pe_lc (own := [("_law_one_here", 16), ("_law_line", 17)]) rfl sc_l_added_right.nd (pi_zipK K (by rfl) m_zip (pa_cons (pv 4) (pa_cons (pv 9) pa_nil))) (blkOk_by (by kernel_rfl)) (fun _ _ _ _ _ => (pg_tupK K (n := 2) rfl (pgs_cons (pg_name (i := 16) sc_l_added_right.nd rfl (Or.inl rfl)) (pgs_cons (pg_name (i := 17) sc_l_added_right.nd rfl (Or.inl rfl)) pgs_nil)))) (fun _ _ _ _ _ => pts_nil) (fun _ _ _ _ _ => (pe_cal C_l_sums hgd hr (pa_cons (pv 16) (pa_cons (pv 17) pa_nil))))) pa_nil)) pa_nil)))))
      (pss_cons (ps_if (PW.pt (pw_or (pt_cmpR op_ne (pe_callB (call_reprK K hgd hr.units) (by rfl) m_repr b_repr (pa_cons (pe_cal C_parts hgd hr (pa_cons (pe_cal C_added hgd hr (pa_cons (pv 1) (pa_cons (pv 6) pa_nil))) pa_nil)) pa_nil)) (pe_callB (call_reprK K hgd hr.units) (by rfl) m_repr b_repr (pa_cons (pv 10) pa_nil)) (nomark _)) (pw_or1 (pt_cmpR (op_neDK K hr.units) (pe_cal C_built hgd hr (pa_cons (pv 10) pa_nil)) (pe_cal C_added hgd hr (pa_cons (pv 1) (pa_cons (pv 6) pa_nil))) (nomark _))))) (pss_one (ps_ret pe_bl)) pss_nil)
      (pss_cons (ps_par (by rfl) sc_l_added_right.nd (i := 11) (j := 12) rfl rfl (by decide) rfl rfl (pa_cons (pe_callTy (call_tuple_ofK K) (by rfl) m_tuple b_tuple (pa_cons (pe_lc (own := [("_law_row", 14)]) rfl sc_l_added_right.nd (pi_tupK K (pv 1)) (blkOk_by (by kernel_rfl)) (fun _ _ _ _ _ => (pg_name (i := 14) sc_l_added_right.nd rfl (Or.inl rfl))) (fun _ _ _ _ _ => pts_nil) (fun _ _ _ _ _ => (pe_op op_sub (pe_cal C_l_draw hgd hr (pa_cons (pv 0) (pa_cons pe_int pa_nil))) pe_int))) pa_nil)) (pa_cons (pe_callTy (call_tuple_ofK K) (by rfl) m_tuple b_tuple (pa_cons (pe_lc (own := [("_law_entry", 15)]) rfl sc_l_added_right.nd (pi_tupK K (pe_ix (ix_tupK K) (pv 1) pe_int (fun _ _ => rfl))) (blkOk_by (by kernel_rfl)) (fun _ _ _ _ _ => (pg_name (i := 15) sc_l_added_right.nd rfl (Or.inl rfl))) (fun _ _ _ _ _ => pts_nil) (fun _ _ _ _ _ => (pe_op op_sub (pe_cal C_l_draw hgd hr (pa_cons (pv 0) (pa_cons pe_int pa_nil))) pe_int))) pa_nil)) pa_nil)) (by rfl))
      (pss_cons (ps_if (pt_cmpR (op_neDK K hr.units) (pe_ix (ix_tupK K) (pe_cal C_parts hgd hr (pa_cons (pe_cal C_lifted hgd hr (pa_cons (pv 1) (pa_cons (pv 11) (pa_cons (pv 12) pa_nil)))) pa_nil)) pe_int (fun _ _ => rfl)) (pv 4) (nomark _)) (pss_one (ps_ret pe_bl)) pss_nil)
      (pss_cons (ps_set (i := 13) sc_l_added_right.nd rfl (Or.inr rfl) (pe_cal C_l_one hgd hr (pa_cons (pv 0) (pa_cons (pe_lst (pa_cons pe_int (pa_cons pe_int (pa_cons pe_int (pa_cons pe_int pa_nil))))) pa_nil))))
      (pss_one (ps_ret (pe_cmpR (op_eqDK K hr.units) (pe_ix (ix_tupK K) (pe_cal C_parts hgd hr (pa_cons (pe_cal C_scaled hgd hr (pa_cons (pv 1) (pa_cons (pv 13) pa_nil))) pa_nil)) pe_int (fun _ _ => rfl)) (pe_callTy (call_tuple_ofK K) (by rfl) m_tuple b_tuple (pa_cons (pe_lc (own := [("_law_line", 17)]) rfl sc_l_added_right.nd (pi_tupK K (pv 4)) (blkOk_by (by kernel_rfl)) (fun _ _ _ _ _ => (pg_name (i := 17) sc_l_added_right.nd rfl (Or.inl rfl))) (fun _ _ _ _ _ => pts_nil) (fun _ _ _ _ _ => (pe_callTy (call_tuple_ofK K) (by rfl) m_tuple b_tuple (pa_cons (pe_lc (own := [("_law_one_here", 16)]) rfl sc_l_added_right.nd (pi_tupK K (pv 17)) (blkOk_by (by kernel_rfl)) (fun _ _ _ _ _ => (pg_name (i := 16) sc_l_added_right.nd rfl (Or.inl rfl))) (fun _ _ _ _ _ => pts_nil) (fun _ _ _ _ _ => (pe_op op_mul (pv 13) (pv 16)))) pa_nil)))) pa_nil)) (nomark _))))))))))))), ?_⟩
    have h1 := hT.m1
    have h2 := hT.m8
    have h3 := hT.n1
    have h4 := hT.n8
    obtain ⟨p, vs, rfl, hp, hl, hkk⟩ := id ht
    obtain ⟨vs', x0, hp', _, hx0, b0, rfl, hb0⟩ := ht.at_ (i := 0) h1
    rw [hp] at hp'
    cases hp'
    refine ⟨_, rfl, .ref p, m, n, f, rfl, ht, hT, fun u H1 g1 hP => ?_⟩
    obtain ⟨pp, vl, vt, vg, rfl, hpp, hvl, hvt, hvg⟩ := id hP
    refine ⟨pp, _, rfl, SqT.of hpp, rfl, _, _, rfl, _, _, rfl, _, [], rfl, rfl, ?_⟩
    refine cp [some (.ref a), some (.ref p), some vl, some vt, some vg, none, none, none, none, none, none, none, none, none, none, none, none, none] rfl ?_
    have F1 := F.keep g1
    have G1 := g1.up F.lq
    refine ⟨_, rfl, _, _, rfl, rfl, ⟨by decide, by decide, by decide⟩, (show 3 ≤ sizeLine by decide), fun L nL => ?_⟩
    have gL := Go.new F1.lq nL (o := .lst [.int 2, .int 50, .int (10 ^ Int.toNat 9)])
    refine ⟨a, L, _, k, rfl, F1.new nL, by omega, upd_same, fun z => F1.ne nL z.symm, by decide, by decide, fun x H2 g2 F2 hx => ?_⟩
    obtain ⟨size, rfl, s0, s1⟩ : ∃ z : Int, x = .int z ∧ 1 ≤ z ∧ z ≤ 1000000000 := by
      rcases List.mem_cons.mp hx with rfl | hx
      · exact ⟨_, rfl, by decide, by decide⟩
      rcases List.mem_cons.mp hx with rfl | hx
      · exact ⟨_, rfl, by decide, by decide⟩
      rcases List.mem_cons.mp hx with rfl | hx
      · exact ⟨_, rfl, by decide, by decide⟩
      cases hx
    have G2 := (G1.trans gL).trans g2
    refine ⟨_, rfl, p, rfl, ⟨_, SqT.of (G2.tup hp)⟩, fun D nD => ?_⟩
    refine lcN (l := [a]) (walk_tup (xs := vs)) (fun i H' => Fd H' a (k + 1 + 10 * i)) (fun _ v H' => RoB n 1000000000 v H') nD F2.lq (by omega) (lcs_rob fun i H o h => h.upd (F2.ne nD)) F2 (fun i H' g _ => SqT.of ((G2.trans g).tup hp)) ?_ ?_
    · rintro i x H4 H5 hi g4 F4 ⟨rfl, hx⟩
      obtain ⟨b, rfl, hbb⟩ := hkk i x hx
      refine ⟨rfl, fun Q' q' => ⟨_, rfl, b, rfl, ⟨_, SqT.of ((G2.trans g4).tup hbb)⟩, fun D2 nD2 => ?_⟩⟩
      refine lcN (l := [a]) (walk_tup (xs := rowV n (f i))) (fun j H' => Fd H' a (k + 1 + 10 * i + j)) (fun _ v _ => ∃ z : Int, v = .int z ∧ -1000000000 ≤ z ∧ z ≤ 1000000000) nD2 F4.lq (by rw [rowV_len]; omega) (lcs_val fun i H o h => h.upd (F4.ne nD2)) F4 (fun i H' g _ => SqT.of (((G2.trans g4).trans g).tup hbb)) ?_ ?_
      · rintro j x H6 H7 hj g6 F6 ⟨rfl, hx⟩
        rw [rowV_len] at hj
        refine ⟨rfl, fun Q2 q2 => ⟨_, rfl, _, rfl, a, _, k + 1 + 10 * i + j, rfl, F6, by omega, by omega, by rw [p110]; omega, fun r H8 g8 F8 r0 r1 => ⟨_, _, rfl, rfl, q2 _ _ g8 F8 ⟨_, rfl, by omega, by omega⟩⟩⟩⟩
      · intro H6 acc6 g6 F6 hA6 hl6 hv6
        obtain ⟨gg, rfl, hgg⟩ := ints_ex (R := fun _ z => -1000000000 ≤ z ∧ z ≤ 1000000000) (hl6.trans (rowV_len _ _)) hv6
        rw [rowV_len] at F6
        exact ⟨D2, _, rfl, .inl ⟨SqL.of hA6, fun p2 np2 => q' _ _ (g6.snew np2) ((F6.new np2).mono (by omega)) ⟨gg, row_new, hgg⟩⟩⟩
    intro H3 acc3 g3 F3 hA3 hl3 hv3
    refine ⟨D, _, rfl, .inl ⟨SqL.of hA3, fun po npo => ?_⟩⟩
    obtain ⟨h, hto, hbo⟩ := rob_tab npo (hl3.trans hl) hv3
    have G4 := (G2.trans g3).snew npo (o := .tup acc3)
    have F4 : Fd (upd H3 po (.tup acc3)) a (k + 100) := (F3.new npo).mono (by omega)
    have G14 := ((gL.trans g2).trans g3).snew npo (o := .tup acc3)
    refine ⟨_, rfl, .ref po, m, n, h, rfl, hto, hT, fun u2 H5 g5 hP2 => ?_⟩
    obtain ⟨pq, wl, wt, wg, rfl, hpq, hwl, hwt, hwg⟩ := id hP2
    refine ⟨pq, _, rfl, SqT.of hpq, rfl, _, _, rfl, _, _, rfl, _, [], rfl, rfl, ?_⟩
    refine cp [some (.ref a), some (.ref p), some vl, some vt, some vg, some (.int size), some (.ref po), some wl, some wt, some wg, none, none, none, none, none, none, none, none] rfl ?_
    have F5 := F4.keep g5
    have G5 := G4.trans (g5.up F4.lq)
    have G15 := G14.trans (g5.up F4.lq)
    obtain ⟨ag, gs, rfl, hag, hgl, hgk⟩ := id hvg
    obtain ⟨bg, ws, rfl, hbg, hwl2, hwk⟩ := id hwg
    refine ⟨_, rfl, _, rfl, vl, wl, m, _, _, rfl, G15.row hvl, hwl, by omega, fun u6 H6 g6 hs1 => ?_⟩
    refine ⟨_, rfl, _, rfl, vt, wt, n - 1, _, _, rfl, g6.row (G15.row hvt), g6.row hwt, by omega, fun u7 H7 g7 hs2 => ?_⟩
    have g67 := g6.trans g7
    refine ⟨_, rfl, _, rfl, ag, bg, gs, ws, rfl, .inr ⟨SqT.of (g67.tup (G15.tup hag)), SqT.of (g67.tup hbg), fun D3 nD3 => ?_⟩⟩
    refine lcP2 (l := []) (walk_zipT (xs := gs) (ys := ws) (n := m - 1) (by omega) (by omega) (.inl (by omega))) (fun _ _ => True) (fun i v H' => RowT H' v (n - 1) (fun j => gnF f i j + gnF h i j)) nD3 lq_nil (by omega) (lcs_row (f := fun i j => gnF f i j + gnF h i j) fun _ _ _ h => h) trivial (fun j H' x _ => ⟨SqT.of ((g67.trans x).tup (G15.tup hag)), SqT.of ((g67.trans x).tup hbg)⟩) ?_ ?_
    · intro i x y H8 H9 hi g8 _ ex ey gT
      exact ⟨rfl, fun Q' q' => ⟨_, rfl, _, rfl, x, y, n - 1, _, _, rfl, ((g67.trans g8).trans gT).row (G15.row (hgk i x ex)), ((g67.trans g8).trans gT).row (hwk i y ey), by omega, fun u H10 g10 hu => q' _ _ g10 trivial hu⟩⟩
    intro H8 acc8 g8 _ hA8 hl8 hv8
    refine ⟨D3, _, rfl, .inl ⟨SqL.of hA8, fun p3 np3 => ⟨(show 3 ≤ sizeLine by decide), fun d nd => ?_⟩⟩⟩
    have gd := (g8.snew np3 (o := .tup acc8)).snew nd (o := .tup [u6, u7, .ref p3])
    have hdue : PartsT (upd (upd H8 p3 (.tup acc8)) d (.tup [u6, u7, .ref p3])) (.ref d) m n (fun i j => f i j + h i j) := by
      refine ⟨d, u6, u7, .ref p3, rfl, upd_same, (g7.trans gd).row hs1, (gd.row hs2).congr fun j _ => ?_, (go_new nd).tab ((tab_new (f := fun i j => gnF f i j + gnF h i j) hl8 hv8 np3).congr fun i j _ _ => (gnF_add f h i j).symm)⟩
      show f 0 (j + 1) - f 0 0 + (h 0 (j + 1) - h 0 0) = f 0 (j + 1) + h 0 (j + 1) - (f 0 0 + h 0 0)
      omega
    have bfh : Bd 1000000000000000000000 m n (fun i j => f i j + h i j) := bd_add hb hbo (by decide)
    have g5d := g67.trans gd
    have G6 := G5.trans (g5d.up F5.lq)
    have F6 := F5.keep g5d
    have htd := G6.tab ht
    have hod := (g5.trans g5d).tab hto
    have hvgd := g5d.tab (G15.tab hvg)
    refine ⟨_, rfl, _, rfl, .ref p, .ref po, m, n, f, h, rfl, htd, hod, hT, fun u9 H9 g9 h9 => ⟨u9, m, n, _, rfl, h9, hT, fun u10 H10 g10 hP10 => ?_⟩⟩
    have r1 := parts_rep (K := K) hP10 hT bfh
    have r2 := parts_rep (K := K) ((g9.trans g10).parts hdue) hT bfh
    obtain ⟨pr, _, _, _, rfl, _⟩ := id hP10
    refine ⟨pr, _, rfl, r1.1, r1.2.1, r1.2.2.1, r1.2.2.2.1, r1.2.2.2.2, _, rfl, d, _, rfl, r2.1, r2.2.1, r2.2.2.1, r2.2.2.2.1, r2.2.2.2.2, rfl, _, rfl, ?_⟩
    rw [decide_eq_true rfl]
    refine iteF ?_
    have g10' := g9.trans g10
    refine ⟨_, rfl, .ref d, m, n, _, rfl, g10'.parts hdue, hT, fun u11 H11 g11 hb1 => ⟨_, rfl, _, rfl, .ref p, .ref po, m, n, f, h, rfl, (g10'.trans g11).tab htd, (g10'.trans g11).tab hod, hT, fun u12 H12 g12 hb2 => ?_⟩⟩
    refine ⟨_, _, (g12.tab hb1).dp, hb2.dp, (good_tab m n _).shaped (by decide), (good_tab m n _).shaped (by decide), ?_⟩
    rw [(good_tab m n _).refl]
    refine ⟨_, rfl, iteF ?_⟩
    have g12' := (g10'.trans g11).trans g12
    have G7 := G6.trans (g12'.up F6.lq)
    have F7 := F6.keep g12'
    refine cp [some (.ref a), some (.ref p), some vl, some vt, some (.ref ag), some (.int size), some (.ref po), some wl, some wt, some (.ref bg), some (.ref d), none, none, none, none, none, none, none] rfl ?_
    refine ⟨_, rfl, p, rfl, ⟨_, SqT.of (G7.tup hp)⟩, fun D4 nD4 => ?_⟩
    refine lcN (l := [a]) (walk_tup (xs := vs)) (fun i H' => Fd H' a (k + 100 + i)) (fun _ v _ => ∃ z : Int, v = .int z ∧ True) nD4 F7.lq (by omega) (lcs_val fun i H o h => h.upd (F7.ne nD4)) F7 (fun i H' g _ => SqT.of ((G7.trans g).tup hp)) ?_ ?_
    · rintro c x H13 H14 hi g13 F13 ⟨rfl, hx⟩
      exact ⟨rfl, fun Q' q' => ⟨_, rfl, a, 99, k + 100 + c, rfl, F13, by omega, by decide, by decide, fun r H15 g15 F15 r0 r1 => ⟨_, _, rfl, rfl, q' _ _ g15 F15 ⟨_, rfl, trivial⟩⟩⟩⟩
    intro H13 acc13 g13 F13 hA13 hl13 hv13
    obtain ⟨rr, rfl, _⟩ := ints_ex (R := fun _ _ => True) (hl13.trans hl) hv13
    refine ⟨D4, _, rfl, .inl ⟨SqL.of hA13, fun pr2 npr2 => ?_⟩⟩
    have G8 := (G7.trans g13).snew npr2 (o := .tup (rowV m rr))
    have F8 : Fd (upd H13 pr2 (.tup (rowV m rr))) a (k + 110) := (F13.new npr2).mono (by omega)
    refine ⟨_, rfl, p, vs, 0, .ref b0, rfl, rfl, SqT.of (G8.tup hp), atI_nat hx0, b0, rfl, ⟨_, SqT.of (G8.tup hb0)⟩, fun D5 nD5 => ?_⟩
    refine lcN (l := [a]) (walk_tup (xs := rowV n (f 0))) (fun i H' => Fd H' a (k + 110 + i)) (fun _ v _ => ∃ z : Int, v = .int z ∧ True) nD5 F8.lq (by rw [rowV_len]; omega) (lcs_val fun i H o h => h.upd (F8.ne nD5)) F8 (fun i H' g _ => SqT.of ((G8.trans g).tup hb0)) ?_ ?_
    · rintro c x H14 H15 hi g14 F14 ⟨rfl, hx⟩
      rw [rowV_len] at hi
      exact ⟨rfl, fun Q' q' => ⟨_, rfl, a, 99, k + 110 + c, rfl, F14, by omega, by decide, by decide, fun r H15 g15 F15 r0 r1 => ⟨_, _, rfl, rfl, q' _ _ g15 F15 ⟨_, rfl, trivial⟩⟩⟩⟩
    intro H14 acc14 g14 F14 hA14 hl14 hv14
    obtain ⟨cc, rfl, _⟩ := ints_ex (R := fun _ _ => True) (hl14.trans (rowV_len _ _)) hv14
    refine ⟨D5, _, rfl, .inl ⟨SqL.of hA14, fun pc npc => ⟨_, _, rfl, ?_⟩⟩⟩
    rw [rowV_len] at F14
    have g15 := g14.snew npc (o := .tup (rowV n cc))
    have G9 := G8.trans g15
    have F9 : Fd (upd H14 pc (.tup (rowV n cc))) a (k + 120) := (F14.new npc).mono (by omega)
    have hrr : RowT (upd H14 pc (.tup (rowV n cc))) (.ref pr2) m rr := g15.row row_new
    refine cp [some (.ref a), some (.ref p), some vl, some vt, some (.ref ag), some (.int size), some (.ref po), some wl, some wt, some (.ref bg), some (.ref d), some (.ref pr2), some (.ref pc), none, none, none, none, none] rfl ?_
    refine ⟨_, rfl, _, rfl, _, rfl, .ref p, .ref pr2, .ref pc, m, n, f, rr, cc, rfl, G9.tab ht, hrr, row_new, hT, fun u16 H16 g16 h16 => ⟨u16, m, n, _, rfl, h16, hT, fun u17 H17 g17 hP17 => ?_⟩⟩
    have g17' := g16.trans g17
    have F17 := F9.keep g17'
    have G17 := G9.trans (g17'.up F9.lq)
    have hvg17 := g17'.tab (g15.tab ((g13.snew npr2 (o := .tup (rowV m rr))).tab (g12'.tab hvgd)))
    obtain ⟨pz, z1, z2, z3, rfl, hpz, _, _, hz3⟩ := id hP17
    refine ⟨pz, _, 2, z3, rfl, rfl, SqT.of hpz, atI_nat (j := 2) rfl, _, rfl, ?_⟩
    refine ⟨_, _, (hz3.congr fun i j _ _ => gnF_lift f rr cc i j).dp, hvg17.dp, (good_tab _ _ _).shaped (by decide), (good_tab _ _ _).shaped (by decide), ?_⟩
    rw [(good_tab _ _ _).refl]
    refine ⟨_, rfl, iteF ?_⟩
    refine ⟨_, rfl, (show 4 ≤ sizeLine by decide), fun L2 nL2 => ?_⟩
    have gL2 := Go.new F17.lq nL2 (o := .lst [.int 0, .int 1, .int 2, .int 7])
    refine ⟨a, L2, _, k + 120, rfl, F17.new nL2, by omega, upd_same, fun z => F17.ne nL2 z.symm, by decide, by decide, fun x H18 g18 F18 hx => ?_⟩
    obtain ⟨t, rfl, t0, t1⟩ : ∃ z : Int, x = .int z ∧ 0 ≤ z ∧ z ≤ 7 := by
      rcases List.mem_cons.mp hx with rfl | hx
      · exact ⟨_, rfl, by decide, by decide⟩
      rcases List.mem_cons.mp hx with rfl | hx
      · exact ⟨_, rfl, by decide, by decide⟩
      rcases List.mem_cons.mp hx with rfl | hx
      · exact ⟨_, rfl, by decide, by decide⟩
      rcases List.mem_cons.mp hx with rfl | hx
      · exact ⟨_, rfl, by decide, by decide⟩
      cases hx
    have g18' := gL2.trans g18
    have G18 := G17.trans g18'
    refine ⟨_, rfl, _, rfl, .ref p, m, n, f, t, rfl, G18.tab ht, hT, by omega, by omega, fun u19 H19 g19 h19 => ⟨u19, m, n, _, rfl, h19, hT, fun u20 H20 g20 hP20 => ?_⟩⟩
    obtain ⟨py, y1, y2, y3, rfl, hpy, _, _, hy3⟩ := id hP20
    refine ⟨py, _, 2, y3, rfl, rfl, SqT.of hpy, atI_nat (j := 2) rfl, ?_⟩
    have g20' := g19.trans g20
    have hvg20 := g20'.tab (g18'.tab hvg17)
    obtain ⟨ag', gs2, e0, hag2, hgl2, hgk2⟩ := id hvg20
    cases e0
    refine ⟨_, rfl, ag, rfl, ⟨_, SqT.of hag2⟩, fun D6 nD6 => ?_⟩
    refine lcN (l := []) (walk_tup (xs := gs2)) (fun _ _ => True) (fun i v H' => RowT H' v (n - 1) (fun j => t * gnF f i j)) nD6 lq_nil (by omega) (lcs_row (f := fun i j => t * gnF f i j) fun _ _ _ h => h) trivial (fun i H' g _ => SqT.of (g.tup hag2)) ?_ ?_
    · rintro i x H21 H22 hi g21 _ ⟨rfl, hx⟩
      obtain ⟨b, rfl, hbb⟩ := hgk2 i x hx
      refine ⟨rfl, fun Q' q' => ⟨_, rfl, b, rfl, ⟨_, SqT.of (g21.tup hbb)⟩, fun D7 nD7 => ?_⟩⟩
      refine lcN (l := []) (walk_tup (xs := rowV (n - 1) (gnF f i))) (fun _ _ => True) (fun j v _ => v = .int (t * gnF f i j)) nD7 lq_nil (by rw [rowV_len]; omega) (lcs_val fun _ _ _ h => h) trivial (fun i H' g _ => SqT.of ((g21.trans g).tup hbb)) ?_ ?_
      · rintro j x H23 H24 hj g23 _ ⟨rfl, hx⟩
        obtain ⟨_, rfl⟩ := rowV_at hx
        exact ⟨rfl, fun Q2 q2 => ⟨_, rfl, _, rfl, _, _, rfl, rfl, .inl ⟨by omega, by omega⟩, q2 _ _ (Go.refl lq_nil) trivial rfl⟩⟩
      · intro H23 acc23 g23 _ hB hl23 hv23
        have e := rowV_of (hl23.trans (rowV_len _ _)) hv23
        subst e
        exact ⟨D7, _, rfl, .inl ⟨SqL.of hB, fun p7 np7 => q' _ _ (g23.snew np7) trivial row_new⟩⟩
    intro H21 acc21 g21 _ hA21 hl21 hv21
    refine ⟨D6, _, rfl, .inl ⟨SqL.of hA21, fun p6 np6 => ?_⟩⟩
    have ht6 : TabT (upd H21 p6 (.tup acc21)) (.ref p6) (m - 1) (n - 1) (fun i j => t * gnF f i j) := tab_new (f := fun i j => t * gnF f i j) (hl21.trans hgl2) hv21 np6
    have g26 := g21.snew np6 (o := .tup acc21)
    refine ⟨_, _, (g26.tab (hy3.congr fun i j _ _ => gnF_scale f t i j)).dp, ht6.dp, (good_tab _ _ _).shaped (by decide), (good_tab _ _ _).shaped (by decide), ?_⟩
    rw [(good_tab _ _ _).refl]
    have g2z := g20'.trans g26
    exact q _ ((G18.trans (g2z.up F18.lq))) ((F18.keep g2z).mono (by omega))

theorem sc_rooms : FnScope ["table"] ["table"] (defScope s_rooms) := ⟨rfl, rfl, rfl, by decide +kernel, rfl, by decide +kernel, by decide +kernel⟩
theorem ok_rooms (D : DefP K mg "rooms" s_rooms) (C_need_straight : Cal P w K mg base 6 "need_straight" ["table"] (sp_need_straight)) (C_rooms_of : Cal P w K mg base 4 "rooms_of" ["table"] (sp_rooms_of)) : Cal P w K mg base 7 "rooms" ["table"] (sp_rooms) := by
  refine cal_mk (k := 6) D sc_rooms (fun vs H Q E h => ?_) (fun _ _ _ _ _ _ us hl => match us, hl with | [_], _ => rfl) (fun f cdv A outer s H vs Q hgd hr h => ?_)
  · obtain ⟨v, m, n, f, rfl, _⟩ := h; rfl
  · obtain ⟨v, m, n, f, rfl, ht, hT, hS, q⟩ := h
    refine ⟨_, (pss_cons (ps_expr (pe_cal C_need_straight hgd hr (pa_cons (pv 0) pa_nil)))
      (pss_one (ps_ret (pe_cal C_rooms_of hgd hr (pa_cons (pv 0) pa_nil))))), ?_⟩
    refine ⟨_, rfl, v, m, n, f, rfl, ht, hT, hS, fun H1 g1 => ?_⟩
    exact ⟨_, rfl, v, m, n, f, rfl, g1.tab ht, hT, fun u H4 g6 hu => q u H4 (g1.trans g6) hu⟩

theorem sc_l_turned_right : FnScope ["_law_feed_here", "_law_table_here", "_law_left", "_law_top", "_law_gains", "_law_sides", "_law_high", "_law_lines", "_law_rows", "_law_columns", "_law_due", "_law_row", "_law_other", "_law_at", "_law_line", "_law_one_here", "_law_column", "_law_last"] ["_law_feed_here", "_law_table_here"] (defScope s_l_turned_right) := ⟨rfl, rfl, rfl, by decide +kernel, rfl, by decide +kernel, by decide +kernel⟩
theorem ok_l_turned_right (D : DefP K mg "_law_turned_right" s_l_turned_right) (C_parts : Cal P w K mg base 5 "parts" ["table"] (sp_parts)) (C_turned : Cal P w K mg base 5 "turned" ["table"] (sp_turned)) (C_mirrored : Cal P w K mg base 5 "mirrored" ["table"] (sp_mirrored)) (C_l_some : Cal P w K mg base 2 "_law_some" ["_law_feed_here", "_law_many"] (sp_l_some)) (C_gain : Cal P w K mg base 5 "gain" ["table", "row", "other", "column", "last"] (sp_gain)) (C_thinned : Cal P w K mg base 6 "thinned" ["table", "rows", "columns"] (sp_thinned)) (m_tuple : mg "tuple" = none) (m_range : mg "range" = none) (m_len : mg "len" = none) (m_list : mg "list" = none) (m_zip : mg "zip" = none) : Cal P w K mg base 7 "_law_turned_right" ["_law_feed_here", "_law_table_here"] (sp_l_turned_right) := by
  refine cal_mk (k := 6) D sc_l_turned_right (fun vs H Q E h => ?_) (fun _ _ _ _ _ _ us hl => match us, hl with | [_, _], _ => rfl) (fun f cdv A outer s H vs Q hgd hr h => ?_)
  · obtain ⟨a, k, v, m, n, f, rfl, _⟩ := h; rfl
  · obtain ⟨a, k, v, m, n, f, rfl, F, hk, ht, hT, q⟩ := h
    refine ⟨_, (pss_cons (ps_asg (pe_cal C_parts hgd hr (pa_cons (pv 1) pa_nil)) (pg_tupK K (n := 3) rfl (pgs_cons (pg_name (i := 2) sc_l_turned_right.nd rfl (Or.inr rfl)) (pgs_cons (pg_name (i := 3) sc_l_turned_right.nd rfl (Or.inl rfl)) (pgs_cons (pg_name (i := 4) sc_l_turned_right.nd rfl (Or.inr rfl)) pgs_nil)))))
      (pss_cons (ps_asg (pe_cal C_parts hgd hr (pa_cons (pe_cal C_turned hgd hr (pa_cons (pv 1) pa_nil)) pa_nil)) (pg_tupK K (n := 3) rfl (pgs_cons (pg_name (i := 5) sc_l_turned_right.nd rfl (Or.inl rfl)) (pgs_cons (pg_name (i := 6) sc_l_turned_right.nd rfl (Or.inl rfl)) (pgs_cons (pg_name (i := 7) sc_l_turned_right.nd rfl (Or.inl rfl)) pgs_nil)))))
      (pss_cons (ps_if (pt_cmpR (op_neDK K hr.units) (pv 7) (pe_callTy (call_tuple_ofK K) (by rfl) m_tuple b_tuple (pa_cons (pe_lc (own := [("_law_at", 13)]) rfl sc_l_turned_right.nd (pi_range1 (by rfl) m_range (pa_cons (pe_callB (call_lenK K) (by rfl) m_len b_len (pa_cons (pv 3) pa_nil)) pa_nil)) (blkOk_by (by kernel_rfl)) (fun _ _ _ _ _ => (pg_name (i := 13) sc_l_turned_right.nd rfl (Or.inr rfl))) (fun _ _ _ _ _ => pts_nil) (fun _ _ _ _ _ => (pe_callTy (call_tuple_ofK K) (by rfl) m_tuple b_tuple (pa_cons (pe_lc (own := [("_law_line", 14)]) rfl sc_l_turned_right.nd (pi_tupK K (pv 4)) (blkOk_by (by kernel_rfl)) (fun _ _ _ _ _ => (pg_name (i := 14) sc_l_turned_right.nd rfl (Or.inl rfl))) (fun _ _ _ _ _ => pts_nil) (fun _ _ _ _ _ => (pe_ix (ix_tupK K) (pv 14) (pv 13) (fun _ _ => rfl)))) pa_nil)))) pa_nil)) (nomark _)) (pss_one (ps_ret pe_bl)) pss_nil)
      (pss_cons (ps_if (PW.pt (pw_or (pt_cmpR (op_neDK K hr.units) (pe_callTy (call_list_ofK K) (by rfl) m_list b_list (pa_cons (pv 5) pa_nil)) (pe_op op_cat (pe_lst (pa_cons (pe_ix (ix_tupK K) (pv 2) pe_int (fun _ _ => rfl)) pa_nil)) (pe_lc (own := [("_law_one_here", 15)]) rfl sc_l_turned_right.nd (pi_tupK K (pv 3)) (blkOk_by (by kernel_rfl)) (fun _ _ _ _ _ => (pg_name (i := 15) sc_l_turned_right.nd rfl (Or.inl rfl))) (fun _ _ _ _ _ => pts_nil) (fun _ _ _ _ _ => (pe_op op_add (pe_ix (ix_tupK K) (pv 2) pe_int (fun _ _ => rfl)) (pv 15))))) (nomark _)) (pw_or1 (pt_cmpR (op_neDK K hr.units) (pe_callTy (call_list_ofK K) (by rfl) m_list b_list (pa_cons (pv 6) pa_nil)) (pe_lc (own := [("_law_one_here", 15)]) rfl sc_l_turned_right.nd (pi_tupK K (pe_slice (sl_tupK K) (pv 2) (po_some pe_int) po_none)) (blkOk_by (by kernel_rfl)) (fun _ _ _ _ _ => (pg_name (i := 15) sc_l_turned_right.nd rfl (Or.inl rfl))) (fun _ _ _ _ _ => pts_nil) (fun _ _ _ _ _ => (pe_op op_sub (pv 15) (pe_ix (ix_tupK K) (pv 2) pe_int (fun _ _ => rfl))))) (nomark _))))) (pss_one (ps_ret pe_bl)) pss_nil)
      (pss_cons (ps_if (pt_cmpR (op_neDK K hr.units) (pe_ix (ix_tupK K) (pe_cal C_parts hgd hr (pa_cons (pe_cal C_mirrored hgd hr (pa_cons (pv 1) pa_nil)) pa_nil)) pe_int (fun _ _ => rfl)) (pe_callTy (call_tuple_ofK K) (by rfl) m_tuple b_tuple (pa_cons (pe_lc (own := [("_law_line", 14)]) rfl sc_l_turned_right.nd (pi_tupK K (pe_revTK K (pv 4))) (blkOk_by (by kernel_rfl)) (fun _ _ _ _ _ => (pg_name (i := 14) sc_l_turned_right.nd rfl (Or.inl rfl))) (fun _ _ _ _ _ => pts_nil) (fun _ _ _ _ _ => (pe_callTy (call_tuple_ofK K) (by rfl) m_tuple b_tuple (pa_cons (pe_lc (own := [("_law_one_here", 15)]) rfl sc_l_turned_right.nd (pi_tupK K (pv 14)) (blkOk_by (by kernel_rfl)) (fun _ _ _ _ _ => (pg_name (i := 15) sc_l_turned_right.nd rfl (Or.inl rfl))) (fun _ _ _ _ _ => pts_nil) (fun _ _ _ _ _ => (pe_un un_neg (pv 15)))) pa_nil)))) pa_nil)) (nomark _)) (pss_one (ps_ret pe_bl)) pss_nil)
      (pss_cons (ps_par (by rfl) sc_l_turned_right.nd (i := 8) (j := 9) rfl rfl (by decide) rfl rfl (pa_cons (pe_cal C_l_some hgd hr (pa_cons (pv 0) (pa_cons (pe_callB (call_lenK K) (by rfl) m_len b_len (pa_cons (pv 1) pa_nil)) pa_nil))) (pa_cons (pe_cal C_l_some hgd hr (pa_cons (pv 0) (pa_cons (pe_callB (call_lenK K) (by rfl) m_len b_len (pa_cons (pe_ix (ix_tupK K) (pv 1) pe_int (fun _ _ => rfl)) pa_nil)) pa_nil))) pa_nil)) (by rfl))
      (pss_cons (ps_set (i := 10) sc_l_turned_right.nd rfl (Or.inl rfl) (pe_lst pa_nil))
      (pss_cons (ps_for PassesOwn.never rfl (pi_zipK K (by rfl) m_zip (pa_cons (pv 8) (pa_cons (pe_slice (sl_tupK K) (pv 8) (po_some pe_int) po_none) pa_nil))) (pg_tupK K (n := 2) rfl (pgs_cons (pg_name (i := 11) sc_l_turned_right.nd rfl (Or.inr rfl)) (pgs_cons (pg_name (i := 12) sc_l_turned_right.nd rfl (Or.inr rfl)) pgs_nil))) (pss_one (ps_expr (pe_bm PySem.F.plainAttrs_list PySem.F.slot_list_append PySem.F.type_list_append mt_append (pv 10) (pa_cons (pe_callTy (call_tuple_ofK K) (by rfl) m_tuple b_tuple (pa_cons (pe_lc (own := [("_law_column", 16), ("_law_last", 17)]) rfl sc_l_turned_right.nd (pi_zipK K (by rfl) m_zip (pa_cons (pv 9) (pa_cons (pe_slice (sl_tupK K) (pv 9) (po_some pe_int) po_none) pa_nil))) (blkOk_by (by kernel_rfl)) (fun _ _ _ _ _ => (pg_tupK K (n := 2) rfl (pgs_cons (pg_name (i := 16) sc_l_turned_right.nd rfl (Or.inl rfl)) (pgs_cons (pg_name (i := 17) sc_l_turned_right.nd rfl (Or.inl rfl)) pgs_nil)))) (fun _ _ _ _ _ => pts_nil) (fun _ _ _ _ _ => (pe_cal C_gain hgd hr (pa_cons (pv 1) (pa_cons (pv 11) (pa_cons (pv 12) (pa_cons (pv 16) (pa_cons (pv 17) pa_nil)))))))) pa_nil)) pa_nil)))))
      (pss_one (ps_ret (pe_cmpR (op_eqDK K hr.units) (pe_ix (ix_tupK K) (pe_cal C_parts hgd hr (pa_cons (pe_cal C_thinned hgd hr (pa_cons (pv 1) (pa_cons (pv 8) (pa_cons (pv 9) pa_nil)))) pa_nil)) pe_int (fun _ _ => rfl)) (pe_callTy (call_tuple_ofK K) (by rfl) m_tuple b_tuple (pa_cons (pv 10) pa_nil)) (nomark _)))))))))))), ?_⟩
    have h1 := hT.m1
    have h2 := hT.m8
    have h3 := hT.n1
    have h4 := hT.n8
    have hT' : TabOk n m := ⟨h3, h4, h1, h2⟩
    obtain ⟨p, vs, rfl, hp, hl, hkk⟩ := id ht
    obtain ⟨vs', x0, hp', _, hx0, b0, rfl, hb0⟩ := ht.at_ (i := 0) h1
    rw [hp] at hp'
    cases hp'
    refine ⟨_, rfl, .ref p, m, n, f, rfl, ht, hT, fun u H1 g1 hP => ?_⟩
    obtain ⟨pp, vl, vt, vg, rfl, hpp, ⟨al, rfl, hal⟩, ⟨at_, rfl, hat⟩, hvg⟩ := id hP
    refine ⟨pp, _, rfl, SqT.of hpp, rfl, _, _, rfl, _, _, rfl, _, [], rfl, rfl, ?_⟩
    refine ⟨_, rfl, .ref p, m, n, f, rfl, g1.tab ht, hT, fun u2 H2 g2 hu2 => ⟨u2, n, m, _, rfl, hu2, hT', fun u3 H3 g3 hP3 => ?_⟩⟩
    obtain ⟨pq, wl, wt, wg, rfl, hpq, ⟨bl, rfl, hbl⟩, ⟨bt, rfl, hbt⟩, hwg⟩ := id hP3
    refine ⟨pq, _, rfl, SqT.of hpq, rfl, _, _, rfl, _, _, rfl, _, [], rfl, rfl, ?_⟩
    have g23 := g2.trans g3
    have g13 := g1.trans g23
    obtain ⟨ag, gs, rfl, hag, hgl, hgk⟩ := id (g23.tab hvg)
    refine cp [some (.ref a), some (.ref p), some (.ref al), some (.ref at_), some (.ref ag), some (.ref bl), some (.ref bt), some wg, none, none, none, none, none, none, none, none, none, none] rfl ?_
    refine ⟨_, rfl, _, rfl, at_, _, rfl, .inr (SqT.of (g23.tup hat)), _, rfl, by rw [rowV_len]; omega, by rw [rowV_len]; omega, fun D nD => ?_⟩
    rw [rowV_len, Int.toNat_natCast]
    refine lcN (l := []) walk_range0 (fun _ _ => True) (fun j v H' => RowT H' v (m - 1) (fun i => gnF f i j)) nD lq_nil (by omega) (lcs_row (f := fun j i => gnF f i j) fun _ _ _ h => h) trivial (fun _ _ _ _ => trivial) ?_ ?_
    · rintro j x H4 H5 hj g4 _ ⟨rfl, rfl⟩
      refine ⟨rfl, fun Q' q' => ⟨_, rfl, ag, rfl, ⟨_, SqT.of (g4.tup hag)⟩, fun D2 nD2 => ?_⟩⟩
      refine lcN (l := []) (walk_tup (xs := gs)) (fun _ _ => True) (fun i v _ => v = .int (gnF f i j)) nD2 lq_nil (by omega) (lcs_val fun _ _ _ h => h) trivial (fun i H' g _ => SqT.of ((g4.trans g).tup hag)) ?_ ?_
      · rintro i x H6 H7 hi g6 _ ⟨rfl, hx⟩
        obtain ⟨b, rfl, hbb⟩ := hgk i x hx
        exact ⟨rfl, fun Q2 q2 => ⟨_, rfl, _, rfl, b, _, j, _, rfl, rfl, SqT.of ((g4.trans g6).tup hbb), atI_nat (rowV_get hj), q2 _ _ (Go.refl lq_nil) trivial rfl⟩⟩
      · intro H6 acc6 g6 _ hB hl6 hv6
        have e := rowV_of (hl6.trans hgl) hv6
        subst e
        exact ⟨D2, _, rfl, .inl ⟨SqL.of hB, fun p7 np7 => q' _ _ (g6.snew np7) trivial row_new⟩⟩
    intro H4 acc4 g4 _ hA4 hl4 hv4
    refine ⟨D, _, rfl, .inl ⟨SqL.of hA4, fun p4 np4 => ?_⟩⟩
    have hr4 : TabT (upd H4 p4 (.tup acc4)) (.ref p4) (n - 1) (m - 1) (fun j i => gnF f i j) := tab_new (f := fun j i => gnF f i j) hl4 hv4 np4
    have g44 := g4.snew np4 (o := .tup acc4)
    refine ⟨_, _, (g44.tab (hwg.congr fun j i _ _ => gnF_turn f i j)).dp, hr4.dp, (good_tab _ _ _).shaped (by decide), (good_tab _ _ _).shaped (by decide), ?_⟩
    rw [(good_tab _ _ _).refl]
    refine ⟨_, rfl, iteF ?_⟩
    -- sides
    have hal5 := (g23.trans g44).tup hal
    have hat5 := (g23.trans g44).tup hat
    have atl : atI (rowV m (fun i => f i 0)) 0 = some (.int (f 0 0)) := atI_nat (rowV_get (j := 0) h1)
    refine ⟨_, rfl, bl, _, rfl, .inr (SqT.of (g44.tup hbl)), fun L nL => ?_⟩
    have gL := go_new nL (o := .lst (rowV n (fun j => f 0 j)))
    refine ⟨_, rfl, al, _, 0, _, rfl, rfl, SqT.of (gL.tup hal5), atl, (show 1 ≤ sizeLine by decide), fun L1 nL1 => ?_⟩
    have gL1 := go_new nL1 (o := .lst [.int (f 0 0)])
    have gLL := gL.trans gL1
    refine ⟨_, rfl, at_, rfl, ⟨_, SqT.of (gLL.tup hat5)⟩, fun D3 nD3 => ?_⟩
    refine lcN (l := []) (walk_tup (xs := rowV (n - 1) (fun j => f 0 (j + 1) - f 0 0))) (fun _ _ => True) (fun j v _ => v = .int (f 0 (j + 1))) nD3 lq_nil (by rw [rowV_len]; omega) (lcs_val fun _ _ _ h => h) trivial (fun i H' g _ => SqT.of ((gLL.trans g).tup hat5)) ?_ ?_
    · rintro j x H6 H7 hj g6 _ ⟨rfl, hx⟩
      obtain ⟨_, rfl⟩ := rowV_at hx
      refine ⟨rfl, fun Q2 q2 => ⟨_, rfl, al, _, 0, _, rfl, rfl, SqT.of ((gLL.trans g6).tup hal5), atl, _, rfl, _, _, rfl, rfl, q2 _ _ (Go.refl lq_nil) trivial (congrArg V.int ?_)⟩⟩
      omega
    intro H6 acc6 g6 _ hB6 hl6 hv6
    have e6 := rowV_of (hl6.trans (rowV_len _ _)) hv6
    subst e6
    have hL16 := g6.keep List.not_mem_nil (upd_same : upd _ L1 _ L1 = _)
    refine ⟨L1, D3, _, _, rfl, rfl, hL16, hB6, ?_, fun C nC => ?_⟩
    · refine Nat.le_of_lt (small1000 ?_)
      rw [rowV_len]
      show 1 + _ ≤ _
      omega
    have e7 := row_cons (n := n) (k := fun j => f 0 j) h3
    have gC := go_new nC (o := .lst ([.int (f 0 0)] ++ rowV (n - 1) (fun j => f 0 (j + 1))))
    have g45 := (gLL.trans g6).trans gC
    refine ⟨rowLD n (fun j => f 0 j), rowLD n (fun j => f 0 j), RowL.dp ⟨L, rfl, ((gL1.trans g6).trans gC).keep List.not_mem_nil upd_same⟩, RowL.dp ⟨C, rfl, by rw [upd_same, ← e7]⟩, (good_rowL _ _).shaped (by decide), (good_rowL _ _).shaped (by decide), ?_⟩
    rw [(good_rowL _ _).refl]
    refine ⟨_, rfl, iteF ?_⟩
    have hal6 := g45.tup hal5
    refine ⟨_, rfl, bt, _, rfl, .inr (SqT.of ((g44.trans g45).tup hbt)), fun L2 nL2 => ?_⟩
    have gL2 := go_new nL2 (o := .lst (rowV (m - 1) (fun i => f (i + 1) 0 - f 0 0)))
    refine ⟨_, rfl, 1, rfl, ?_⟩
    unfold tNoPart
    refine slice_one (gL2.tup hal6) h1 fun p5 np5 => ?_
    have gp5 := go_new np5 (o := .tup (rowV (m - 1) (fun i => f (i + 1) 0)))
    have gL5 := gL2.trans gp5
    refine ⟨p5, rfl, ⟨_, SqT.of upd_same⟩, fun D4 nD4 => ?_⟩
    refine lcN (l := []) (walk_tup (xs := rowV (m - 1) (fun i => f (i + 1) 0))) (fun _ _ => True) (fun i v _ => v = .int (f (i + 1) 0 - f 0 0)) nD4 lq_nil (by rw [rowV_len]; omega) (lcs_val fun _ _ _ h => h) trivial (fun i H' g _ => SqT.of (g.tup upd_same)) ?_ ?_
    · rintro j x H7 H8 hj g7 _ ⟨rfl, hx⟩
      obtain ⟨_, rfl⟩ := rowV_at hx
      exact ⟨rfl, fun Q2 q2 => ⟨_, rfl, _, rfl, al, _, 0, _, rfl, rfl, SqT.of ((gL5.trans g7).tup hal6), atl, _, _, rfl, rfl, q2 _ _ (Go.refl lq_nil) trivial rfl⟩⟩
    intro H7 acc7 g7 _ hB7 hl7 hv7
    have e8 := rowV_of (hl7.trans (rowV_len _ _)) hv7
    subst e8
    refine ⟨rowLD (m - 1) (fun i => f (i + 1) 0 - f 0 0), rowLD (m - 1) (fun i => f (i + 1) 0 - f 0 0), RowL.dp ⟨L2, rfl, (gp5.trans g7).keep List.not_mem_nil upd_same⟩, RowL.dp ⟨D4, rfl, hB7⟩, (good_rowL _ _).shaped (by decide), (good_rowL _ _).shaped (by decide), ?_⟩
    rw [(good_rowL _ _).refl]
    refine ⟨_, rfl, iteF ?_⟩
    have g47 := (g44.trans g45).trans (gL5.trans g7)
    have g17 := g13.trans g47
    -- mirrored
    refine ⟨_, rfl, .ref p, m, n, f, rfl, g17.tab ht, hT, fun u9 H9 g9 h9 => ⟨u9, m, n, _, rfl, h9, hT, fun u10 H10 g10 hP10 => ?_⟩⟩
    obtain ⟨py, y1, y2, y3, rfl, hpy, _, _, hy3⟩ := id hP10
    refine ⟨py, _, 2, y3, rfl, rfl, SqT.of hpy, atI_nat (j := 2) rfl, ?_⟩
    have g910 := g9.trans g10
    have g410 := g47.trans g910
    refine ⟨_, rfl, ag, gs, rfl, SqT.of (g410.tup hag), fun p6 np6 => ?_⟩
    have gp6 := go_new np6 (o := .tup gs.reverse)
    refine ⟨p6, rfl, ⟨_, SqT.of upd_same⟩, fun D5 nD5 => ?_⟩
    refine lcN (l := []) (walk_tup (xs := gs.reverse)) (fun _ _ => True) (fun i v H' => RowT H' v (n - 1) (fun j => -gnF f (m - 1 - 1 - i) j)) nD5 lq_nil (by rw [List.length_reverse]; omega) (lcs_row (f := fun i j => -gnF f (m - 1 - 1 - i) j) fun _ _ _ h => h) trivial (fun i H' g _ => SqT.of (g.tup upd_same)) ?_ ?_
    · rintro i x H11 H12 hi g11 _ ⟨rfl, hx⟩
      rw [List.length_reverse] at hi
      rw [List.getElem?_reverse hi, hgl] at hx
      obtain ⟨b, rfl, hbb⟩ := (g410.trans (gp6.trans g11)).row (hgk _ x hx)
      refine ⟨rfl, fun Q' q' => ⟨_, rfl, b, rfl, ⟨_, SqT.of hbb⟩, fun D6 nD6 => ?_⟩⟩
      refine lcN (l := []) (walk_tup (xs := rowV (n - 1) (gnF f (m - 1 - 1 - i)))) (fun _ _ => True) (fun j v _ => v = .int (-gnF f (m - 1 - 1 - i) j)) nD6 lq_nil (by rw [rowV_len]; omega) (lcs_val fun _ _ _ h => h) trivial (fun i H' g _ => SqT.of (g.tup hbb)) ?_ ?_
      · rintro j x H13 H14 hj g13 _ ⟨rfl, hx⟩
        obtain ⟨_, rfl⟩ := rowV_at hx
        exact ⟨rfl, fun Q2 q2 => ⟨_, rfl, _, rfl, q2 _ _ (Go.refl lq_nil) trivial rfl⟩⟩
      · intro H13 acc13 g13 _ hB hl13 hv13
        have e := rowV_of (hl13.trans (rowV_len _ _)) hv13
        subst e
        exact ⟨D6, _, rfl, .inl ⟨SqL.of hB, fun p7 np7 => q' _ _ (g13.snew np7) trivial row_new⟩⟩
    intro H11 acc11 g11 _ hA11 hl11 hv11
    refine ⟨D5, _, rfl, .inl ⟨SqL.of hA11, fun p7 np7 => ?_⟩⟩
    have hr7 : TabT (upd H11 p7 (.tup acc11)) (.ref p7) (m - 1) (n - 1) (fun i j => -gnF f (m - 1 - 1 - i) j) := tab_new (f := fun i j => -gnF f (m - 1 - 1 - i) j) (hl11.trans (by rw [List.length_reverse, hgl])) hv11 np7
    have g11' := (gp6.trans g11).snew np7 (o := .tup acc11)
    refine ⟨_, _, (g11'.tab (hy3.congr fun i j hi hj => gnF_mir f m i j (by omega))).dp, hr7.dp, (good_tab _ _ _).shaped (by decide), (good_tab _ _ _).shaped (by decide), ?_⟩
    rw [(good_tab _ _ _).refl]
    refine ⟨_, rfl, iteF ?_⟩
    have g111 := g17.trans (g910.trans g11')
    have F11 := F.keep g111
    have G11 := g111.up F.lq
    -- some rows, some columns
    refine ⟨_, rfl, _, rfl, p, vs, rfl, .inr (SqT.of (G11.tup hp)), a, vs.length, k, rfl, F11, by omega, by omega, by omega, fun ur H12 pn r G12 F12 hr => ?_⟩
    refine ⟨_, rfl, _, rfl, p, vs, 0, .ref b0, rfl, rfl, SqT.of ((G11.trans G12).tup hp), atI_nat hx0, b0, _, rfl, .inr (SqT.of ((G11.trans G12).tup hb0)), a, _, k + 20, rfl, F12, by omega, by rw [rowV_len]; omega, by rw [rowV_len]; omega, fun uc H13 qn c G13 F13 hc => ⟨_, _, rfl, ?_⟩⟩
    rw [rowV_len] at hc
    rw [hl] at hr
    refine cp [some (.ref a), some (.ref p), some (.ref al), some (.ref at_), some (.ref ag), some (.ref bl), some (.ref bt), some wg, some ur, some uc, none, none, none, none, none, none, none, none] rfl ?_
    have hr13 := G13.idx hr
    obtain ⟨ar, rfl, har⟩ := hr13.row
    obtain ⟨ac, rfl, hac⟩ := hc.row
    have r1 := hr13.n1
    have r2 := hr13.nc
    have c1 := hc.n1
    have c2 := hc.nc
    have ht13 := ((G11.trans G12).trans G13).tab ht
    refine ⟨Nat.zero_le _, fun E nE => ?_⟩
    have gE := go_new nE (o := .lst [])
    refine ⟨_, rfl, _, rfl, 1, rfl, ?_⟩
    refine slice_one (gE.tup har) r1 fun p8 np8 => ?_
    have gp8 := go_new np8 (o := .tup (rowV (pn - 1) (fun j => (r (j + 1) : Int))))
    have gE8 := gE.trans gp8
    refine ⟨ar, p8, _, _, rfl, .inr ⟨SqT.of (gE8.tup har), SqT.of upd_same, ?_⟩⟩
    refine for_it (walk_zipT (xs := rowV pn (fun j => (r j : Int))) (ys := rowV (pn - 1) (fun j => (r (j + 1) : Int))) (n := pn - 1) (by rw [rowV_len]; omega) (by rw [rowV_len]; exact Nat.le_refl _) (.inr (by rw [rowV_len]; exact Nat.le_refl _))) (fun i σ H' => ∃ y11 y12, σ = [some (.ref a), some (.ref p), some (.ref al), some (.ref at_), some (.ref ag), some (.ref bl), some (.ref bt), some wg, some (.ref ar), some (.ref ac), some (.ref E), y11, y12, none, none, none, none, none] ∧ Go [] H13 H' ∧ H' p8 = some (.tup (rowV (pn - 1) (fun j => (r (j + 1) : Int)))) ∧ AccR H' E i (qn - 1) (gnF (fun i j => f (r i) (c j)))) ⟨_, _, rfl, gE8, upd_same, accR_nil.go gp8 List.not_mem_nil⟩ ?_ ?_ ?_
    · rintro i σ H' _ ⟨y11, y12, rfl, g, e8, _⟩
      exact ⟨SqT.of (g.tup har), SqT.of e8⟩
    · rintro i _ σ H14 _ hi ⟨y11, y12, rfl, g14, e8, hA⟩ ⟨T, x, y, rfl, nT, rfl, ex, ey⟩
      have gT : Go [] H14 (upd H14 T (.tup [x, y])) := go_new nT
      obtain ⟨_, rfl⟩ := rowV_at ex
      obtain ⟨_, rfl⟩ := rowV_at ey
      refine ⟨T, _, rfl, SqT.of upd_same, rfl, _, _, rfl, _, [], rfl, rfl, ?_⟩
      have hAT := hA.go gT List.not_mem_nil
      obtain ⟨acc, hD, hacc, hrow⟩ := id hAT
      have gg := g14.trans gT
      refine ⟨_, rfl, .inl ⟨rfl, _, SqL.of hD⟩, ?_⟩
      refine ⟨_, rfl, _, rfl, 1, rfl, ?_⟩
      refine slice_one (gg.tup hac) c1 fun p9 np9 => ?_
      have gp9 := go_new np9 (o := .tup (rowV (qn - 1) (fun j => (c (j + 1) : Int))))
      refine ⟨ac, p9, rowV qn (fun j => (c j : Int)), rowV (qn - 1) (fun j => (c (j + 1) : Int)), rfl, .inr ⟨SqT.of ((gg.trans gp9).tup hac), SqT.of upd_same, fun D8 nD8 => ?_⟩⟩
      refine lcP2 (l := []) (walk_zipT (xs := rowV qn (fun j => (c j : Int))) (ys := rowV (qn - 1) (fun j => (c (j + 1) : Int))) (n := qn - 1) (by rw [rowV_len]; omega) (by rw [rowV_len]; exact Nat.le_refl _) (.inr (by rw [rowV_len]; exact Nat.le_refl _))) (fun _ _ => True) (fun j v _ => v = .int (gnF (fun i j => f (r i) (c j)) i j)) nD8 lq_nil (by omega) (lcs_val fun _ _ _ h => h) trivial (fun j H' x _ => ⟨SqT.of (((gg.trans gp9).trans x).tup hac), SqT.of (x.tup upd_same)⟩) ?_ ?_
      · intro j x y H15 H16 hj g15 _ ex ey gT2
        obtain ⟨_, rfl⟩ := rowV_at ex
        obtain ⟨_, rfl⟩ := rowV_at ey
        have u1 := hr13.up i (by omega)
        have u2 := hr13.lt (i + 1) (by omega)
        have u3 := hc.up j (by omega)
        have u4 := hc.lt (j + 1) (by omega)
        exact ⟨rfl, fun Q' q' => ⟨_, rfl, _, rfl, _, rfl, _, rfl, _, rfl, .ref p, m, n, f, r i, r (i + 1), c j, c (j + 1), rfl, ((gg.trans gp9).trans (g15.trans gT2)).tab ht13, hT, by omega, u2, by omega, u4, fun H17 g17 => q' _ _ g17 trivial rfl⟩⟩
      · intro H15 acc15 g15 _ hB hl15 hv15
        have e := rowV_of hl15 hv15
        subst e
        refine ⟨D8, _, rfl, .inl ⟨SqL.of hB, fun p10 np10 => ?_⟩⟩
        have g16 := (gp9.trans g15).snew np10 (o := .tup (rowV (qn - 1) (gnF (fun i j => f (r i) (c j)) i)))
        obtain ⟨acc, hD, hacc, hrow⟩ := hAT.go g16 List.not_mem_nil
        refine ⟨E, acc, .ref p10, rfl, rfl, hD, by rw [hacc]; exact small1000 (by omega), ?_⟩
        refine ⟨_, _, rfl, (gg.trans g16).mut nE, ?_, accR_push hD hacc hrow row_new⟩
        rw [upd_ne (ne_of (g16.tup (gT.tup e8)) hD (by intro z; cases z))]
        exact g16.tup (gT.tup e8)
    · rintro σ H14 ⟨y11, y12, rfl, g14, _, hA⟩
      have hTz : TabOk pn qn := ⟨r1, by omega, c1, by omega⟩
      refine ⟨_, rfl, _, rfl, _, rfl, .ref p, .ref ar, .ref ac, m, n, f, pn, r, qn, c, rfl, g14.tab ht13, hT, g14.idx hr13, g14.idx hc, fun u15 H15 g15 h15 => ⟨u15, pn, qn, _, rfl, h15, hTz, fun u16 H16 g16 hP16 => ?_⟩⟩
      obtain ⟨pz, z1, z2, z3, rfl, hpz, _, _, hz3⟩ := id hP16
      refine ⟨pz, _, 2, z3, rfl, rfl, SqT.of hpz, atI_nat (j := 2) rfl, ?_⟩
      have g156 := g15.trans g16
      have hA2 := hA.go g156 List.not_mem_nil
      obtain ⟨acc, hD, hacc, hrow⟩ := id hA2
      refine ⟨_, rfl, E, acc, rfl, .inl ⟨SqL.of hD, fun p11 np11 => ?_⟩⟩
      have g17 := go_new np11 (o := .tup acc)
      refine ⟨_, _, (g17.tab hz3).dp, (accR_tab hA2 np11 hD).dp, (good_tab _ _ _).shaped (by decide), (good_tab _ _ _).shaped (by decide), ?_⟩
      rw [(good_tab _ _ _).refl]
      have gz := (g14.trans g156).trans g17
      exact q _ (((G11.trans G12).trans G13).trans (gz.up F13.lq)) ((F13.keep gz).mono (by omega))

theorem sc_l_right : FnScope ["_law_feed_here", "_law_table_here", "_law_even", "_law_told", "_law_other", "_law_to", "_law_at"] ["_law_feed_here"] (defScope s_l_right) := ⟨rfl, rfl, rfl, by decide +kernel, rfl, by decide +kernel, by decide +kernel⟩
theorem ok_l_right (D : DefP K mg "_law_right" s_l_right) (C_l_loose : Cal P w K mg base 5 "_law_loose" ["_law_feed_here", "_law_many", "_law_wide"] (sp_l_loose)) (C_l_some_table : Cal P w K mg base 5 "_law_some_table" ["_law_feed_here"] (sp_l_some_table)) (C_l_added_right : Cal P w K mg base 6 "_law_added_right" ["_law_feed_here", "_law_table_here"] (sp_l_added_right)) (C_l_turned_right : Cal P w K mg base 7 "_law_turned_right" ["_law_feed_here", "_law_table_here"] (sp_l_turned_right)) (C_rooms : Cal P w K mg base 7 "rooms" ["table"] (sp_rooms)) (C_turned : Cal P w K mg base 5 "turned" ["table"] (sp_turned)) (m_range : mg "range" = none) (m_len : mg "len" = none) : Cal P w K mg base 8 "_law_right" ["_law_feed_here"] (sp_l_right) := by
  refine cal_mk (k := 7) D sc_l_right (fun vs H Q E h => ?_) (fun _ _ _ _ _ _ us hl => match us, hl with | [_], _ => rfl) (fun f cdv A outer s H vs Q hgd hr h => ?_)
  · obtain ⟨a, k, rfl, _⟩ := h; rfl
  · obtain ⟨a, k, rfl, F, hk, q⟩ := h
    refine ⟨_, (pss_cons (ps_asg (pe_tup (pa_cons (pe_cal C_l_loose hgd hr (pa_cons (pv 0) (pa_cons pe_int (pa_cons pe_int pa_nil)))) (pa_cons (pe_cal C_l_some_table hgd hr (pa_cons (pv 0) pa_nil)) pa_nil))) (pg_tupK K (n := 2) rfl (pgs_cons (pg_name (i := 1) sc_l_right.nd rfl (Or.inl rfl)) (pgs_cons (pg_name (i := 2) sc_l_right.nd rfl (Or.inr rfl)) pgs_nil))))
      (pss_cons (ps_if (PW.pt (pw_or (pt_not (pt_val (pe_cal C_l_added_right hgd hr (pa_cons (pv 0) (pa_cons (pv 1) pa_nil))))) (pw_or (pt_not (pt_val (pe_cal C_l_turned_right hgd hr (pa_cons (pv 0) (pa_cons (pv 1) pa_nil))))) (pw_or1 (pt_not (pt_val (pe_cal C_l_turned_right hgd hr (pa_cons (pv 0) (pa_cons (pv 2) pa_nil))))))))) (pss_one (ps_ret pe_bl)) pss_nil)
      (pss_cons (ps_asg (pe_tup (pa_cons (pe_cal C_rooms hgd hr (pa_cons (pv 2) pa_nil)) (pa_cons (pe_cal C_rooms hgd hr (pa_cons (pe_cal C_turned hgd hr (pa_cons (pv 2) pa_nil)) pa_nil)) pa_nil))) (pg_tupK K (n := 2) rfl (pgs_cons (pg_name (i := 3) sc_l_right.nd rfl (Or.inr rfl)) (pgs_cons (pg_name (i := 4) sc_l_right.nd rfl (Or.inl rfl)) pgs_nil))))
      (pss_one (ps_ret (pe_cmpR (op_eqDK K hr.units) (pv 4) (pe_lc (own := [("_law_to", 5)]) rfl sc_l_right.nd (pi_range1 (by rfl) m_range (pa_cons (pe_callB (call_lenK K) (by rfl) m_len b_len (pa_cons (pe_ix (ix_tupK K) (pv 2) pe_int (fun _ _ => rfl)) pa_nil)) pa_nil)) (blkOk_by (by kernel_rfl)) (fun _ _ _ _ _ => (pg_name (i := 5) sc_l_right.nd rfl (Or.inr rfl))) (fun _ _ _ _ _ => pts_nil) (fun _ _ _ _ _ => (pe_lc (own := [("_law_at", 6)]) rfl sc_l_right.nd (pi_range1 (by rfl) m_range (pa_cons (pe_callB (call_lenK K) (by rfl) m_len b_len (pa_cons (pv 2) pa_nil)) pa_nil)) (blkOk_by (by kernel_rfl)) (fun _ _ _ _ _ => (pg_name (i := 6) sc_l_right.nd rfl (Or.inl rfl))) (fun _ _ _ _ _ => pts_nil) (fun _ _ _ _ _ => (pe_ix (ix_listK K) (pe_ix (ix_listK K) (pv 3) (pv 6) (fun _ _ => rfl)) (pv 5) (fun _ _ => rfl)))))) (nomark _))))))), ?_⟩
    refine ⟨_, rfl, a, 8, 8, k, rfl, F, by omega, by decide, by decide, by decide, by decide, fun u H1 m n f g1 F1 ht hT hb => ⟨_, rfl, a, k + 500, rfl, F1, by omega, fun u2 H2 m2 n2 f2 g2 F2 ht2 hT2 hs2 => ⟨(show 2 ≤ sizeLine by decide), fun T nT => ⟨T, _, rfl, SqT.of upd_same, rfl, _, _, rfl, _, [], rfl, rfl, ?_⟩⟩⟩⟩
    refine cp [some (.ref a), some u, some u2, none, none, none, none] rfl ?_
    have gT := Go.new F2.lq nT (o := .tup [u, u2])
    have F3 := F2.new nT (o := .tup [u, u2])
    refine ⟨_, rfl, _, rfl, a, k + 1000, u, m, n, f, rfl, F3, by omega, (g2.trans gT).tab ht, hT, hb, fun H4 g4 F4 => ⟨true, rfl, iteF ?_⟩⟩
    refine ⟨_, rfl, _, rfl, a, k + 1300, u, m, n, f, rfl, F4, by omega, ((g2.trans gT).trans g4).tab ht, hT, fun H5 g5 F5 => ⟨true, rfl, iteF ?_⟩⟩
    have g45 := (gT.trans g4).trans g5
    refine ⟨_, rfl, _, rfl, a, k + 1400, u2, m2, n2, f2, rfl, F5, by omega, g45.tab ht2, hT2, fun H6 g6 F6 => ⟨true, rfl, iteF ?_⟩⟩
    have ht6 := (g45.trans g6).tab ht2
    have hT2' : TabOk n2 m2 := ⟨hT2.n1, hT2.n8, hT2.m1, hT2.m8⟩
    refine ⟨_, rfl, u2, m2, n2, f2, rfl, ht6, hT2, hs2, fun v7 H7 g7 hR7 => ⟨_, rfl, u2, m2, n2, f2, rfl, g7.tab ht6, hT2, fun u8 H8 g8 h8 => ⟨u8, n2, m2, _, rfl, h8, hT2', straight_turn hs2, fun v9 H9 g9 hR9 => ⟨(show 2 ≤ sizeLine by decide), fun T2 nT2 => ⟨T2, _, rfl, SqT.of upd_same, rfl, _, _, rfl, _, [], rfl, rfl, ?_⟩⟩⟩⟩⟩
    refine cp [some (.ref a), some u, some u2, some v7, some v9, none, none] rfl ?_
    have gT2 := go_new nT2 (o := .tup [v7, v9])
    have g79 := ((g8.trans g9).trans gT2)
    have ht9 := (g7.trans g79).tab ht6
    have hRa := g79.room hR7
    have hRb := gT2.room (hR9.congr (d' := fun t s => downV (m2 - 1) (n2 - 1) (gnF f2) s t) (u' := fun t s => upV (m2 - 1) (n2 - 1) (gnF f2) s t) (fun t s => down_turn (fun i j => gnF_turn f2 i j) t s) (fun t s => up_turn (fun i j => gnF_turn f2 i j) t s))
    have m1 := hT2.m1
    have m8 := hT2.m8
    have n1 := hT2.n1
    have n8 := hT2.n8
    obtain ⟨p, vs, rfl, hp, hl, hkk⟩ := id ht9
    obtain ⟨vs', x0, hp', _, hx0, b0, rfl, hb0⟩ := ht9.at_ (i := 0) m1
    rw [hp] at hp'
    cases hp'
    obtain ⟨a7, _, rfl, _⟩ := id hRa
    refine ⟨_, rfl, _, rfl, p, vs, 0, .ref b0, rfl, rfl, SqT.of hp, atI_nat hx0, b0, _, rfl, .inr (SqT.of hb0), _, rfl, by rw [rowV_len]; omega, by rw [rowV_len]; omega, fun D nD => ?_⟩
    rw [rowV_len, Int.toNat_natCast]
    refine lcND (l := []) walk_range0 (fun _ _ => True) (fun t v H' => PairR D m2 (fun s => downV (m2 - 1) (n2 - 1) (gnF f2) s t) (fun s => upV (m2 - 1) (n2 - 1) (gnF f2) s t) v H') nD lq_nil (by omega) (lcs_pairR (d := fun t s => downV (m2 - 1) (n2 - 1) (gnF f2) s t) (u := fun t s => upV (m2 - 1) (n2 - 1) (gnF f2) s t) fun _ _ _ h => h) trivial (fun _ _ _ _ => trivial) ?_ ?_
    · rintro t x H10 H11 hi g10 _ ⟨es, hD3⟩ ⟨rfl, rfl⟩
      refine ⟨rfl, fun Q' q' => ?_⟩
      refine ⟨_, rfl, p, vs, rfl, .inr (SqT.of (g10.tup hp)), _, rfl, by omega, by omega, fun D2 nD2 => ?_⟩
      rw [Int.toNat_natCast, hl]
      refine lcN (l := []) walk_range0 (fun _ _ => True) (fun s y H' => ∃ p, y = .ref p ∧ H' p = some (.tup [downV (m2 - 1) (n2 - 1) (gnF f2) s t, upV (m2 - 1) (n2 - 1) (gnF f2) s t])) nD2 lq_nil (by omega) (lcs_pair (d := fun s => downV (m2 - 1) (n2 - 1) (gnF f2) s t) (u := fun s => upV (m2 - 1) (n2 - 1) (gnF f2) s t) fun _ _ _ h => h) trivial (fun _ _ _ _ => trivial) ?_ ?_
      · rintro s y H12 H13 hj g12 _ ⟨rfl, rfl⟩
        obtain ⟨vs7, b, ws, pr, e1, e2, e3, e4, e5⟩ := ((g10.trans g12).room hRa).at_ hj hi
        exact ⟨rfl, fun Q2 q2 => ⟨_, rfl, _, rfl, a7, vs7, s, .ref b, rfl, rfl, SqL.of e1, atI_nat e2, _, rfl, b, ws, t, .ref pr, rfl, rfl, SqL.of e3, atI_nat e4, q2 _ _ (Go.refl lq_nil) trivial ⟨pr, rfl, e5⟩⟩⟩
      · intro H12 ws g12 _ hB hl2 hv
        exact q' _ _ g12 trivial ⟨D2, ws, rfl, fun z => ne_of_none hD3 nD2 z.symm, hB, hl2, hv⟩
    intro H10 acc g10 _ hA hl2 hv
    have hRc : RoomL H10 (.ref D) n2 m2 (fun t s => downV (m2 - 1) (n2 - 1) (gnF f2) s t) (fun t s => upV (m2 - 1) (n2 - 1) (gnF f2) s t) := ⟨D, acc, rfl, hA, hl2, fun i x hx => by
      obtain ⟨b, ws, e1, _, e3, e4, e5⟩ := hv i x hx
      exact ⟨b, ws, e1, e3, e4, e5⟩⟩
    refine ⟨_, _, (g10.room hRb).dp fun i j => ⟨leastV_kind _ _, leastV_kind _ _⟩, hRc.dp fun i j => ⟨leastV_kind _ _, leastV_kind _ _⟩, (good_room _ _ _ _).shaped (by decide), (good_room _ _ _ _).shaped (by decide), ?_⟩
    rw [(good_room _ _ _ _).refl]
    exact q _ ((g1.trans g2).trans ((g45.trans g6).trans (((g7.trans g79).trans g10).up F6.lq)))

theorem sc_law : FnScope ["_law_script", "_law_k"] ["_law_script"] (defScope s_law) := ⟨rfl, rfl, rfl, by decide +kernel, rfl, by decide +kernel, by decide +kernel⟩
theorem ok_law {fd : FuncData} {f : Addr} (F : FnP K "law" s_law f fd) (C_l_right : Cal P w K mg base 8 "_law_right" ["_law_feed_here"] (sp_l_right)) (C_l_feed : Cal P w K mg base 1 "_law_feed" ["_law_script", "_law_k"] (sp_l_feed K)) (m_range : mg "range" = none) (m_max : mg "max" = none) (m_min : mg "min" = none) (m_len : mg "len" = none) : FnG P w K mg base 9 f fd ["_law_script"] (sp_law K) := by
  refine fnG_of (k := 8) F sc_law (fun vs H Q E h => ?_) (fun cdv A outer s H vs Q hgd hr h => ?_)
  · obtain ⟨a, ns, rfl, _⟩ := h; rfl
  · obtain ⟨a, ns, rfl, hs, hn, hb, q⟩ := h
    refine ⟨_, (pss_cons (ps_for PassesOwn.never rfl (pi_range1 (by rfl) m_range (pa_cons (pe_callB (call_max2 rfl) (by rfl) m_max b_max (pa_cons pe_int (pa_cons (pe_callB (call_min2 rfl) (by rfl) m_min b_min (pa_cons (pe_callB (call_lenK K) (by rfl) m_len b_len (pa_cons (pv 0) pa_nil)) (pa_cons pe_int pa_nil))) pa_nil))) pa_nil)) (pg_name (i := 1) sc_law.nd rfl (Or.inl rfl)) (pss_one (ps_if (pt_not (pt_val (pe_cal C_l_right hgd hr (pa_cons (pe_cal C_l_feed hgd hr (pa_cons (pv 0) (pa_cons (pv 1) pa_nil))) pa_nil)))) (pss_one (ps_ret pe_bl)) pss_nil)))
      (pss_one (ps_ret pe_bl))), ?_⟩
    refine ⟨_, rfl, a, _, rfl, .inl hs, _, _, rfl, _, _, rfl, _, rfl, ?_⟩
    have hm : ∀ c : Int, c = (if (if (3 : Int) < ((ns.map V.int).length : Nat) then (3 : Int) else ((ns.map V.int).length : Nat)) > 1 then (if (3 : Int) < ((ns.map V.int).length : Nat) then (3 : Int) else ((ns.map V.int).length : Nat)) else 1) → 0 ≤ c ∧ c ≤ 3 := by
      intro c e
      subst e
      split <;> split <;> omega
    have hb1 := hm _ rfl
    refine ⟨by omega, by omega, ?_⟩
    refine for_it walk_range0 (fun i σ H' => ∃ y1, σ = [some (.ref a), y1] ∧ Go [] H H') ⟨_, rfl, go0⟩ (fun _ _ _ _ _ => trivial) ?_ ?_
    · rintro i x σ H1 H2 hi ⟨y1, rfl, g1⟩ ⟨rfl, rfl⟩
      have hi3 : i ≤ 3 := by omega
      refine ⟨_, rfl, _, rfl, a, ns, i, rfl, g1.sq hs, hi3, hn, hb, fun b H3 g3 hb0 F3 => ⟨b, 0, rfl, F3, by omega, fun H4 g4 => ⟨true, rfl, iteF ?_⟩⟩⟩
      exact ⟨_, rfl, g1.trans (g3.hide hb0 g4)⟩
    · rintro σ H1 ⟨y1, rfl, g1⟩
      exact q H1
end
theorem D_is_integer {K : PySem.W.Frag} {h : Heap} {mg : Str → Option Value} (X : K.In h) (G : h.Ns mainGlobals mg) (c : He.SaysD fa fn K) : DefP K mg "is_integer" s_is_integer := by
  obtain ⟨fd, F⟩ := c.def_ 0 (d := d_is_integer) rfl
  exact ⟨_, fd, F, He.glo_ok X G (c.fact 0 (f := .glo "is_integer") rfl)⟩
theorem D_is_within {K : PySem.W.Frag} {h : Heap} {mg : Str → Option Value} (X : K.In h) (G : h.Ns mainGlobals mg) (c : He.SaysD fa fn K) : DefP K mg "is_within" s_is_within := by
  obtain ⟨fd, F⟩ := c.def_ 1 (d := d_is_within) rfl
  exact ⟨_, fd, F, He.glo_ok X G (c.fact 1 (f := .glo "is_within") rfl)⟩
theorem D_is_row_of {K : PySem.W.Frag} {h : Heap} {mg : Str → Option Value} (X : K.In h) (G : h.Ns mainGlobals mg) (c : He.SaysD fa fn K) : DefP K mg "is_row_of" s_is_row_of := by
  obtain ⟨fd, F⟩ := c.def_ 2 (d := d_is_row_of) rfl
  exact ⟨_, fd, F, He.glo_ok X G (c.fact 2 (f := .glo "is_row_of") rfl)⟩
theorem D_are_integers {K : PySem.W.Frag} {h : Heap} {mg : Str → Option Value} (X : K.In h) (G : h.Ns mainGlobals mg) (c : He.SaysD fa fn K) : DefP K mg "are_integers" s_are_integers := by
  obtain ⟨fd, F⟩ := c.def_ 3 (d := d_are_integers) rfl
  exact ⟨_, fd, F, He.glo_ok X G (c.fact 3 (f := .glo "are_integers") rfl)⟩
theorem D_are_numbers {K : PySem.W.Frag} {h : Heap} {mg : Str → Option Value} (X : K.In h) (G : h.Ns mainGlobals mg) (c : He.SaysD fa fn K) : DefP K mg "are_numbers" s_are_numbers := by
  obtain ⟨fd, F⟩ := c.def_ 4 (d := d_are_numbers) rfl
  exact ⟨_, fd, F, He.glo_ok X G (c.fact 4 (f := .glo "are_numbers") rfl)⟩
theorem D_are_rising {K : PySem.W.Frag} {h : Heap} {mg : Str → Option Value} (X : K.In h) (G : h.Ns mainGlobals mg) (c : He.SaysD fa fn K) : DefP K mg "are_rising" s_are_rising := by
  obtain ⟨fd, F⟩ := c.def_ 5 (d := d_are_rising) rfl
  exact ⟨_, fd, F, He.glo_ok X G (c.fact 5 (f := .glo "are_rising") rfl)⟩
theorem D_are_indexes {K : PySem.W.Frag} {h : Heap} {mg : Str → Option Value} (X : K.In h) (G : h.Ns mainGlobals mg) (c : He.SaysD fa fn K) : DefP K mg "are_indexes" s_are_indexes := by
  obtain ⟨fd, F⟩ := c.def_ 6 (d := d_are_indexes) rfl
  exact ⟨_, fd, F, He.glo_ok X G (c.fact 6 (f := .glo "are_indexes") rfl)⟩
theorem D_need_number {K : PySem.W.Frag} {h : Heap} {mg : Str → Option Value} (X : K.In h) (G : h.Ns mainGlobals mg) (c : He.SaysD fa fn K) : DefP K mg "need_number" s_need_number := by
  obtain ⟨fd, F⟩ := c.def_ 7 (d := d_need_number) rfl
  exact ⟨_, fd, F, He.glo_ok X G (c.fact 7 (f := .glo "need_number") rfl)⟩
theorem D_width {K : PySem.W.Frag} {h : Heap} {mg : Str → Option Value} (X : K.In h) (G : h.Ns mainGlobals mg) (c : He.SaysD fa fn K) : DefP K mg "width" s_width := by
  obtain ⟨fd, F⟩ := c.def_ 8 (d := d_width) rfl
  exact ⟨_, fd, F, He.glo_ok X G (c.fact 8 (f := .glo "width") rfl)⟩
theorem D_column_of {K : PySem.W.Frag} {h : Heap} {mg : Str → Option Value} (X : K.In h) (G : h.Ns mainGlobals mg) (c : He.SaysD fa fn K) : DefP K mg "column_of" s_column_of := by
  obtain ⟨fd, F⟩ := c.def_ 9 (d := d_column_of) rfl
  exact ⟨_, fd, F, He.glo_ok X G (c.fact 9 (f := .glo "column_of") rfl)⟩
theorem D_gain_of {K : PySem.W.Frag} {h : Heap} {mg : Str → Option Value} (X : K.In h) (G : h.Ns mainGlobals mg) (c : He.SaysD fa fn K) : DefP K mg "gain_of" s_gain_of := by
  obtain ⟨fd, F⟩ := c.def_ 10 (d := d_gain_of) rfl
  exact ⟨_, fd, F, He.glo_ok X G (c.fact 10 (f := .glo "gain_of") rfl)⟩
theorem D_gain_at {K : PySem.W.Frag} {h : Heap} {mg : Str → Option Value} (X : K.In h) (G : h.Ns mainGlobals mg) (c : He.SaysD fa fn K) : DefP K mg "gain_at" s_gain_at := by
  obtain ⟨fd, F⟩ := c.def_ 11 (d := d_gain_at) rfl
  exact ⟨_, fd, F, He.glo_ok X G (c.fact 11 (f := .glo "gain_at") rfl)⟩
theorem D_gains_of {K : PySem.W.Frag} {h : Heap} {mg : Str → Option Value} (X : K.In h) (G : h.Ns mainGlobals mg) (c : He.SaysD fa fn K) : DefP K mg "gains_of" s_gains_of := by
  obtain ⟨fd, F⟩ := c.def_ 12 (d := d_gains_of) rfl
  exact ⟨_, fd, F, He.glo_ok X G (c.fact 12 (f := .glo "gains_of") rfl)⟩
theorem D_first_paying {K : PySem.W.Frag} {h : Heap} {mg : Str → Option Value} (X : K.In h) (G : h.Ns mainGlobals mg) (c : He.SaysD fa fn K) : DefP K mg "first_paying" s_first_paying := by
  obtain ⟨fd, F⟩ := c.def_ 13 (d := d_first_paying) rfl
  exact ⟨_, fd, F, He.glo_ok X G (c.fact 13 (f := .glo "first_paying") rfl)⟩
theorem D_is_straight_table {K : PySem.W.Frag} {h : Heap} {mg : Str → Option Value} (X : K.In h) (G : h.Ns mainGlobals mg) (c : He.SaysD fa fn K) : DefP K mg "is_straight_table" s_is_straight_table := by
  obtain ⟨fd, F⟩ := c.def_ 14 (d := d_is_straight_table) rfl
  exact ⟨_, fd, F, He.glo_ok X G (c.fact 14 (f := .glo "is_straight_table") rfl)⟩
theorem D_turned_table {K : PySem.W.Frag} {h : Heap} {mg : Str → Option Value} (X : K.In h) (G : h.Ns mainGlobals mg) (c : He.SaysD fa fn K) : DefP K mg "turned_table" s_turned_table := by
  obtain ⟨fd, F⟩ := c.def_ 15 (d := d_turned_table) rfl
  exact ⟨_, fd, F, He.glo_ok X G (c.fact 15 (f := .glo "turned_table") rfl)⟩
theorem D_mirrored_table {K : PySem.W.Frag} {h : Heap} {mg : Str → Option Value} (X : K.In h) (G : h.Ns mainGlobals mg) (c : He.SaysD fa fn K) : DefP K mg "mirrored_table" s_mirrored_table := by
  obtain ⟨fd, F⟩ := c.def_ 16 (d := d_mirrored_table) rfl
  exact ⟨_, fd, F, He.glo_ok X G (c.fact 16 (f := .glo "mirrored_table") rfl)⟩
theorem D_lifted_table {K : PySem.W.Frag} {h : Heap} {mg : Str → Option Value} (X : K.In h) (G : h.Ns mainGlobals mg) (c : He.SaysD fa fn K) : DefP K mg "lifted_table" s_lifted_table := by
  obtain ⟨fd, F⟩ := c.def_ 17 (d := d_lifted_table) rfl
  exact ⟨_, fd, F, He.glo_ok X G (c.fact 17 (f := .glo "lifted_table") rfl)⟩
theorem D_added_table {K : PySem.W.Frag} {h : Heap} {mg : Str → Option Value} (X : K.In h) (G : h.Ns mainGlobals mg) (c : He.SaysD fa fn K) : DefP K mg "added_table" s_added_table := by
  obtain ⟨fd, F⟩ := c.def_ 18 (d := d_added_table) rfl
  exact ⟨_, fd, F, He.glo_ok X G (c.fact 18 (f := .glo "added_table") rfl)⟩
theorem D_scaled_table {K : PySem.W.Frag} {h : Heap} {mg : Str → Option Value} (X : K.In h) (G : h.Ns mainGlobals mg) (c : He.SaysD fa fn K) : DefP K mg "scaled_table" s_scaled_table := by
  obtain ⟨fd, F⟩ := c.def_ 19 (d := d_scaled_table) rfl
  exact ⟨_, fd, F, He.glo_ok X G (c.fact 19 (f := .glo "scaled_table") rfl)⟩
theorem D_thinned_table {K : PySem.W.Frag} {h : Heap} {mg : Str → Option Value} (X : K.In h) (G : h.Ns mainGlobals mg) (c : He.SaysD fa fn K) : DefP K mg "thinned_table" s_thinned_table := by
  obtain ⟨fd, F⟩ := c.def_ 20 (d := d_thinned_table) rfl
  exact ⟨_, fd, F, He.glo_ok X G (c.fact 20 (f := .glo "thinned_table") rfl)⟩
theorem D_have_one_size {K : PySem.W.Frag} {h : Heap} {mg : Str → Option Value} (X : K.In h) (G : h.Ns mainGlobals mg) (c : He.SaysD fa fn K) : DefP K mg "have_one_size" s_have_one_size := by
  obtain ⟨fd, F⟩ := c.def_ 21 (d := d_have_one_size) rfl
  exact ⟨_, fd, F, He.glo_ok X G (c.fact 21 (f := .glo "have_one_size") rfl)⟩
theorem D_is_table_form {K : PySem.W.Frag} {h : Heap} {mg : Str → Option Value} (X : K.In h) (G : h.Ns mainGlobals mg) (c : He.SaysD fa fn K) : DefP K mg "is_table_form" s_is_table_form := by
  obtain ⟨fd, F⟩ := c.def_ 22 (d := d_is_table_form) rfl
  exact ⟨_, fd, F, He.glo_ok X G (c.fact 22 (f := .glo "is_table_form") rfl)⟩
theorem D_need_table {K : PySem.W.Frag} {h : Heap} {mg : Str → Option Value} (X : K.In h) (G : h.Ns mainGlobals mg) (c : He.SaysD fa fn K) : DefP K mg "need_table" s_need_table := by
  obtain ⟨fd, F⟩ := c.def_ 23 (d := d_need_table) rfl
  exact ⟨_, fd, F, He.glo_ok X G (c.fact 23 (f := .glo "need_table") rfl)⟩
theorem D_need_straight {K : PySem.W.Frag} {h : Heap} {mg : Str → Option Value} (X : K.In h) (G : h.Ns mainGlobals mg) (c : He.SaysD fa fn K) : DefP K mg "need_straight" s_need_straight := by
  obtain ⟨fd, F⟩ := c.def_ 24 (d := d_need_straight) rfl
  exact ⟨_, fd, F, He.glo_ok X G (c.fact 24 (f := .glo "need_straight") rfl)⟩
theorem D_need_indexes {K : PySem.W.Frag} {h : Heap} {mg : Str → Option Value} (X : K.In h) (G : h.Ns mainGlobals mg) (c : He.SaysD fa fn K) : DefP K mg "need_indexes" s_need_indexes := by
  obtain ⟨fd, F⟩ := c.def_ 25 (d := d_need_indexes) rfl
  exact ⟨_, fd, F, He.glo_ok X G (c.fact 25 (f := .glo "need_indexes") rfl)⟩
theorem D_need_numbers {K : PySem.W.Frag} {h : Heap} {mg : Str → Option Value} (X : K.In h) (G : h.Ns mainGlobals mg) (c : He.SaysD fa fn K) : DefP K mg "need_numbers" s_need_numbers := by
  obtain ⟨fd, F⟩ := c.def_ 26 (d := d_need_numbers) rfl
  exact ⟨_, fd, F, He.glo_ok X G (c.fact 26 (f := .glo "need_numbers") rfl)⟩
theorem D_lifted {K : PySem.W.Frag} {h : Heap} {mg : Str → Option Value} (X : K.In h) (G : h.Ns mainGlobals mg) (c : He.SaysD fa fn K) : DefP K mg "lifted" s_lifted := by
  obtain ⟨fd, F⟩ := c.def_ 27 (d := d_lifted) rfl
  exact ⟨_, fd, F, He.glo_ok X G (c.fact 27 (f := .glo "lifted") rfl)⟩
theorem D_added {K : PySem.W.Frag} {h : Heap} {mg : Str → Option Value} (X : K.In h) (G : h.Ns mainGlobals mg) (c : He.SaysD fa fn K) : DefP K mg "added" s_added := by
  obtain ⟨fd, F⟩ := c.def_ 28 (d := d_added) rfl
  exact ⟨_, fd, F, He.glo_ok X G (c.fact 28 (f := .glo "added") rfl)⟩
theorem D_scaled {K : PySem.W.Frag} {h : Heap} {mg : Str → Option Value} (X : K.In h) (G : h.Ns mainGlobals mg) (c : He.SaysD fa fn K) : DefP K mg "scaled" s_scaled := by
  obtain ⟨fd, F⟩ := c.def_ 29 (d := d_scaled) rfl
  exact ⟨_, fd, F, He.glo_ok X G (c.fact 29 (f := .glo "scaled") rfl)⟩
theorem D_turned {K : PySem.W.Frag} {h : Heap} {mg : Str → Option Value} (X : K.In h) (G : h.Ns mainGlobals mg) (c : He.SaysD fa fn K) : DefP K mg "turned" s_turned := by
  obtain ⟨fd, F⟩ := c.def_ 30 (d := d_turned) rfl
  exact ⟨_, fd, F, He.glo_ok X G (c.fact 30 (f := .glo "turned") rfl)⟩
theorem D_thinned {K : PySem.W.Frag} {h : Heap} {mg : Str → Option Value} (X : K.In h) (G : h.Ns mainGlobals mg) (c : He.SaysD fa fn K) : DefP K mg "thinned" s_thinned := by
  obtain ⟨fd, F⟩ := c.def_ 31 (d := d_thinned) rfl
  exact ⟨_, fd, F, He.glo_ok X G (c.fact 31 (f := .glo "thinned") rfl)⟩
theorem D_mirrored {K : PySem.W.Frag} {h : Heap} {mg : Str → Option Value} (X : K.In h) (G : h.Ns mainGlobals mg) (c : He.SaysD fa fn K) : DefP K mg "mirrored" s_mirrored := by
  obtain ⟨fd, F⟩ := c.def_ 32 (d := d_mirrored) rfl
  exact ⟨_, fd, F, He.glo_ok X G (c.fact 32 (f := .glo "mirrored") rfl)⟩
theorem D_sums_up_to {K : PySem.W.Frag} {h : Heap} {mg : Str → Option Value} (X : K.In h) (G : h.Ns mainGlobals mg) (c : He.SaysD fa fn K) : DefP K mg "sums_up_to" s_sums_up_to := by
  obtain ⟨fd, F⟩ := c.def_ 33 (d := d_sums_up_to) rfl
  exact ⟨_, fd, F, He.glo_ok X G (c.fact 33 (f := .glo "sums_up_to") rfl)⟩
theorem D_table_of_parts {K : PySem.W.Frag} {h : Heap} {mg : Str → Option Value} (X : K.In h) (G : h.Ns mainGlobals mg) (c : He.SaysD fa fn K) : DefP K mg "table_of_parts" s_table_of_parts := by
  obtain ⟨fd, F⟩ := c.def_ 34 (d := d_table_of_parts) rfl
  exact ⟨_, fd, F, He.glo_ok X G (c.fact 34 (f := .glo "table_of_parts") rfl)⟩
theorem D_least_there {K : PySem.W.Frag} {h : Heap} {mg : Str → Option Value} (X : K.In h) (G : h.Ns mainGlobals mg) (c : He.SaysD fa fn K) : DefP K mg "least_there" s_least_there := by
  obtain ⟨fd, F⟩ := c.def_ 35 (d := d_least_there) rfl
  exact ⟨_, fd, F, He.glo_ok X G (c.fact 35 (f := .glo "least_there") rfl)⟩
theorem D_room_of {K : PySem.W.Frag} {h : Heap} {mg : Str → Option Value} (X : K.In h) (G : h.Ns mainGlobals mg) (c : He.SaysD fa fn K) : DefP K mg "room_of" s_room_of := by
  obtain ⟨fd, F⟩ := c.def_ 36 (d := d_room_of) rfl
  exact ⟨_, fd, F, He.glo_ok X G (c.fact 36 (f := .glo "room_of") rfl)⟩
theorem D_rooms_of {K : PySem.W.Frag} {h : Heap} {mg : Str → Option Value} (X : K.In h) (G : h.Ns mainGlobals mg) (c : He.SaysD fa fn K) : DefP K mg "rooms_of" s_rooms_of := by
  obtain ⟨fd, F⟩ := c.def_ 37 (d := d_rooms_of) rfl
  exact ⟨_, fd, F, He.glo_ok X G (c.fact 37 (f := .glo "rooms_of") rfl)⟩
theorem D_are_parts {K : PySem.W.Frag} {h : Heap} {mg : Str → Option Value} (X : K.In h) (G : h.Ns mainGlobals mg) (c : He.SaysD fa fn K) : DefP K mg "are_parts" s_are_parts := by
  obtain ⟨fd, F⟩ := c.def_ 38 (d := d_are_parts) rfl
  exact ⟨_, fd, F, He.glo_ok X G (c.fact 38 (f := .glo "are_parts") rfl)⟩
theorem D_parts {K : PySem.W.Frag} {h : Heap} {mg : Str → Option Value} (X : K.In h) (G : h.Ns mainGlobals mg) (c : He.SaysD fa fn K) : DefP K mg "parts" s_parts := by
  obtain ⟨fd, F⟩ := c.def_ 39 (d := d_parts) rfl
  exact ⟨_, fd, F, He.glo_ok X G (c.fact 39 (f := .glo "parts") rfl)⟩
theorem D_built {K : PySem.W.Frag} {h : Heap} {mg : Str → Option Value} (X : K.In h) (G : h.Ns mainGlobals mg) (c : He.SaysD fa fn K) : DefP K mg "built" s_built := by
  obtain ⟨fd, F⟩ := c.def_ 40 (d := d_built) rfl
  exact ⟨_, fd, F, He.glo_ok X G (c.fact 40 (f := .glo "built") rfl)⟩
theorem D_need_span {K : PySem.W.Frag} {h : Heap} {mg : Str → Option Value} (X : K.In h) (G : h.Ns mainGlobals mg) (c : He.SaysD fa fn K) : DefP K mg "need_span" s_need_span := by
  obtain ⟨fd, F⟩ := c.def_ 41 (d := d_need_span) rfl
  exact ⟨_, fd, F, He.glo_ok X G (c.fact 41 (f := .glo "need_span") rfl)⟩
theorem D_gain {K : PySem.W.Frag} {h : Heap} {mg : Str → Option Value} (X : K.In h) (G : h.Ns mainGlobals mg) (c : He.SaysD fa fn K) : DefP K mg "gain" s_gain := by
  obtain ⟨fd, F⟩ := c.def_ 42 (d := d_gain) rfl
  exact ⟨_, fd, F, He.glo_ok X G (c.fact 42 (f := .glo "gain") rfl)⟩
theorem D_rooms {K : PySem.W.Frag} {h : Heap} {mg : Str → Option Value} (X : K.In h) (G : h.Ns mainGlobals mg) (c : He.SaysD fa fn K) : DefP K mg "rooms" s_rooms := by
  obtain ⟨fd, F⟩ := c.def_ 43 (d := d_rooms) rfl
  exact ⟨_, fd, F, He.glo_ok X G (c.fact 43 (f := .glo "rooms") rfl)⟩
theorem D_l_feed {K : PySem.W.Frag} {h : Heap} {mg : Str → Option Value} (X : K.In h) (G : h.Ns mainGlobals mg) (c : He.SaysD fa fn K) : DefP K mg "_law_feed" s_l_feed := by
  obtain ⟨fd, F⟩ := c.def_ 44 (d := d_l_feed) rfl
  exact ⟨_, fd, F, He.glo_ok X G (c.fact 44 (f := .glo "_law_feed") rfl)⟩
theorem D_l_draw {K : PySem.W.Frag} {h : Heap} {mg : Str → Option Value} (X : K.In h) (G : h.Ns mainGlobals mg) (c : He.SaysD fa fn K) : DefP K mg "_law_draw" s_l_draw := by
  obtain ⟨fd, F⟩ := c.def_ 45 (d := d_l_draw) rfl
  exact ⟨_, fd, F, He.glo_ok X G (c.fact 45 (f := .glo "_law_draw") rfl)⟩
theorem D_l_one {K : PySem.W.Frag} {h : Heap} {mg : Str → Option Value} (X : K.In h) (G : h.Ns mainGlobals mg) (c : He.SaysD fa fn K) : DefP K mg "_law_one" s_l_one := by
  obtain ⟨fd, F⟩ := c.def_ 46 (d := d_l_one) rfl
  exact ⟨_, fd, F, He.glo_ok X G (c.fact 46 (f := .glo "_law_one") rfl)⟩
theorem D_l_built {K : PySem.W.Frag} {h : Heap} {mg : Str → Option Value} (X : K.In h) (G : h.Ns mainGlobals mg) (c : He.SaysD fa fn K) : DefP K mg "_law_built" s_l_built := by
  obtain ⟨fd, F⟩ := c.def_ 47 (d := d_l_built) rfl
  exact ⟨_, fd, F, He.glo_ok X G (c.fact 47 (f := .glo "_law_built") rfl)⟩
theorem D_l_table {K : PySem.W.Frag} {h : Heap} {mg : Str → Option Value} (X : K.In h) (G : h.Ns mainGlobals mg) (c : He.SaysD fa fn K) : DefP K mg "_law_table" s_l_table := by
  obtain ⟨fd, F⟩ := c.def_ 48 (d := d_l_table) rfl
  exact ⟨_, fd, F, He.glo_ok X G (c.fact 48 (f := .glo "_law_table") rfl)⟩
theorem D_l_sized {K : PySem.W.Frag} {h : Heap} {mg : Str → Option Value} (X : K.In h) (G : h.Ns mainGlobals mg) (c : He.SaysD fa fn K) : DefP K mg "_law_sized" s_l_sized := by
  obtain ⟨fd, F⟩ := c.def_ 49 (d := d_l_sized) rfl
  exact ⟨_, fd, F, He.glo_ok X G (c.fact 49 (f := .glo "_law_sized") rfl)⟩
theorem D_l_loose {K : PySem.W.Frag} {h : Heap} {mg : Str → Option Value} (X : K.In h) (G : h.Ns mainGlobals mg) (c : He.SaysD fa fn K) : DefP K mg "_law_loose" s_l_loose := by
  obtain ⟨fd, F⟩ := c.def_ 50 (d := d_l_loose) rfl
  exact ⟨_, fd, F, He.glo_ok X G (c.fact 50 (f := .glo "_law_loose") rfl)⟩
theorem D_l_set {K : PySem.W.Frag} {h : Heap} {mg : Str → Option Value} (X : K.In h) (G : h.Ns mainGlobals mg) (c : He.SaysD fa fn K) : DefP K mg "_law_set" s_l_set := by
  obtain ⟨fd, F⟩ := c.def_ 51 (d := d_l_set) rfl
  exact ⟨_, fd, F, He.glo_ok X G (c.fact 51 (f := .glo "_law_set") rfl)⟩
theorem D_l_great {K : PySem.W.Frag} {h : Heap} {mg : Str → Option Value} (X : K.In h) (G : h.Ns mainGlobals mg) (c : He.SaysD fa fn K) : DefP K mg "_law_great" s_l_great := by
  obtain ⟨fd, F⟩ := c.def_ 52 (d := d_l_great) rfl
  exact ⟨_, fd, F, He.glo_ok X G (c.fact 52 (f := .glo "_law_great") rfl)⟩
theorem D_l_some_table {K : PySem.W.Frag} {h : Heap} {mg : Str → Option Value} (X : K.In h) (G : h.Ns mainGlobals mg) (c : He.SaysD fa fn K) : DefP K mg "_law_some_table" s_l_some_table := by
  obtain ⟨fd, F⟩ := c.def_ 53 (d := d_l_some_table) rfl
  exact ⟨_, fd, F, He.glo_ok X G (c.fact 53 (f := .glo "_law_some_table") rfl)⟩
theorem D_l_some {K : PySem.W.Frag} {h : Heap} {mg : Str → Option Value} (X : K.In h) (G : h.Ns mainGlobals mg) (c : He.SaysD fa fn K) : DefP K mg "_law_some" s_l_some := by
  obtain ⟨fd, F⟩ := c.def_ 54 (d := d_l_some) rfl
  exact ⟨_, fd, F, He.glo_ok X G (c.fact 54 (f := .glo "_law_some") rfl)⟩
theorem D_l_sums {K : PySem.W.Frag} {h : Heap} {mg : Str → Option Value} (X : K.In h) (G : h.Ns mainGlobals mg) (c : He.SaysD fa fn K) : DefP K mg "_law_sums" s_l_sums := by
  obtain ⟨fd, F⟩ := c.def_ 55 (d := d_l_sums) rfl
  exact ⟨_, fd, F, He.glo_ok X G (c.fact 55 (f := .glo "_law_sums") rfl)⟩
theorem D_l_added_right {K : PySem.W.Frag} {h : Heap} {mg : Str → Option Value} (X : K.In h) (G : h.Ns mainGlobals mg) (c : He.SaysD fa fn K) : DefP K mg "_law_added_right" s_l_added_right := by
  obtain ⟨fd, F⟩ := c.def_ 56 (d := d_l_added_right) rfl
  exact ⟨_, fd, F, He.glo_ok X G (c.fact 56 (f := .glo "_law_added_right") rfl)⟩
theorem D_l_turned_right {K : PySem.W.Frag} {h : Heap} {mg : Str → Option Value} (X : K.In h) (G : h.Ns mainGlobals mg) (c : He.SaysD fa fn K) : DefP K mg "_law_turned_right" s_l_turned_right := by
  obtain ⟨fd, F⟩ := c.def_ 57 (d := d_l_turned_right) rfl
  exact ⟨_, fd, F, He.glo_ok X G (c.fact 57 (f := .glo "_law_turned_right") rfl)⟩
theorem D_l_right {K : PySem.W.Frag} {h : Heap} {mg : Str → Option Value} (X : K.In h) (G : h.Ns mainGlobals mg) (c : He.SaysD fa fn K) : DefP K mg "_law_right" s_l_right := by
  obtain ⟨fd, F⟩ := c.def_ 58 (d := d_l_right) rfl
  exact ⟨_, fd, F, He.glo_ok X G (c.fact 58 (f := .glo "_law_right") rfl)⟩
theorem facts {P : Program} {w : World} {K : PySem.W.Frag} {h : Heap} {mg : Str → Option Value} {f : Addr} (X : K.In h) (G : h.Ns mainGlobals mg) (hfa : mg ("law" : Str) = some (.ref f)) (c : He.SaysD fa fn K) :
    ∃ fd : FuncData, (∀ (s : Shared) (v : Value), BindsTo s fd ⟨[v], []⟩ [("_law_script", v)]) ∧ ∀ base : Heap, FnG P w K mg base 9 f fd ["_law_script"] (sp_law K) := by
  obtain ⟨fd, F⟩ := c.def_ 59 (d := d_law) rfl
  have e := hfa.symm.trans (He.glo_ok X G (c.fact 59 (f := .glo "law") rfl))
  cases e
  have b := FunD.bindsA (ps := ["_law_script"]) F fun _ _ _ _ _ _ us hl => match us, hl with | [_], _ => rfl
  obtain ⟨t_MOST_ROWS, c_MOST_ROWS⟩ := He.int_ok X G (c.fact 60 (f := .int "MOST_ROWS" 8) rfl)
  obtain ⟨t_MOST_TIMES, c_MOST_TIMES⟩ := He.int_ok X G (c.fact 61 (f := .int "MOST_TIMES" 1000000000) rfl)
  obtain ⟨t_MOST_LEFT, c_MOST_LEFT⟩ := He.int_ok X G (c.fact 62 (f := .int "MOST_LEFT" 8) rfl)
  obtain ⟨t_MOST_TOP, c_MOST_TOP⟩ := He.int_ok X G (c.fact 63 (f := .int "MOST_TOP" 7) rfl)
  have m_isinstance : mg "isinstance" = none := He.free_ok X G (c.fact 64 (f := .free "isinstance") rfl)
  have m_tuple : mg "tuple" = none := He.free_ok X G (c.fact 65 (f := .free "tuple") rfl)
  have m_int : mg "int" = none := He.free_ok X G (c.fact 66 (f := .free "int") rfl)
  have m_bool : mg "bool" = none := He.free_ok X G (c.fact 67 (f := .free "bool") rfl)
  have m_all : mg "all" = none := He.free_ok X G (c.fact 68 (f := .free "all") rfl)
  have m_zip : mg "zip" = none := He.free_ok X G (c.fact 69 (f := .free "zip") rfl)
  have m_len : mg "len" = none := He.free_ok X G (c.fact 70 (f := .free "len") rfl)
  have m_range : mg "range" = none := He.free_ok X G (c.fact 71 (f := .free "range") rfl)
  have m_enumerate : mg "enumerate" = none := He.free_ok X G (c.fact 72 (f := .free "enumerate") rfl)
  have m_repr : mg "repr" = none := He.free_ok X G (c.fact 73 (f := .free "repr") rfl)
  have m_sum : mg "sum" = none := He.free_ok X G (c.fact 74 (f := .free "sum") rfl)
  have m_max : mg "max" = none := He.free_ok X G (c.fact 75 (f := .free "max") rfl)
  have m_min : mg "min" = none := He.free_ok X G (c.fact 76 (f := .free "min") rfl)
  have m_list : mg "list" = none := He.free_ok X G (c.fact 77 (f := .free "list") rfl)
  refine ⟨fd, fun s v => b s [v] rfl, fun base => ?_⟩
  have C_is_integer : Cal P w K mg base 1 "is_integer" ["thing"] (sp_is_integer) := ok_is_integer (D_is_integer X G c) m_isinstance m_int m_bool
  have C_is_row_of : Cal P w K mg base 1 "is_row_of" ["thing", "least", "most"] (sp_is_row_of) := ok_is_row_of (D_is_row_of X G c) m_isinstance m_tuple m_len
  have C_are_rising : Cal P w K mg base 1 "are_rising" ["numbers"] (sp_are_rising) := ok_are_rising (D_are_rising X G c) m_all m_zip
  have C_width : Cal P w K mg base 1 "width" ["table"] (sp_width) := ok_width (D_width X G c) m_len
  have C_column_of : Cal P w K mg base 1 "column_of" ["table", "column"] (sp_column_of) := ok_column_of (D_column_of X G c) m_tuple
  have C_gain_of : Cal P w K mg base 1 "gain_of" ["table", "row", "other", "column", "last"] (sp_gain_of) := ok_gain_of (D_gain_of X G c) 
  have C_mirrored_table : Cal P w K mg base 1 "mirrored_table" ["table"] (sp_mirrored_table) := ok_mirrored_table (D_mirrored_table X G c) 
  have C_lifted_table : Cal P w K mg base 1 "lifted_table" ["table", "rows", "columns"] (sp_lifted_table) := ok_lifted_table (D_lifted_table X G c) m_zip m_tuple
  have C_added_table : Cal P w K mg base 1 "added_table" ["table", "other"] (sp_added_table) := ok_added_table (D_added_table X G c) m_zip m_tuple
  have C_scaled_table : Cal P w K mg base 1 "scaled_table" ["table", "times"] (sp_scaled_table) := ok_scaled_table (D_scaled_table X G c) m_tuple
  have C_thinned_table : Cal P w K mg base 1 "thinned_table" ["table", "rows", "columns"] (sp_thinned_table) := ok_thinned_table (D_thinned_table X G c) m_tuple
  have C_sums_up_to : Cal P w K mg base 1 "sums_up_to" ["numbers"] (sp_sums_up_to) := ok_sums_up_to (D_sums_up_to X G c) 
  have C_least_there : Cal P w K mg base 1 "least_there" ["gains", "places"] (sp_least_there) := ok_least_there (D_least_there X G c) m_len m_min
  have C_l_feed : Cal P w K mg base 1 "_law_feed" ["_law_script", "_law_k"] (sp_l_feed K) := ok_l_feed (D_l_feed X G c) m_sum m_len m_max m_int
  have C_l_draw : Cal P w K mg base 1 "_law_draw" ["_law_feed_here", "_law_many"] (sp_l_draw) := ok_l_draw (D_l_draw X G c) m_int
  have C_l_built : Cal P w K mg base 1 "_law_built" ["_law_left", "_law_top", "_law_gains"] (sp_l_built) := ok_l_built (D_l_built X G c) m_enumerate m_sum m_tuple
  have C_l_set : Cal P w K mg base 1 "_law_set" ["_law_table_here", "_law_at", "_law_to", "_law_number"] (sp_l_set) := ok_l_set (D_l_set X G c) 
  have C_l_sums : Cal P w K mg base 1 "_law_sums" ["_law_one_here", "_law_other"] (sp_l_sums) := ok_l_sums (D_l_sums X G c) m_tuple m_zip
  have C_is_within : Cal P w K mg base 2 "is_within" ["thing", "least", "most"] (sp_is_within) := ok_is_within (D_is_within X G c) C_is_integer
  have C_are_integers : Cal P w K mg base 2 "are_integers" ["thing", "many"] (sp_are_integers) := ok_are_integers (D_are_integers X G c) C_is_row_of C_is_integer m_all
  have C_gain_at : Cal P w K mg base 2 "gain_at" ["table", "row", "column"] (sp_gain_at) := ok_gain_at (D_gain_at X G c) C_gain_of
  have C_turned_table : Cal P w K mg base 2 "turned_table" ["table"] (sp_turned_table) := ok_turned_table (D_turned_table X G c) C_width C_column_of m_tuple m_range
  have C_have_one_size : Cal P w K mg base 2 "have_one_size" ["table", "other"] (sp_have_one_size) := ok_have_one_size (D_have_one_size X G c) C_width m_len
  have C_table_of_parts : Cal P w K mg base 2 "table_of_parts" ["left", "top", "gains"] (sp_table_of_parts) := ok_table_of_parts (D_table_of_parts X G c) C_sums_up_to m_tuple m_enumerate m_zip
  have C_room_of : Cal P w K mg base 2 "room_of" ["gains", "row", "column"] (sp_room_of) := ok_room_of (D_room_of X G c) C_least_there
  have C_l_one : Cal P w K mg base 2 "_law_one" ["_law_feed_here", "_law_things"] (sp_l_one) := ok_l_one (D_l_one X G c) C_l_draw m_len
  have C_l_great : Cal P w K mg base 2 "_law_great" ["_law_feed_here"] (sp_l_great) := ok_l_great (D_l_great X G c) C_l_draw C_l_built m_range
  have C_l_some : Cal P w K mg base 2 "_law_some" ["_law_feed_here", "_law_many"] (sp_l_some) := ok_l_some (D_l_some X G c) C_l_draw m_range m_tuple
  have C_are_numbers : Cal P w K mg base 3 "are_numbers" ["thing", "many", "count"] (sp_are_numbers) := ok_are_numbers (D_are_numbers X G c) C_is_row_of C_is_within m_all
  have C_need_number : Cal P w K mg base 3 "need_number" ["number", "least", "most"] (sp_need_number) := ok_need_number (D_need_number X G c) C_is_within
  have C_gains_of : Cal P w K mg base 3 "gains_of" ["table"] (sp_gains_of) := ok_gains_of (D_gains_of X G c) C_width C_gain_at m_range m_len m_tuple
  have C_is_table_form : Cal P w K mg base 3 "is_table_form" ["thing"] (sp_is_table_form) := ok_is_table_form (D_is_table_form X G c) C_is_row_of C_are_integers m_all m_len c_MOST_ROWS
  have C_need_numbers : Cal P w K mg base 3 "need_numbers" ["numbers", "many"] (sp_need_numbers) := ok_need_numbers (D_need_numbers X G c) C_are_integers
  have C_are_parts : Cal P w K mg base 3 "are_parts" ["thing"] (sp_are_parts) := ok_are_parts (D_are_parts X G c) C_is_row_of C_are_integers m_len m_all c_MOST_LEFT c_MOST_TOP
  have C_need_span : Cal P w K mg base 3 "need_span" ["first", "second", "count"] (sp_need_span) := ok_need_span (D_need_span X G c) C_is_within
  have C_l_sized : Cal P w K mg base 3 "_law_sized" ["_law_feed_here", "_law_rows", "_law_columns"] (sp_l_sized) := ok_l_sized (D_l_sized X G c) C_l_one C_l_draw C_l_built m_range
  have C_are_indexes : Cal P w K mg base 4 "are_indexes" ["thing", "count"] (sp_are_indexes) := ok_are_indexes (D_are_indexes X G c) C_is_row_of C_are_numbers C_are_rising m_len
  have C_first_paying : Cal P w K mg base 4 "first_paying" ["table"] (sp_first_paying) := ok_first_paying (D_first_paying X G c) C_gains_of m_enumerate
  have C_need_table : Cal P w K mg base 4 "need_table" ["table"] (sp_need_table) := ok_need_table (D_need_table X G c) C_is_table_form
  have C_rooms_of : Cal P w K mg base 4 "rooms_of" ["table"] (sp_rooms_of) := ok_rooms_of (D_rooms_of X G c) C_gains_of C_room_of m_range m_len
  have C_built : Cal P w K mg base 4 "built" ["told"] (sp_built) := ok_built (D_built X G c) C_are_parts C_table_of_parts
  have C_l_table : Cal P w K mg base 4 "_law_table" ["_law_feed_here", "_law_many", "_law_wide"] (sp_l_table) := ok_l_table (D_l_table X G c) C_l_draw C_l_sized
  have C_is_straight_table : Cal P w K mg base 5 "is_straight_table" ["table"] (sp_is_straight_table) := ok_is_straight_table (D_is_straight_table X G c) C_first_paying
  have C_need_indexes : Cal P w K mg base 5 "need_indexes" ["indexes", "count"] (sp_need_indexes) := ok_need_indexes (D_need_indexes X G c) C_are_indexes
  have C_lifted : Cal P w K mg base 5 "lifted" ["table", "rows", "columns"] (sp_lifted) := ok_lifted (D_lifted X G c) C_need_table C_need_numbers C_width C_lifted_table m_len
  have C_added : Cal P w K mg base 5 "added" ["table", "other"] (sp_added) := ok_added (D_added X G c) C_need_table C_have_one_size C_added_table
  have C_scaled : Cal P w K mg base 5 "scaled" ["table", "times"] (sp_scaled) := ok_scaled (D_scaled X G c) C_need_table C_need_number C_scaled_table c_MOST_TIMES
  have C_turned : Cal P w K mg base 5 "turned" ["table"] (sp_turned) := ok_turned (D_turned X G c) C_need_table C_turned_table
  have C_mirrored : Cal P w K mg base 5 "mirrored" ["table"] (sp_mirrored) := ok_mirrored (D_mirrored X G c) C_need_table C_mirrored_table
  have C_parts : Cal P w K mg base 5 "parts" ["table"] (sp_parts) := ok_parts (D_parts X G c) C_need_table C_gains_of m_tuple
  have C_gain : Cal P w K mg base 5 "gain" ["table", "row", "other", "column", "last"] (sp_gain) := ok_gain (D_gain X G c) C_need_table C_need_span C_width C_gain_of m_len
  have C_l_loose : Cal P w K mg base 5 "_law_loose" ["_law_feed_here", "_law_many", "_law_wide"] (sp_l_loose) := ok_l_loose (D_l_loose X G c) C_l_table C_l_draw C_l_set C_l_one m_len m_tuple
  have C_l_some_table : Cal P w K mg base 5 "_law_some_table" ["_law_feed_here"] (sp_l_some_table) := ok_l_some_table (D_l_some_table X G c) C_l_draw C_l_great C_l_table
  have C_need_straight : Cal P w K mg base 6 "need_straight" ["table"] (sp_need_straight) := ok_need_straight (D_need_straight X G c) C_need_table C_is_straight_table
  have C_thinned : Cal P w K mg base 6 "thinned" ["table", "rows", "columns"] (sp_thinned) := ok_thinned (D_thinned X G c) C_need_table C_need_indexes C_width C_thinned_table m_len
  have C_l_added_right : Cal P w K mg base 6 "_law_added_right" ["_law_feed_here", "_law_table_here"] (sp_l_added_right) := ok_l_added_right (D_l_added_right X G c) C_parts C_l_one C_l_draw C_l_sums C_added C_built C_lifted C_scaled m_tuple m_zip m_repr
  have C_rooms : Cal P w K mg base 7 "rooms" ["table"] (sp_rooms) := ok_rooms (D_rooms X G c) C_need_straight C_rooms_of
  have C_l_turned_right : Cal P w K mg base 7 "_law_turned_right" ["_law_feed_here", "_law_table_here"] (sp_l_turned_right) := ok_l_turned_right (D_l_turned_right X G c) C_parts C_turned C_mirrored C_l_some C_gain C_thinned m_tuple m_range m_len m_list m_zip
  have C_l_right : Cal P w K mg base 8 "_law_right" ["_law_feed_here"] (sp_l_right) := ok_l_right (D_l_right X G c) C_l_loose C_l_some_table C_l_added_right C_l_turned_right C_rooms C_turned m_range m_len
  exact ok_law F C_l_right C_l_feed m_range m_max m_min m_len
end K24
open PySem PySem.W PySem.Calls PyProof.Rows
theorem PySem.Challenge.cw_straightleast_k24_whole_parts_of_changed_holds : PySem.Challenge.rw_straightleast_k24_whole_parts_of_changed.Holds := by
  w_on; o_law
  refine HandSHeadRun.head_any (r := K24.R) (q := view K24.R.prog [79]) (H := K24.hk) (ob := K24.ob) (M := 6000) (loose := K24.looseA) (d := HandSHeadRun.topDef K24.R.prog 79) (kwd := []) K24.ob_eq
    (by kernel_rfl) (fun s => by kernel_rfl) K24.run (by kernel_rfl) (by kernel_rfl) (by kernel_rfl) (by rfl) (by first | assumption | decide +kernel) (by decide +kernel) ⟨rfl, rfl, rfl, rfl, rfl, by decide +kernel⟩ ?hw ?hc
  case hw => w_witness2
  case hc =>
    refine K24.walkG (l := PySem.Challenge.rw_straightleast_k24_whole_parts_of_changed) (n := 63) (k := 9) (x := "_law_script") rfl (by decide) (by kernel_rfl) ⟨rfl, by decide, by decide⟩ ?F
    intro w mg fa h Y G hmg0
    obtain ⟨K, KX, c⟩ := Y
    have hmg : mg ("law" : PySem.Str) = some (.ref fa) := by
      have e : (HandSHeadRun.topDef K24.R.prog 79).name = ("law" : PySem.Str) := by kernel_rfl
      rw [← e]
      exact hmg0
    obtain ⟨fd, hb, hF⟩ := K24.facts (P := (PySem.Challenge.rw_straightleast_k24_whole_parts_of_changed).prog) (w := w) KX G hmg c
    exact ⟨K, fd, K24.sp_law K, KX, hb, fun H a ns hl hbits _ hS => ⟨a, ns, rfl, hS, hl, hbits, fun _ => rfl⟩, fun base _ _ => hF base⟩
